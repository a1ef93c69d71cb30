import PyProof.Rows.All
import Wide.All
import OpenK.AllK
import Wide.FinOn
import KE.KStateDown
import HandS.Base
import HandS.Call
import HandS.List
import HandS.Comp
import HandS.Ends
import HandS.Dict
import HandS.Iter
import HandS.Text
import HandS.More
import HandS.Words
import HandS.WordsList
import HandS.WordsDict
import HandS.WordsExc
import HandS.Defaults
import HandS.Deep
import HandS.IsInst
import HandS.ClsMeth
import HandS.StrMore
import HandS.Evl
import HandS.Head0
import HandS.Head1
import HandS.Head2
import HandS.HeadEnd
import HandS.HeadHook1
import HandS.HeadHook2
import PySem.Challenge.RW_lampway_k64_whole_shortest_round
import KE.GoesMore
import KE.GoesEnum
import KE.KDictKeyed
import KE.KDictOf
import PyProof.EnumMake
import HandS.SetFor
import HandS.Replace
set_option Elab.async false
set_option linter.all false
set_option maxRecDepth 100000
set_option maxHeartbeats 4000000
namespace Lw
open PySem PySem.Spec PyProof.Rows L2
/-! the text by places -/
def top (i : Nat) : Stmt := PySem.Challenge.pw_lampway_k64_whole_shortest_round.main.body.getD i (.Pass ⟨0, 0, 0, 0⟩)
abbrev s_bow : Stmt := top 2
abbrev s_ways_meet : Stmt := top 3
abbrev s_meet : Stmt := top 4
abbrev s_gap : Stmt := top 5
abbrev s_Needs_init : Stmt := inClass (top 7) 0
abbrev s_first_order : Stmt := top 8
abbrev s_ordered : Stmt := top 9
abbrev s_is_ordered : Stmt := top 10
abbrev s_ring_turns : Stmt := top 11
abbrev s_ring_rounds : Stmt := top 12
abbrev s_rings_of : Stmt := top 14
abbrev s_open_pair : Stmt := top 15
abbrev s_order_size : Stmt := top 16
abbrev s_best_order : Stmt := top 17
abbrev s_settled : Stmt := top 18
abbrev s_paper_of : Stmt := top 19
abbrev s_shortest : Stmt := top 20
abbrev s_Way_init : Stmt := inClass (top 26) 0
abbrev s_Way_ready : Stmt := inClass (top 26) 1
abbrev s_Way_fade : Stmt := inClass (top 26) 2
abbrev s_CarWay_init : Stmt := inClass (top 27) 0
abbrev s_CarWay_fade : Stmt := inClass (top 27) 1
abbrev s_FootWay_init : Stmt := inClass (top 28) 0
abbrev s_FootWay_ready : Stmt := inClass (top 28) 1
abbrev s_FootWay_fade : Stmt := inClass (top 28) 2
abbrev s_TramWay_init : Stmt := inClass (top 29) 0
abbrev s_TramWay_ready : Stmt := inClass (top 29) 1
abbrev s_words : Stmt := top 33
abbrev s_figured : Stmt := top 34
abbrev s_is_name : Stmt := top 35
abbrev s_Crossing_init : Stmt := inClass (top 39) 0
abbrev s_Crossing_number : Stmt := inClass (top 39) 2
abbrev s_Crossing_called : Stmt := inClass (top 39) 3
abbrev s_made_way : Stmt := top 40
abbrev s_read_head : Stmt := top 41
abbrev s_read_numbers : Stmt := top 42
abbrev s_read_way : Stmt := top 43
abbrev s_read_crossing : Stmt := top 44
abbrev s_law_draw : Stmt := top 46
abbrev s_law_places : Stmt := top 47
abbrev s_law_names : Stmt := top 48
abbrev s_law_ways : Stmt := top 49
abbrev s_law_text : Stmt := top 50
abbrev s_law_is_met : Stmt := top 51
abbrev s_law_wanted : Stmt := top 52
abbrev s_law_alone : Stmt := top 53
abbrev s_law_behind : Stmt := top 54
abbrev s_law_ahead : Stmt := top 55
abbrev s_law_ring_bears : Stmt := top 56
abbrev s_law_bears : Stmt := top 57
abbrev s_law_is_want : Stmt := top 58
abbrev s_law_is_formed : Stmt := top 59
abbrev s_law_do : Stmt := top 60
abbrev s_law_are_begins : Stmt := top 61
abbrev s_law : Stmt := top 62
def d_bow : He.DefD := ⟨("bow", none), "bow", "bow", defArgs s_bow, defBody s_bow, defScope s_bow, [], []⟩
def d_ways_meet : He.DefD := ⟨("ways_meet", none), "ways_meet", "ways_meet", defArgs s_ways_meet, defBody s_ways_meet, defScope s_ways_meet, [], []⟩
def d_meet : He.DefD := ⟨("meet", none), "meet", "meet", defArgs s_meet, defBody s_meet, defScope s_meet, [], []⟩
def d_gap : He.DefD := ⟨("gap", none), "gap", "gap", defArgs s_gap, defBody s_gap, defScope s_gap, [], []⟩
def d_Needs_init : He.DefD := ⟨("Needs", some "__init__"), "__init__", "Needs.__init__", defArgs s_Needs_init, defBody s_Needs_init, defScope s_Needs_init, [], []⟩
def d_first_order : He.DefD := ⟨("first_order", none), "first_order", "first_order", defArgs s_first_order, defBody s_first_order, defScope s_first_order, [], []⟩
def d_ordered : He.DefD := ⟨("ordered", none), "ordered", "ordered", defArgs s_ordered, defBody s_ordered, defScope s_ordered, [], []⟩
def d_is_ordered : He.DefD := ⟨("is_ordered", none), "is_ordered", "is_ordered", defArgs s_is_ordered, defBody s_is_ordered, defScope s_is_ordered, [], []⟩
def d_ring_turns : He.DefD := ⟨("ring_turns", none), "ring_turns", "ring_turns", defArgs s_ring_turns, defBody s_ring_turns, defScope s_ring_turns, [], []⟩
def d_ring_rounds : He.DefD := ⟨("ring_rounds", none), "ring_rounds", "ring_rounds", defArgs s_ring_rounds, defBody s_ring_rounds, defScope s_ring_rounds, [], []⟩
def d_rings_of : He.DefD := ⟨("rings_of", none), "rings_of", "rings_of", defArgs s_rings_of, defBody s_rings_of, defScope s_rings_of, [], []⟩
def d_open_pair : He.DefD := ⟨("open_pair", none), "open_pair", "open_pair", defArgs s_open_pair, defBody s_open_pair, defScope s_open_pair, [], []⟩
def d_order_size : He.DefD := ⟨("order_size", none), "order_size", "order_size", defArgs s_order_size, defBody s_order_size, defScope s_order_size, [], []⟩
def d_best_order : He.DefD := ⟨("best_order", none), "best_order", "best_order", defArgs s_best_order, defBody s_best_order, defScope s_best_order, [], []⟩
def d_settled : He.DefD := ⟨("settled", none), "settled", "settled", defArgs s_settled, defBody s_settled, defScope s_settled, [], []⟩
def d_paper_of : He.DefD := ⟨("paper_of", none), "paper_of", "paper_of", defArgs s_paper_of, defBody s_paper_of, defScope s_paper_of, [], []⟩
def d_shortest : He.DefD := ⟨("shortest", none), "shortest", "shortest", defArgs s_shortest, defBody s_shortest, defScope s_shortest, [], []⟩
def d_Way_init : He.DefD := ⟨("Way", some "__init__"), "__init__", "Way.__init__", defArgs s_Way_init, defBody s_Way_init, defScope s_Way_init, [], []⟩
def d_Way_ready : He.DefD := ⟨("CarWay", some "ready"), "ready", "Way.ready", defArgs s_Way_ready, defBody s_Way_ready, defScope s_Way_ready, [], []⟩
def d_Way_fade : He.DefD := ⟨("TramWay", some "fade"), "fade", "Way.fade", defArgs s_Way_fade, defBody s_Way_fade, defScope s_Way_fade, [], []⟩
def d_CarWay_init : He.DefD := ⟨("CarWay", some "__init__"), "__init__", "CarWay.__init__", defArgs s_CarWay_init, defBody s_CarWay_init, defScope s_CarWay_init, [], []⟩
def d_CarWay_fade : He.DefD := ⟨("CarWay", some "fade"), "fade", "CarWay.fade", defArgs s_CarWay_fade, defBody s_CarWay_fade, defScope s_CarWay_fade, [], []⟩
def d_FootWay_init : He.DefD := ⟨("FootWay", some "__init__"), "__init__", "FootWay.__init__", defArgs s_FootWay_init, defBody s_FootWay_init, defScope s_FootWay_init, [], []⟩
def d_FootWay_ready : He.DefD := ⟨("FootWay", some "ready"), "ready", "FootWay.ready", defArgs s_FootWay_ready, defBody s_FootWay_ready, defScope s_FootWay_ready, [], []⟩
def d_FootWay_fade : He.DefD := ⟨("FootWay", some "fade"), "fade", "FootWay.fade", defArgs s_FootWay_fade, defBody s_FootWay_fade, defScope s_FootWay_fade, [], []⟩
def d_TramWay_init : He.DefD := ⟨("TramWay", some "__init__"), "__init__", "TramWay.__init__", defArgs s_TramWay_init, defBody s_TramWay_init, defScope s_TramWay_init, [], []⟩
def d_TramWay_ready : He.DefD := ⟨("TramWay", some "ready"), "ready", "TramWay.ready", defArgs s_TramWay_ready, defBody s_TramWay_ready, defScope s_TramWay_ready, [], []⟩
def d_words : He.DefD := ⟨("words", none), "words", "words", defArgs s_words, defBody s_words, defScope s_words, [], []⟩
def d_figured : He.DefD := ⟨("figured", none), "figured", "figured", defArgs s_figured, defBody s_figured, defScope s_figured, [], []⟩
def d_is_name : He.DefD := ⟨("is_name", none), "is_name", "is_name", defArgs s_is_name, defBody s_is_name, defScope s_is_name, [], []⟩
def d_Crossing_init : He.DefD := ⟨("Crossing", some "__init__"), "__init__", "Crossing.__init__", defArgs s_Crossing_init, defBody s_Crossing_init, defScope s_Crossing_init, [], []⟩
def d_Crossing_number : He.DefD := ⟨("Crossing", some "number"), "number", "Crossing.number", defArgs s_Crossing_number, defBody s_Crossing_number, defScope s_Crossing_number, [], []⟩
def d_Crossing_called : He.DefD := ⟨("Crossing", some "called"), "called", "Crossing.called", defArgs s_Crossing_called, defBody s_Crossing_called, defScope s_Crossing_called, [], []⟩
def d_made_way : He.DefD := ⟨("made_way", none), "made_way", "made_way", defArgs s_made_way, defBody s_made_way, defScope s_made_way, [], []⟩
def d_read_head : He.DefD := ⟨("read_head", none), "read_head", "read_head", defArgs s_read_head, defBody s_read_head, defScope s_read_head, [], []⟩
def d_read_numbers : He.DefD := ⟨("read_numbers", none), "read_numbers", "read_numbers", defArgs s_read_numbers, defBody s_read_numbers, defScope s_read_numbers, [], []⟩
def d_read_way : He.DefD := ⟨("read_way", none), "read_way", "read_way", defArgs s_read_way, defBody s_read_way, defScope s_read_way, [], []⟩
def d_read_crossing : He.DefD := ⟨("read_crossing", none), "read_crossing", "read_crossing", defArgs s_read_crossing, defBody s_read_crossing, defScope s_read_crossing, [], []⟩
def d_law_draw : He.DefD := ⟨("_law_draw", none), "_law_draw", "_law_draw", defArgs s_law_draw, defBody s_law_draw, defScope s_law_draw, [], []⟩
def d_law_places : He.DefD := ⟨("_law_places", none), "_law_places", "_law_places", defArgs s_law_places, defBody s_law_places, defScope s_law_places, [], []⟩
def d_law_names : He.DefD := ⟨("_law_names", none), "_law_names", "_law_names", defArgs s_law_names, defBody s_law_names, defScope s_law_names, [], []⟩
def d_law_ways : He.DefD := ⟨("_law_ways", none), "_law_ways", "_law_ways", defArgs s_law_ways, defBody s_law_ways, defScope s_law_ways, [], []⟩
def d_law_text : He.DefD := ⟨("_law_text", none), "_law_text", "_law_text", defArgs s_law_text, defBody s_law_text, defScope s_law_text, [], []⟩
def d_law_is_met : He.DefD := ⟨("_law_is_met", none), "_law_is_met", "_law_is_met", defArgs s_law_is_met, defBody s_law_is_met, defScope s_law_is_met, [], []⟩
def d_law_wanted : He.DefD := ⟨("_law_wanted", none), "_law_wanted", "_law_wanted", defArgs s_law_wanted, defBody s_law_wanted, defScope s_law_wanted, [], []⟩
def d_law_alone : He.DefD := ⟨("_law_alone", none), "_law_alone", "_law_alone", defArgs s_law_alone, defBody s_law_alone, defScope s_law_alone, [], []⟩
def d_law_behind : He.DefD := ⟨("_law_behind", none), "_law_behind", "_law_behind", defArgs s_law_behind, defBody s_law_behind, defScope s_law_behind, [], []⟩
def d_law_ahead : He.DefD := ⟨("_law_ahead", none), "_law_ahead", "_law_ahead", defArgs s_law_ahead, defBody s_law_ahead, defScope s_law_ahead, [], []⟩
def d_law_ring_bears : He.DefD := ⟨("_law_ring_bears", none), "_law_ring_bears", "_law_ring_bears", defArgs s_law_ring_bears, defBody s_law_ring_bears, defScope s_law_ring_bears, [], []⟩
def d_law_bears : He.DefD := ⟨("_law_bears", none), "_law_bears", "_law_bears", defArgs s_law_bears, defBody s_law_bears, defScope s_law_bears, [], []⟩
def d_law_is_want : He.DefD := ⟨("_law_is_want", none), "_law_is_want", "_law_is_want", defArgs s_law_is_want, defBody s_law_is_want, defScope s_law_is_want, [], []⟩
def d_law_is_formed : He.DefD := ⟨("_law_is_formed", none), "_law_is_formed", "_law_is_formed", defArgs s_law_is_formed, defBody s_law_is_formed, defScope s_law_is_formed, [], []⟩
def d_law_do : He.DefD := ⟨("_law_do", none), "_law_do", "_law_do", defArgs s_law_do, defBody s_law_do, defScope s_law_do, [], []⟩
def d_law_are_begins : He.DefD := ⟨("_law_are_begins", none), "_law_are_begins", "_law_are_begins", defArgs s_law_are_begins, defBody s_law_are_begins, defScope s_law_are_begins, [], []⟩
def d_law : He.DefD := ⟨("law", none), "law", "law", defArgs s_law, defBody s_law, defScope s_law, [], []⟩
def fn : List He.DefD := [d_bow, d_ways_meet, d_meet, d_gap, d_Needs_init, d_first_order, d_ordered, d_is_ordered, d_ring_turns, d_ring_rounds, d_rings_of, d_open_pair, d_order_size, d_best_order, d_settled, d_paper_of, d_shortest, d_Way_init, d_Way_ready, d_Way_fade, d_CarWay_init, d_CarWay_fade, d_FootWay_init, d_FootWay_ready, d_FootWay_fade, d_TramWay_init, d_TramWay_ready, d_words, d_figured, d_is_name, d_Crossing_init, d_Crossing_number, d_Crossing_called, d_made_way, d_read_head, d_read_numbers, d_read_way, d_read_crossing, d_law_draw, d_law_places, d_law_names, d_law_ways, d_law_text, d_law_is_met, d_law_wanted, d_law_alone, d_law_behind, d_law_ahead, d_law_ring_bears, d_law_bears, d_law_is_want, d_law_is_formed, d_law_do, d_law_are_begins, d_law]
def fa : List He.Fa := [.glo "bow",
  .glo "ways_meet",
  .glo "meet",
  .glo "gap",
  .glo "first_order",
  .glo "ordered",
  .glo "is_ordered",
  .glo "ring_turns",
  .glo "ring_rounds",
  .glo "rings_of",
  .glo "open_pair",
  .glo "order_size",
  .glo "best_order",
  .glo "settled",
  .glo "paper_of",
  .glo "shortest",
  .glo "words",
  .glo "figured",
  .glo "is_name",
  .glo "made_way",
  .glo "read_head",
  .glo "read_numbers",
  .glo "read_way",
  .glo "read_crossing",
  .glo "_law_draw",
  .glo "_law_places",
  .glo "_law_names",
  .glo "_law_ways",
  .glo "_law_text",
  .glo "_law_is_met",
  .glo "_law_wanted",
  .glo "_law_alone",
  .glo "_law_behind",
  .glo "_law_ahead",
  .glo "_law_ring_bears",
  .glo "_law_bears",
  .glo "_law_is_want",
  .glo "_law_is_formed",
  .glo "_law_do",
  .glo "_law_are_begins",
  .glo "law",
  .glo "Needs",
  .cls "Needs",
  .mkr "Needs",
  .noat "Needs" "alone",
  .noat "Needs" "behind",
  .glo "CarWay",
  .cls "CarWay",
  .mkr "CarWay",
  .noat "CarWay" "name",
  .noat "CarWay" "start",
  .noat "CarWay" "end",
  .noat "CarWay" "off",
  .noat "CarWay" "near",
  .noat "CarWay" "least",
  .noat "CarWay" "kind",
  .meth "CarWay" "ready",
  .meth "CarWay" "fade",
  .glo "FootWay",
  .cls "FootWay",
  .mkr "FootWay",
  .noat "FootWay" "name",
  .noat "FootWay" "start",
  .noat "FootWay" "end",
  .noat "FootWay" "off",
  .noat "FootWay" "near",
  .noat "FootWay" "least",
  .noat "FootWay" "kind",
  .meth "FootWay" "ready",
  .meth "FootWay" "fade",
  .glo "TramWay",
  .cls "TramWay",
  .mkr "TramWay",
  .noat "TramWay" "name",
  .noat "TramWay" "start",
  .noat "TramWay" "end",
  .noat "TramWay" "off",
  .noat "TramWay" "near",
  .noat "TramWay" "least",
  .noat "TramWay" "kind",
  .meth "TramWay" "ready",
  .meth "TramWay" "fade",
  .glo "Crossing",
  .cls "Crossing",
  .mkr "Crossing",
  .noat "Crossing" "places",
  .noat "Crossing" "own_ways",
  .meth "Crossing" "number",
  .meth "Crossing" "called",
  .glo "Way",
  .free "len",
  .free "range",
  .free "enumerate",
  .free "max",
  .free "min",
  .free "dict",
  .free "list",
  .free "str",
  .free "isinstance",
  .free "tuple",
  .free "int",
  .free "bool",
  .str "FIGURES" "0123456789",
  .str "LETTERS" "abcdefghijklmnopqrstuvwxyz",
  .int "MOST_WAYS" 12,
  .glo "SORTS"]
/-! the hook: the facts by names, and one Bool more -/
/-- C.m, read off the class C, is the def itself -/
def cfnB (K : PySem.W.Frag) (C m : Str) : Bool := PySem.W.readsIn K (He.ga K C) (.type "type") &&
  (He.eqO (PySem.W.specialIn K (.ref (He.ga K C)) "__getattribute__") (some (some (.builtin "type.__getattribute__"))) &&
  (match PySem.W.findCls K (.ref (He.ga K C)) (.type "type") m with
  | some (.val (.ref g)) => decide (g = He.ma K (He.ga K C) m) && PySem.W.keepIn K (.ref g)
  | _ => false))
def exB (K : PySem.W.Frag) : Bool := He.tupB K "SORTS" [.str "car", .str "foot", .str "tram"] && cfnB K "Way" "__init__"
def asY (g : Addr → Option Obj) (n : Nat) : List Addr := PySem.cStatics :: He.asD g n
abbrev AlY : Type := He.AlD × Bool
def obsY (n : Nat) (g : Addr → Option Obj) : AlY := (He.obsD fa fn (He.frG g (asY g n)), exB (He.frG g (asY g n)))
def valY : AlY := (He.valD fn, true)
def hookY (n : Nat) : PySem.W.Hook where
  α := AlY
  obs := fun s => obsY n s.heap.get?
  val := fun _ => valY
  says := fun _ h => ∃ K : PySem.W.Frag, K.In h ∧ He.SaysD fa fn K ∧ exB K = true
  of := fun _ _ e => ⟨_, He.frG_in, congrArg (fun z : AlY => z.1) e, congrArg (fun z : AlY => z.2) e⟩
  keeps := fun _ _ _ ⟨K, hK, c⟩ k => ⟨K, PySem.W.Frag.In.keeps hK k, c⟩
theorem obsY_eq {n : Nat} {g : Addr → Option Obj} {s : Shared} (h : ∀ a, g a = s.heap.get? a) : obsY n g = (hookY n).obs s := by
  have e : g = s.heap.get? := funext h
  rw [e] <;> rfl
end Lw


set_option Elab.async false
set_option linter.all false
set_option maxRecDepth 100000
set_option maxHeartbeats 4000000
namespace Lw
open PySem PySem.Spec PyProof.Rows L2
/-! ### a def read off its class: C.m(e, ..) -/
theorem pe_cfn {X : Cx} {k : Nat} {C g : Addr} {fd : FuncData} {ps : List Str} {sp : Sp} {o e : Expr} {es : List Expr} {m : Str} {pos apos : Pos} {t : TA} {pl : Sem Bool} {mc : Value}
    (he : PE X o (tC (.ref C))) (hrd : PySem.W.readsIn X.K C mc = true) (hga : PySem.W.specialIn X.K (.ref C) "__getattribute__" = some (some (.builtin "type.__getattribute__")))
    (hat : PySem.W.findCls X.K (.ref C) mc m = some (.val (.ref g))) (hkp : PySem.W.keepIn X.K (.ref g) = true)
    (F : FnOk X.prog X.w X.K X.mg X.base CX0 k g fd ps sp) (hr : Room k X.A) (hb : Binds X.K fd ps []) (ha : PA X (e :: es) t)
    (hst : starEach (e :: es) X.env = (false, eval e X.env) :: starEach es X.env := by rfl) (hpl : (backTo pos (starEach es X.env)).any (·.1) = false := by rfl)
    (ht : eval (.Call (.Attribute o m apos) (e :: es) [] pos) X.env = (do
      let ov ← eval o X.env
      standAt apos.atName
      let (f, first) ← holding [ov] (getMethod ov m pl)
      callWith pos f first (backTo pos (starEach (e :: es) X.env)) (backToKw pos (keywordEach [] X.env))) := by rfl) :
    PE X (.Call (.Attribute o m apos) (e :: es) [] pos) (tCall sp [] E0 t) := by
  refine ⟨fun pins s σ H Q I h => ?_⟩
  refine PySem.W.methodCall_KW (pl := pl) (thn (he.run pins s σ H (fun x H1 => x = V.ref C ∧ t σ H1 fun vs H2 => sp (vs ++ []) H2 Q E0) I ⟨rfl, h⟩) fun u s1 ⟨x, H1, I1, rx, ex, q⟩ => ?_) ht
  subst ex
  obtain rfl : u = Value.ref C := rx
  refine PySem.W.method_cls I1.kIn hga (PySem.W.cls_value I1.kIn hrd hat (handed_of (v := V.ref g) rfl) ?_)
  have I2 : Inv X pins σ H1 { s1 with toks := s1.toks + 1 } := I1.tok _
  refine PySem.W.callWith_K (first := []) (h₀ := X.base) I.ok.mod.kin hkp (thn (ha.run pos pins _ σ H1 _ I2 q) fun us s2 ⟨vs, H2, I3, r, q2⟩ => ⟨I3.kIn, ?_⟩) hst hpl
  exact run_fn F hr hb .nil pass0 I3 r q2

/-! ### t.count(k), t a tuple of ints -/
def rCntT (K : PySem.W.Frag) : V → List V → Hp → VK → Prop := fun x xs H Q => ∃ (p : Addr) (ns : List Int) (k : Int), x = .ref p ∧ xs = [.int k] ∧ SqT K H p (ns.map V.int) ∧ Q (.int (ns.count k : Nat)) H
theorem mt_tcount {X : Cx} : MtR X "tuple.count" (rCntT X.K) := by
  intro pins s σ H x xs v us Q I rx rxs h
  obtain ⟨p, ns, k, rfl, rfl, hs, q⟩ := h
  cases rx
  obtain ⟨u, rfl, ru⟩ := rxs.one
  obtain ⟨t, rfl⟩ := ru
  obtain ⟨its, rv, ⟨⟨cls, dd, data, sl⟩, ho, hc, n, hd⟩, hlen⟩ := I.tuple hs
  simp only at hc hd
  subst hc hd
  have hi := ints_of_vals rv
  refine call_meets PySem.F.slot_tuple_count ⟨_, ho, rfl⟩ PySem.F.entry_tuple_count (PySem.F.args_tuple_count_2 _ _)
    (SeqAt.tuple_countAt p its.toArray n dd sl (.int k t) (eqk k)) ⟨ho, fun y hy => (eqk_gives hi y (by simpa using hy)).at _ _, ?_⟩
  have ec : its.toArray.toList.countP (eqk k) = ns.count k := eqk_count hi
  refine ⟨.int (ns.count k : Nat), H, I.tok _, ⟨s.toks, ?_⟩, q⟩
  show Value.int ((its.toArray.toList.countP (eqk k) : Nat) : Int) s.toks = Value.int ((ns.count k : Nat) : Int) s.toks
  rw [ec]

/-! ### a tuple that is known to have no dict: laid, joined, counted in -/
def tTupF (t : TA) : TE := fun σ H Q => t σ H fun xs H1 => xs.length ≤ sizeLine ∧ ∀ (p : Addr) (o : Obj), H1 p = none → o.dict = none → Q (.ref p) (upd H1 p (.frz o (.tup xs)))
theorem pe_tupF {X : Cx} {es : List Expr} {t : TA} {x1 : Nat} {pos : Pos} (h : PA X es t) : PE X (.Tuple es x1 pos) (tTupF t) := by
  refine ⟨fun pins s σ H Q I hq => ?_⟩
  refine wpAny_Tuple_spliced (thn (h.run pos pins s σ H _ I hq) fun us s1 ⟨xs, H1, I1, r, z, q⟩ => ⟨by rw [← r.length]; exact z, ?_⟩)
  have fr : H1 s1.heap.objs.size = none := I1.hok.fresh (Nat.le_refl _)
  refine ⟨.ref s1.heap.objs.size, upd H1 s1.heap.objs.size (.frz { cls := .type "tuple", data := .seq us.toArray } (.tup xs)), I1.laid (t' := s1.toks) (fun b u e => Heap.get?_push_of_some _ e) (Nat.le_refl _) ?_, rfl, q _ _ fr rfl⟩
  exact ⟨Heap.get?_push_size _ rfl, z, us, r, ⟨_, Heap.get?_push_size _ rfl, rfl, _, rfl⟩⟩
def rCatTF (K : PySem.W.Frag) : R2 := fun x y H Q => ∃ a b xs ys, x = .ref a ∧ y = .ref b ∧ SqT K H a xs ∧ SqT K H b ys ∧ xs ≠ [] ∧ ys ≠ [] ∧ xs.length + ys.length ≤ sizeLine ∧
  ∀ (p : Addr) (o : Obj), H p = none → o.dict = none → Q (.ref p) (upd H p (.frz o (.tup (xs ++ ys))))
theorem op_catTF {X : Cx} : OpR X (binaryOp .Add) (rCatTF X.K) := by
  intro pins s σ H x y v u Q I rx ry h
  obtain ⟨a, b, xs, ys, rfl, rfl, ha, hb, hx, hy, hz, q2⟩ := h
  cases rx
  cases ry
  obtain ⟨us1, r1, p1, _⟩ := I.tuple ha
  obtain ⟨us2, r2, p2, _⟩ := I.tuple hb
  refine HT.cat_tup p1 p2 (fun z => hx (r1.nil_iff.mp z)) (fun z => absurd (r2.nil_iff.mp z) hy) (fun z => ?_) (by rw [← r1.length, ← r2.length]; exact hz)
  refine ⟨.ref s.heap.objs.size, _, I.laid (t' := s.toks) (o := .frz { cls := .type "tuple", data := .seq (us1 ++ us2).toArray } (.tup (xs ++ ys))) (fun b ob q => Heap.get?_push_of_some _ q) (Nat.le_refl _) ?_, rfl, q2 _ _ (I.hok.fresh (Nat.le_refl _)) rfl⟩
  exact ⟨Heap.get?_push_size _ rfl, by rw [List.length_append]; exact hz, _, r1.append r2, IsTup.new _ _⟩
def tCntF (K : PySem.W.Frag) (to : TE) (t : TA) : TE := fun σ H Q => to σ H fun x H1 => (∃ (p : Addr) (ob : Obj) (xs : List V), x = .ref p ∧ H1 p = some (.frz ob (.tup xs)) ∧ ob.dict = none) ∧ t σ H1 fun xs H2 => rCntT K x xs H2 Q
theorem pe_tcnt {X : Cx} {o e : Expr} {es : List Expr} {to : TE} {t : TA} {apos cpos : Pos} (ho : PE X o to) (ha : PA X (e :: es) t)
    (hbase : attributeBase o "count" X.env (eval o X.env) = eval o X.env := by rfl)
    (hfew : ((backTo cpos (starEach (e :: es) X.env)).all (fun x => !x.1) && (backToKw cpos (keywordEach [] X.env)).all (fun x => x.1.isSome)
      && decide ((e :: es).length + ([] : List Keyword).length + (if ([] : List Keyword).isEmpty then 0 else 1) < 30)) = true := by rfl)
    (hline : (apos.endLine == cpos.line) = true := by rfl) (hs : starEach (e :: es) X.env = (false, eval e X.env) :: starEach es X.env := by rfl) (hplain : (backTo cpos (starEach es X.env)).any (·.1) = false := by rfl) :
    PE X (.Call (.Attribute o "count" apos) (e :: es) [] cpos) (tCntF X.K to t) := by
  refine ⟨fun pins s σ H Q I h => ?_⟩
  refine wpAny_Call_method_late hbase hfew hline rfl (thn (ho.run pins s σ H _ I h) fun v s1 ⟨x, H1, I1, r1, kn, q1⟩ => ?_)
  obtain ⟨p, ob, xs0, rfl, hp, hd⟩ := kn
  cases r1
  have hget : s1.heap.get? p = some ob := (I1.hok p _ hp).1
  obtain ⟨its, _, pl, _⟩ := I1.tuple (show SqT X.K H1 p xs0 from Or.inl (Or.inr ⟨ob, hp⟩))
  refine ⟨"tuple", "tuple.count", PySem.F.plainAttrs_tuple, PySem.F.slot_tuple_count, PySem.F.type_tuple_count, pl.typeIs, fun a e => ?_, ?_⟩
  · cases e
    exact ⟨ob, hget, hd⟩
  have hA := ha.run cpos pins s1 σ H1 _ I1 q1
  rw [hs] at hA ⊢
  refine Calls.callWith_builtin (by show (false || (backTo cpos (starEach es X.env)).any (·.1)) = false; rw [hplain] <;> rfl) (Calls.evalArgs_plain ?_)
  exact thn hA fun us s2 ⟨vs, H2, I2, r2, q2⟩ => mt_tcount pins s2 σ H2 (V.ref p) vs (Value.ref p) us Q I2 rfl r2 q2

/-! ### dict(d), d a dict whose keys are tuples -/
def keyHs (w : World) (prog : Program) (kvs : List (List Key × V)) : List Int := kvs.map fun p => (tupleKind (mixKind prog w)).hash p.1
def rDictT (P : Program) (w : World) : List V → Hp → VK → Prop := fun xs H Q => ∃ (a : Addr) (kvs : List (List Key × V)), xs = [.ref a] ∧ H a = some (.dT kvs) ∧ (keyHs w P kvs).Nodup ∧ ∀ p, H p = none → Q (.ref p) (upd H p (.dT kvs))
theorem KT.len {H : Hp} {kvs : List (List Key × V)} {xs : List (List Key × Addr × Value)} (r : KT H kvs xs) : kvs.length = xs.length := Paired.length r
theorem KT.hashes {P : Program} {w : World} {H : Hp} : ∀ {kvs : List (List Key × V)} {xs : List (List Key × Addr × Value)}, KT H kvs xs → (xs.map fun x => (tupleKind (mixKind P w)).hash x.1) = keyHs w P kvs
  | _, _, .nil => rfl
  | _, _, .cons r t => by
    show (tupleKind (mixKind P w)).hash _ :: _ = (tupleKind (mixKind P w)).hash _ :: _
    rw [← r.1, KT.hashes t]
    rfl
theorem call_dictT {X : Cx} (hu : X.A.units + 5 < cLine) : CallR X (.type "dict") (rDictT X.prog X.w) := by
  intro pins s σ H xs us Q I r h
  obtain ⟨a, kvs, rfl, hd, hn, q⟩ := h
  obtain ⟨u, rfl, rx⟩ := vals1 r
  cases rx
  obtain ⟨z, lo, ms, rel, dd⟩ := dt_of I.hok hd
  have hm : (s.heap.objs.size == sysModules) = false := beq_eq_false_iff_ne.mpr (Nat.ne_of_gt I.big)
  refine callType_codes (Q₁ := fun obj s₁ => obj = .ref s.heap.objs.size ∧ s₁ = { s with heap := s.heap.push { cls := .type "dict", data := .dict #[] } }) PySem.F.kt_called_dict (PySem.F.kt_typeCall_dict_1 _) PySem.F.entry_dict_init (kt_code_dict_new _ ⟨rfl, rfl⟩) ?_
  rintro obj s₁ ⟨rfl, rfl⟩
  have hnew : (s.heap.push { cls := .type "dict", data := .dict #[] }).DictOfH (tupleKind (mixKind X.prog X.w)) s.heap.objs.size [] := Heap.DictOfH.new s.heap
  have ha : a < s.heap.objs.size := by
    obtain ⟨_, _, _, hg, _⟩ := dd
    exact Heap.lt_size hg
  have hdo : s.heap.objs.size ≠ a := Nat.ne_of_gt ha
  have hk1 : ∀ b o, s.heap.get? b = some o → (s.heap.push { cls := .type "dict", data := .dict #[] }).get? b = some o := fun b o e => Heap.get?_push_of_some _ e
  have st := tupleKind_stays (knd := mixKind X.prog X.w)
  have ho' : (s.heap.push { cls := .type "dict", data := .dict #[] }).DictOfH (tupleKind (mixKind X.prog X.w)) a ms := by
    obtain ⟨o, es, ep, hg, h1, h2, h3, h4, h5⟩ := dd
    exact ⟨o, es, ep, hk1 _ _ hg, h1, h2, h3, fun x hx => st.stays (fun b o _ _ e _ => hk1 b o e) (h4 x hx), h5⟩
  refine ⟨hnew.typeIs, PySem.F.args_dict_init_2 _ _, ?_⟩
  unfold Builtin.«dict.__init__»
  refine wpAny_bind ?_
  unfold Builtin.Dict.selfAndRest
  refine wpAny_bind (wpAny_notOrdered_dict hnew.typeIs ?_)
  show wpAny _ _ (pure (s.heap.objs.size, [Value.ref a])) _ _ _
  refine wpAny_pure ?_
  show wpAny _ _ (Builtin.Dict.updateFrom "dict.__init__" s.heap.objs.size (.ref a) [] .none) _ _ _
  unfold Builtin.Dict.updateFrom
  refine wpAny_bind (wpAny_typeOf ho'.typeIs ?_)
  rw [if_neg (by decide)]
  refine wpAny_bind ?_
  unfold Builtin.Dict.merge
  refine wpAny_bind ?_
  unfold Builtin.Dict.readDirectly
  refine wpAny_bind (wpAny_isInstance ho'.typeIs isSubtype_dict_dict ?_)
  simp only [Bool.not_true, Bool.false_eq_true, if_false]
  refine wpAny_bind (wpAny_specialOf ho'.typeIs PySem.F.slot_dict_iter.lookup (wpAny_pure ?_))
  simp only [beq_self_eq_true, if_true]
  refine wpAny_bind (wpAny_pure ?_)
  have hsz : ([] : List (List Key × Addr × Value)).length + ms.length ≤ sizeLine := by
    rw [← KT.len rel]
    simpa using z
  refine wpAny_mergeDict_heap (hsz := hsz) (tupleKind_room_in1 (show X.A.units + 1 + 1 < cLine by omega)) hdo lo hnew ho' (.inr ⟨keyed_apart st ho', by rw [KT.hashes rel]; exact hn⟩) fun h' hd' _ hs' => ?_
  show wpAny _ _ (Builtin.Dict.addKeywords s.heap.objs.size [] >>= _) _ _ _
  refine wpAny_bind (wpAny_pure (wpAny_pure ⟨rfl, ?_⟩))
  have hnd : (ms.map (·.1)).Nodup := ho'.nodup
  rw [storedAllH_nil_of_nodup ms hnd] at hd'
  obtain ⟨o2, es2, ep2, g1, g2, g3, g4, g5, g6⟩ := hd'
  have hk2 : ∀ b o, s.heap.get? b = some o → h'.get? b = some o := fun b o e => (hs'.2 b (Nat.ne_of_lt (Heap.lt_size e))).trans (hk1 b o e)
  have nw : H s.heap.objs.size = none := I.hok.fresh (Nat.le_refl _)
  refine ⟨.ref s.heap.objs.size, upd H s.heap.objs.size (.dT kvs), I.laid (t' := s.toks) hk2 (Nat.le_refl _) ?_, rfl, q _ nw⟩
  exact ⟨z, hm, ms, Paired.mapP rel fun _ _ w => ⟨w.1, by rw [upd_ne (ne_of_none w.2.1 nw)]; exact w.2.1, w.2.2⟩, o2, es2, ep2, g1, g2, g3, g4, g6⟩

/-! ### enumerate(t), t a tuple -/
theorem meets_enumerate_newT (l : Addr) (items : Array Value) (n : Nat) (dct : Option Addr) (sl : Array (Option Value)) :
    Meets (Builtin.«enumerate.__new__» ⟨[.type "enumerate", .ref l], []⟩) (fun _ R s => s.heap.get? l = some { cls := .type "tuple", dict := dct, data := .seq items n, slots := sl } ∧
      R (.ok (.ret (.ref (s.heap.push { cls := .type "tuple_iterator", data := .fields #[.ref l, .int 0 0] }).objs.size)))
        { s with heap := (s.heap.push { cls := .type "tuple_iterator", data := .fields #[.ref l, .int 0 0] }).push { cls := .type "enumerate", data := .fields #[.none, .bool false, .ref s.heap.objs.size, rawInt 0, .none, .none] } }) :=
  .of_wp fun prog w A R s h => by
    obtain ⟨hp, g, d, tk, os⟩ := s; obtain ⟨hl, h⟩ := h
    have hsub := sub_enumerate
    have hL : Heap.IsTuple (Shared.heap ⟨hp, g, d, tk, os⟩) l items := ⟨_, hl, rfl, n, rfl⟩
    wp_walk using AutoSeq1.wpAny_loadPart' hl
    refine wpAny_stack_any fun st => wpAny_pure ?_
    split
    · rename_i c _ _ _ _ _
      cases (c == Value.type "enumerate")
      · wp_walk using AutoSeq1.wpAny_loadPart' hl, wpAny_pyIter_tuple hL
        exact ⟨_, rfl, h⟩
      · wp_walk using AutoSeq1.wpAny_loadPart' hl, wpAny_pyIter_tuple hL
        exact ⟨_, rfl, h⟩
    · wp_walk using AutoSeq1.wpAny_loadPart' hl, wpAny_pyIter_tuple hL
      exact ⟨_, rfl, h⟩
theorem call_enumerate_tuple {prog : Program} {w : World} {A : Around} {E : Value → Shared → Prop} {s : Shared} {l : Addr} {items : Array Value} {Q : Value → Shared → Prop} (hL : s.heap.IsTuple l items)
    (h : ∀ h', IsEnum h' (s.heap.objs.size + 1) s.heap.objs.size 0 .none → h'.IsTupleIter s.heap.objs.size l 0 → h'.objs.size = s.heap.objs.size + 2 →
      (∀ b o, s.heap.get? b = some o → h'.get? b = some o) → Q (.ref (s.heap.objs.size + 1)) { s with heap := h' }) :
    wpAny (model prog w) A (call (.type "enumerate") [.ref l]) Q E s := by
  obtain ⟨⟨c, dct, dt, sl⟩, hl, hc, n, hd⟩ := hL
  replace hc : c = .type "tuple" := hc
  replace hd : dt = .seq items n := hd
  subst hc hd
  refine callType_new PySem.F.called_enumerate (by decide) (PySem.F.typeCall_enumerate_1 _) (PySem.F.newCall_enumerate_1 _) (fun obj => PySem.F.args_object_init_2 obj _) PySem.F.entry_enumerate_new
    (meets_enumerate_newT l items n dct sl) ⟨hl, ?_⟩
  have hz : (s.heap.push { cls := .type "tuple_iterator", data := .fields #[.ref l, .int 0 0] }).objs.size = s.heap.objs.size + 1 := Heap.size_push ..
  show _ ∧ _
  rw [hz]
  have he : IsEnum ((s.heap.push { cls := .type "tuple_iterator", data := .fields #[.ref l, .int 0 0] }).push
      { cls := .type "enumerate", data := .fields #[.none, .bool false, .ref s.heap.objs.size, rawInt 0, .none, .none] }) (s.heap.objs.size + 1) s.heap.objs.size 0 .none := by
    have := Heap.get?_push_size (s.heap.push { cls := .type "tuple_iterator", data := .fields #[.ref l, .int 0 0] })
      (o := { cls := .type "enumerate", data := .fields #[.none, .bool false, .ref s.heap.objs.size, rawInt 0, .none, .none] }) rfl
    rw [hz] at this; exact this
  refine ⟨⟨_, he, rfl⟩, h _ he ⟨_, Heap.get?_push_of_some _ (Heap.get?_push_size _ rfl), rfl, rfl⟩ (by rw [Heap.size_push, hz]) fun b o x => Heap.get?_push_of_some _ (Heap.get?_push_of_some _ x)⟩
def IteT (K : PySem.W.Frag) (a : Addr) : It :=
  ⟨fun i H => ∃ (xs : List V) (x : V), SqT K H a xs ∧ xs[i]? = some x, fun i H v H' => ∃ T x, v = .ref T ∧ H T = none ∧ H' = upd H T (.tup [.int (i : Nat), x]) ∧ ∀ xs, SqT K H a xs → xs[i]? = some x, fun i H => ∃ xs : List V, SqT K H a xs ∧ i = xs.length⟩
theorem turn_enumT {P : Program} {w : World} {K : PySem.W.Frag} {elts : List Expr} {kk : Nat} {tpos : Pos} (a e it : Addr) (hait : a ≠ it) (hea : e ≠ a) :
    Turn P w K (.Tuple elts kk tpos) (IteT K a) [e, it] e (fun i h => (∃ old, IsEnum h e it ((i : Nat) : Int) old) ∧ h.IsTupleIter it a i ∧ e ≠ it) where
  mem := by simp
  obj := fun i h st b hb => by
    obtain ⟨⟨old, he⟩, ⟨o, ho, hc, hd⟩, _⟩ := st
    have e' : b = e ∨ b = it := by simpa using hb
    rcases e' with z | z
    · rw [z]; exact ⟨_, he, fun v q => nomatch q⟩
    · rw [z]; exact ⟨o, ho, fun v q => by rw [hd] at q; cases q⟩
  keep := fun i h h' st k => let ⟨⟨old, he⟩, hi, hne⟩ := st; ⟨⟨old, k e (by simp) _ he⟩, hi.at fun o q => k it (by simp) o q, hne⟩
  item := by
    intro X hP hw hK hc i pins s σ H E I hf st hg
    subst hP hw hK
    obtain ⟨⟨old, he⟩, hit, hne⟩ := st
    obtain ⟨xs, x, hq, hx⟩ := hg
    obtain ⟨its, rv, p, hz⟩ := I.tuple hq
    obtain ⟨u, hu, ru⟩ := rv.get hx
    have hel : e < s.heap.objs.size := Heap.lt_size he
    have hil : it < s.heap.objs.size := by obtain ⟨_, q, _⟩ := hit; exact Heap.lt_size q
    have hil2 : i < its.toArray.size := by
      rw [List.size_toArray]
      exact (List.getElem?_eq_some_iff.mp hu).1
    refine wpAny_pyNext_enum_itemD (Draws.tuple (A := X.A.in1) (show X.A.in1.handled = none from I.ok.hd hc) it a hait its.toArray) he ⟨hit, p⟩ hil2 hne (by simp [hne, hea]) fun y h' tk hy ho hst' hT hsz hk => ?_
    obtain ⟨hit', _⟩ := hst'
    have ey : y = u := by
      have h1 : its.toArray[i]? = some y := hy
      rw [List.getElem?_toArray, hu] at h1
      exact (Option.some.inj h1).symm
    subst ey
    refine ⟨_, rfl, wpAny_letOwnedTupleGo_enum (s := { s with heap := h', toks := tk + 1 }) ho fun h'' he' sb => ?_⟩
    have hT2 : h''.get? s.heap.objs.size = some { cls := .type "tuple", data := .seq #[.int i tk, y] } := (sb.2 _ (Nat.ne_of_gt hel)).trans hT
    have new : ObjOk X.prog X.w (upd H s.heap.objs.size (.tup [.int (i : Nat), x])) h'' s.heap.objs.size (.tup [.int (i : Nat), x]) :=
      ⟨by show 2 ≤ sizeLine; decide, [.int i tk, y], .cons ⟨_, rfl⟩ (.cons ru .nil), ⟨_, hT2, rfl, _, rfl⟩⟩
    have I1 : Inv X pins σ (upd H s.heap.objs.size (.tup [.int (i : Nat), x])) { s with heap := h'', toks := tk + 1 } :=
      I.turnedNew (ch := [e, it]) (fun b ob hb q => (sb.2 b (fun z => hb (by simp [z]))).trans (hk b ob (fun z => hb (by simp [z])) (fun z => hb (by simp [z])) q)) hf (Nat.le_refl _) new
    refine ⟨.ref s.heap.objs.size, _, I1, rfl, ⟨_, x, rfl, I.hok.fresh (Nat.le_refl _), rfl, fun ys hy => by rw [I.tuple_inj hy hq]; exact hx⟩, ⟨⟨y, ?_⟩, hit'.at fun o q => (sb.2 it (Ne.symm hne)).trans q, hne⟩, fun b hb => ?_⟩
    · have e1 : ((i + 1 : Nat) : Int) = (i : Int) + 1 := by omega
      rw [e1]; exact he'
    · have hb' : b < s.heap.objs.size := by
        have e' : b = e ∨ b = it := by simpa using hb
        rcases e' with z | z
        · rw [z]; exact hel
        · rw [z]; exact hil
      rw [upd_ne (Nat.ne_of_lt hb')]
      exact (hf b hb).1
  done := by
    intro X hP hw hK hc i pins s σ H E I hf st hg
    subst hP hw hK
    obtain ⟨⟨old, he⟩, hit, hne⟩ := st
    obtain ⟨xs, hq, hx⟩ := hg
    obtain ⟨its, rv, p, hz⟩ := I.tuple hq
    obtain ⟨f0, f1, f2, f3, f4, f5⟩ := hf it (by simp)
    have hl := rv.length
    have hs : its.toArray.size = i := by
      rw [List.size_toArray]
      omega
    exact wpAny_pyNext_enum_endD (Draws.tuple (A := X.A.in1) (show X.A.in1.handled = none from I.ok.hd hc) it a hait its.toArray) he (by rw [hs]; exact ⟨hit, p⟩) fun h' eb => ⟨rfl, I.turned (t' := s.toks) (fun b o hb q => eb b o hb q) f0 f1 f3 f4 f5⟩
  self := fun A i s Q E st h => let ⟨⟨_, he⟩, _⟩ := st; wpAny_pyIter_enum he h
def iEnumT (K : PySem.W.Frag) (ta : TA) : TI := fun σ H R => ta σ H fun vs H1 => ∃ a xs, vs = [.ref a] ∧ SqT K H1 a xs ∧ R (IteT K a) H1
theorem pi_enumT {X : Cx} {e : Expr} {ta : TA} {p pos tpos : Pos} {elts : List Expr} {kk : Nat} (hg : Gl X "enumerate") (hm : X.mg "enumerate" = none) (ha : PA X [e] ta) (hs : starEach [e] X.env = [(false, eval e X.env)] := by rfl) :
    PI X (.Tuple elts kk tpos) (.Call (.Name "enumerate" p) [e] [] pos) (iEnumT X.K ta) := by
  refine ⟨fun pins s σ H R I h => ?_⟩
  refine Call_ (ld_blt I hg hm boot_enumerate (PyProof.Rows.callWith_type1 (thn (ha.run pos pins s σ H _ I h) fun us s1 ⟨vs, H1, I1, r1, q1⟩ => ?_) hs rfl))
  obtain ⟨a, xs, ex, hq, q⟩ := q1
  subst ex
  cases r1 with
  | cons r rr =>
    cases rr
    cases r
    obtain ⟨its, rv, p', hz⟩ := I1.tuple hq
    have hlt : a < s1.heap.objs.size := p'.lt
    refine call_enumerate_tuple p' fun h' he hit hsz hk => wpAny_pyIter_enum he ?_
    have I2 : Inv X pins σ H1 { s1 with heap := h' } := I1.kept (t' := s1.toks) hk
    refine ⟨s1.heap.objs.size + 1, [s1.heap.objs.size + 1, s1.heap.objs.size], _, _, H1, rfl, I2, turn_enumT a (s1.heap.objs.size + 1) s1.heap.objs.size (Nat.ne_of_lt hlt) (Nat.ne_of_gt (Nat.lt_succ_of_lt hlt)), ⟨⟨.none, he⟩, hit, Nat.succ_ne_self _⟩, fun b hb => ?_, q⟩
    have e' : b = s1.heap.objs.size + 1 ∨ b = s1.heap.objs.size := by simpa using hb
    have hle : s1.heap.objs.size ≤ b := by
      rcases e' with z | z
      · rw [z]; exact Nat.le_add_right _ _
      · rw [z]; exact Nat.le_refl _
    exact I1.fpOk hle (I1.hok.fresh hle)
end Lw


set_option Elab.async false
set_option linter.all false
set_option maxRecDepth 100000
set_option maxHeartbeats 0
namespace Lw
open PySem PySem.Spec PyProof.Rows L2
abbrev R : PySem.W.OpenRow := PySem.W.OpenLaw.row PySem.Challenge.rw_lampway_k64_whole_shortest_round
def ob (s : PySem.W.SharedT) : AlY := obsY 5 (HandSHeadRun.getT s)
theorem ob_eq (s : PySem.W.SharedT) : ob s = (hookY 5).obs s.abs := obsY_eq (HandSHeadRun.getT_eq s)
/-- the other names that the top binds -/
def names1 : List PySem.Str := ["_wall", "bow", "ways_meet", "meet", "gap", "Needs", "first_order", "ordered", "is_ordered", "ring_turns", "ring_rounds", "rings_of", "open_pair", "order_size", "best_order", "settled", "paper_of", "shortest", "LampError", "NoText", "NoWay", "Way", "CarWay", "FootWay", "TramWay", "FIGURES", "LETTERS", "words", "figured", "is_name"]
def names2 : List PySem.Str := ["SORTS", "MOST_WAYS", "Crossing", "made_way", "read_head", "read_numbers", "read_way", "read_crossing", "_law_draw", "_law_places", "_law_names", "_law_ways", "_law_text", "_law_is_met", "_law_wanted", "_law_alone", "_law_behind", "_law_ahead", "_law_ring_bears", "_law_bears", "_law_is_want", "_law_is_formed", "_law_do", "_law_are_begins"]
def names : List PySem.Str := names1 ++ names2
theorem run (w : World) : HandSHeadRun.RunEq R (PySem.W.view R.prog [62]) (hookY 5) ob 20000 names w := by
  intro os
  kernel_rfl
end Lw


set_option linter.all false
/-! mirrors: plain functions -/
namespace Lw
abbrev Ord := List (Nat × Nat)
abbrev Tab := List (List (Option Int))
/-- the turns from want i to want j, if their ways meet -/
def bh (B : Tab) (i j : Nat) : Option Int := (B.getD i []).getD j none
def bi (B : Tab) (i j : Nat) : Int := (bh B i j).getD 0
def nxt (ring : List Nat) (k : Nat) : Nat := ring.getD ((k + 1) % ring.length) 0
def rtF (B : Tab) (ring : List Nat) : Nat → Int
  | 0 => 0
  | k + 1 => rtF B ring k + bi B (ring.getD k 0) (nxt ring k)
def ringTurns (B : Tab) (ring : List Nat) : Int := rtF B ring ring.length
def rrF (o : Ord) (ring : List Nat) : Nat → Option Nat
  | 0 => some 0
  | k + 1 => match rrF o ring k with
    | none => none
    | some r => if (nxt ring k, ring.getD k 0) ∈ o then some (r + 1) else if (ring.getD k 0, nxt ring k) ∈ o then some r else none
def ringRounds (o : Ord) (ring : List Nat) : Option Nat := rrF o ring ring.length
/-! all rings -/
def lastD (row : List Nat) : Nat := row.getD (row.length - 1) 0
def extOk (B : Tab) (row : List Nat) (k : Nat) : Bool := !row.contains k && (bh B (lastD row) k).isSome
/-- the k from row[0] + 1 on, c of them -/
def extN (B : Tab) (row : List Nat) (c : Nat) : List (List Nat) := (((List.range c).map fun m => row.getD 0 0 + 1 + m).filter (extOk B row)).map fun k => row ++ [k]
def ext (B : Tab) (n : Nat) (row : List Nat) : List (List Nat) := extN B row (n - (row.getD 0 0 + 1))
def bw (B : Tab) (n : Nat) : Nat → List (List Nat)
  | 0 => (List.range n).map fun k => [k]
  | m + 1 => bw B n m ++ ext B n ((bw B n m).getD m [])
def isRing (B : Tab) (row : List Nat) : Bool := decide (row.length > 1) && (bh B (lastD row) (row.getD 0 0)).isSome
def rg (B : Tab) (n : Nat) : Nat → List (List Nat × Int)
  | 0 => []
  | m + 1 => rg B n m ++ (if isRing B ((bw B n m).getD m []) then [((bw B n m).getD m [], ringTurns B ((bw B n m).getD m []))] else [])
structure IsEnd (B : Tab) (n m : Nat) : Prop where
  done : (bw B n m).length ≤ m
  more : ∀ k, k < m → k < (bw B n k).length
theorem IsEnd.uniq {B : Tab} {n m m' : Nat} (h : IsEnd B n m) (h' : IsEnd B n m') : m = m' := by
  rcases Nat.lt_trichotomy m m' with e | e | e
  · have := h'.more m e
    have := h.done
    omega
  · exact e
  · have := h.more m' e
    have := h'.done
    omega
open Classical in
noncomputable def ringsD (B : Tab) (n : Nat) : List (List Nat × Int) := if h : ∃ m, IsEnd B n m then rg B n (Classical.choose h) else []
theorem ringsD_eq {B : Tab} {n m : Nat} (h : IsEnd B n m) : ringsD B n = rg B n m := by
  have hx : ∃ m, IsEnd B n m := ⟨m, h⟩
  unfold ringsD
  rw [dif_pos hx, (Classical.choose_spec hx).uniq h]
/-! orders -/
def allPairs (n : Nat) : List (Nat × Nat) := (List.range n).flatMap fun i => (List.range (n - (i + 1))).map fun m => (i, i + 1 + m)
def isOpen (B : Tab) (o : Ord) (p : Nat × Nat) : Bool := (bh B p.1 p.2).isSome && (!o.contains p && !o.contains (p.2, p.1))
def openPair (B : Tab) (n : Nat) (o : Ord) : Option (Nat × Nat) := (allPairs n).find? (isOpen B o)
def firstN (B : Tab) (c : Nat) : Ord := ((List.range c).filter fun j => (bh B 0 j).isSome).map fun j => (0, j)
def maxL : List Int → Int
  | [] => 0
  | [x] => x
  | x :: y :: r => max x (maxL (y :: r))
def cdiv (t : Int) (r : Nat) : Int := (t + (r : Int) - 1).fdiv (r : Int)
def pmax (a b : Int) : Int := if b > a then b else a
def osF (o : Ord) : List (List Nat × Int) → Int → Option Int
  | [], s => some s
  | (ring, t) :: l, s => match ringRounds o ring with
    | some 0 => none
    | some r => osF o l (pmax s (cdiv t r))
    | none => none
def orderSize (al : List Int) (rings : List (List Nat × Int)) (o : Ord) : Option Int := osF o rings (maxL al)
def better (one other : Option Int × Ord) : Option Int × Ord := match one.1, other.1 with
  | none, _ => other
  | some a, some b => if b < a then other else one
  | some _, none => one
def bestF (B : Tab) (al : List Int) (rings : List (List Nat × Int)) (n : Nat) : Nat → Ord → Option Int × Ord
  | 0, o => (orderSize al rings o, o)
  | f + 1, o => match openPair B n o with
    | none => (orderSize al rings o, o)
    | some p => better (bestF B al rings n f (o ++ [p])) (bestF B al rings n f (o ++ [(p.2, p.1)]))
/-! begins -/
def relax (B : Tab) (size : Int) (b : List Int) (p : Nat × Nat) : List Int :=
  let b1 := b.set p.2 (pmax (b.getD p.2 0) (b.getD p.1 0 + bi B p.1 p.2))
  b1.set p.1 (pmax (b1.getD p.1 0) (b1.getD p.2 0 + bi B p.2 p.1 - size))
def relaxAll (B : Tab) (size : Int) (o : Ord) (b : List Int) : List Int := o.foldl (relax B size) b
def relaxN (B : Tab) (size : Int) (o : Ord) (n : Nat) : Nat → List Int
  | 0 => List.replicate n 0
  | k + 1 => relaxAll B size o (relaxN B size o n k)
def settledB (B : Tab) (size : Int) (o : Ord) (n : Nat) : List Int := (relaxN B size o n n).map fun b => b.fmod size
/-! papers -/
inductive Pp where
  | alone (k : Nat)
  | ring (ks : List Nat)
  | case (i j : Nat) (p q : Pp)
def fires (o : Ord) (size : Int) (x : List Nat × Int) : Bool := match ringRounds o x.1 with
  | some r => decide (x.2 > size * (r : Int))
  | none => false
def paperF (B : Tab) (rings : List (List Nat × Int)) (n : Nat) (size : Int) : Nat → Ord → Option Pp
  | f, o => match rings.find? (fires o size) with
    | some x => some (.ring x.1)
    | none => match f, openPair B n o with
      | 0, _ => none
      | _, none => none
      | f + 1, some p => match paperF B rings n size f (o ++ [p]), paperF B rings n size f (o ++ [(p.2, p.1)]) with
        | some one, some other => some (.case p.1 p.2 one other)
        | _, _ => none
/-- the law's reader -/
def ringBears (B : Tab) (size : Int) (ring : List Nat) (o : Ord) : Bool :=
  decide (ring.length > 1) && match ringRounds o ring with
  | some r => decide (ringTurns B ring > size * (r : Int))
  | none => false
def bearsP (B : Tab) (al : List Int) (size : Int) : Pp → Ord → Bool
  | .alone k, _ => decide (al.getD k 0 > size)
  | .ring ks, o => ringBears B size ks o
  | .case i j p q, o => ((bh B i j).isSome && (!o.contains (i, j) && !o.contains (j, i))) && (bearsP B al size p (o ++ [(i, j)]) && bearsP B al size q (o ++ [(j, i)]))
def wf (n : Nat) : Pp → Nat → Prop
  | .alone k, d => k < n ∧ d ≤ 10
  | .ring ks, d => (∀ k ∈ ks, k < n) ∧ ks.Nodup ∧ d ≤ 10
  | .case i j p q, d => i < n ∧ j < n ∧ d ≤ 10 ∧ wf n p (d + 1) ∧ wf n q (d + 1)
end Lw


set_option linter.all false
namespace Lw
/-! ### weights of paths -/
def pw (W : Nat → Nat → Int) : List Nat → Int
  | a :: b :: r => W a b + pw W (b :: r)
  | _ => 0
def chain (adj : Nat → Nat → Prop) : List Nat → Prop
  | a :: b :: r => adj a b ∧ chain adj (b :: r)
  | _ => True
section
variable {W : Nat → Nat → Int} {adj : Nat → Nat → Prop}
theorem pw_one (a : Nat) : pw W [a] = 0 := rfl
theorem pw_cons (a b : Nat) (r : List Nat) : pw W (a :: b :: r) = W a b + pw W (b :: r) := rfl
theorem chain_cons {a b : Nat} {r : List Nat} : chain adj (a :: b :: r) ↔ adj a b ∧ chain adj (b :: r) := Iff.rfl
theorem chain_tail {a : Nat} {r : List Nat} (h : chain adj (a :: r)) : chain adj r := by
  cases r with
  | nil => trivial
  | cons b r => exact h.2
/-- cut at z -/
theorem pw_app (z : Nat) (q : List Nat) : ∀ p : List Nat, pw W (p ++ z :: q) = pw W (p ++ [z]) + pw W (z :: q)
  | [] => by simp [pw_one]
  | [a] => by
    show W a z + pw W (z :: q) = W a z + pw W [z] + pw W (z :: q)
    rw [pw_one]; omega
  | a :: b :: r => by
    have ih := pw_app z q (b :: r)
    show W a b + pw W ((b :: r) ++ z :: q) = W a b + pw W ((b :: r) ++ [z]) + pw W (z :: q)
    rw [ih]; omega
theorem chain_app (z : Nat) (q : List Nat) : ∀ p : List Nat, chain adj (p ++ z :: q) ↔ chain adj (p ++ [z]) ∧ chain adj (z :: q)
  | [] => by simp [chain]
  | [a] => by
    show (adj a z ∧ chain adj (z :: q)) ↔ (adj a z ∧ chain adj [z]) ∧ chain adj (z :: q)
    simp [chain]
  | a :: b :: r => by
    have ih := chain_app z q (b :: r)
    show (adj a b ∧ chain adj ((b :: r) ++ z :: q)) ↔ (adj a b ∧ chain adj ((b :: r) ++ [z])) ∧ chain adj (z :: q)
    rw [ih, and_assoc]
theorem pw_snoc (u v : Nat) (p : List Nat) : pw W (p ++ [u, v]) = pw W (p ++ [u]) + W u v := by
  rw [pw_app u [v] p]
  show _ + (W u v + 0) = _
  omega
theorem chain_snoc (u v : Nat) (p : List Nat) : chain adj (p ++ [u, v]) ↔ chain adj (p ++ [u]) ∧ adj u v := by
  rw [chain_app u [v] p]
  simp [chain]
/-- the cycles of simple rings weigh nothing -/
def NoPos (W : Nat → Nat → Int) (adj : Nat → Nat → Prop) : Prop := ∀ (a : Nat) (r : List Nat), (a :: r).Nodup → chain adj (a :: r ++ [a]) → pw W (a :: r ++ [a]) ≤ 0
theorem reduce (hc : NoPos W adj) : ∀ (a : Nat) (l : List Nat), chain adj (a :: l) →
    ∃ r : List Nat, (a :: r).Nodup ∧ chain adj (a :: r) ∧ (a :: r).getLast? = (a :: l).getLast? ∧ pw W (a :: l) ≤ pw W (a :: r) ∧ ∀ x ∈ r, x ∈ a :: l
  | a, [], _ => ⟨[], by simp, trivial, rfl, Int.le_refl _, by simp⟩
  | a, b :: l, h => by
    obtain ⟨h1, h2⟩ := h
    obtain ⟨r, n1, c1, e1, w1, m1⟩ := reduce hc b l h2
    have w2 : pw W (a :: b :: l) ≤ W a b + pw W (b :: r) := by rw [pw_cons]; omega
    by_cases hm : a ∈ b :: r
    · obtain ⟨s, t, e⟩ := List.append_of_mem hm
      -- b :: r = s ++ a :: t
      have hn : (s ++ a :: t).Nodup := e ▸ n1
      have hch : chain adj (a :: s ++ a :: t) := by
        rw [List.cons_append, ← e]
        exact ⟨h1, c1⟩
      have hw : W a b + pw W (b :: r) = pw W (a :: s ++ a :: t) := by
        rw [List.cons_append, ← e]; rfl
      have q := (chain_app a t (a :: s)).mp hch
      have hsn : (a :: s).Nodup := by
        rw [List.nodup_append] at hn
        obtain ⟨x1, x2, x3⟩ := hn
        refine List.nodup_cons.mpr ⟨fun z => x3 a z a (by simp) rfl, x1⟩
      have z := hc a s hsn q.1
      rw [pw_app] at hw
      refine ⟨t, ?_, q.2, ?_, by omega, ?_⟩
      · rw [List.nodup_append] at hn
        exact hn.2.1
      · have : (a :: t).getLast? = (b :: r).getLast? := by
          rw [e, List.getLast?_append, List.getLast?_cons]
          rfl
        rw [this, e1]
        simp
      · intro x hx
        have : x ∈ b :: r := by
          rw [e]
          simp [hx]
        rcases List.mem_cons.mp this with q | q
        · simp [q]
        · exact List.mem_cons_of_mem _ (m1 x q)
    · refine ⟨b :: r, List.nodup_cons.mpr ⟨hm, n1⟩, ⟨h1, c1⟩, ?_, ?_, ?_⟩
      · rw [List.getLast?_cons_cons, List.getLast?_cons_cons, e1]
      · rw [pw_cons a b r]
        exact w2
      · intro x hx
        rcases List.mem_cons.mp hx with q | q
        · simp [q]
        · exact List.mem_cons_of_mem _ (m1 x q)
end
/-! ### sums by index -/
def sumTo (f : Nat → Int) : Nat → Int
  | 0 => 0
  | k + 1 => sumTo f k + f k
theorem sumTo_shift (f : Nat → Int) : ∀ k, sumTo f (k + 1) = f 0 + sumTo (fun i => f (i + 1)) k
  | 0 => by simp [sumTo]
  | k + 1 => by
    have ih := sumTo_shift f k
    show sumTo f (k + 1) + f (k + 1) = f 0 + (sumTo (fun i => f (i + 1)) k + f (k + 1))
    rw [ih]; omega
theorem sumTo_congr {f g : Nat → Int} : ∀ k, (∀ i, i < k → f i = g i) → sumTo f k = sumTo g k
  | 0, _ => rfl
  | k + 1, h => by
    show sumTo f k + f k = sumTo g k + g k
    rw [sumTo_congr k fun i hi => h i (by omega), h k (by omega)]
theorem pw_sum (W : Nat → Nat → Int) : ∀ (l : List Nat), pw W l = sumTo (fun k => W (l.getD k 0) (l.getD (k + 1) 0)) (l.length - 1)
  | [] => rfl
  | [a] => rfl
  | a :: b :: r => by
    have ih := pw_sum W (b :: r)
    rw [pw_cons, ih]
    show _ = sumTo _ (r.length + 1)
    rw [sumTo_shift]
    rfl
theorem chain_iff {adj : Nat → Nat → Prop} : ∀ (l : List Nat), chain adj l ↔ ∀ k, k + 1 < l.length → adj (l.getD k 0) (l.getD (k + 1) 0)
  | [] => by simp [chain]
  | [a] => by simp [chain]
  | a :: b :: r => by
    have ih := chain_iff (adj := adj) (b :: r)
    rw [chain_cons, ih]
    constructor
    · rintro ⟨h1, h2⟩ k hk
      cases k with
      | zero => exact h1
      | succ k => exact h2 k (by simp at hk ⊢; omega)
    · intro h
      exact ⟨h 0 (by simp), fun k hk => h (k + 1) (by simp at hk ⊢; omega)⟩
/-- a ring closed: its k-th, its next -/
theorem closed_get (a : Nat) (r : List Nat) {k : Nat} (hk : k < (a :: r).length) : (a :: r ++ [a]).getD k 0 = (a :: r).getD k 0 ∧ (a :: r ++ [a]).getD (k + 1) 0 = nxt (a :: r) k := by
  have h1 : (a :: r ++ [a]).getD k 0 = (a :: r).getD k 0 := by
    rw [List.getD_eq_getElem?_getD, List.getD_eq_getElem?_getD, List.getElem?_append_left hk]
  refine ⟨h1, ?_⟩
  unfold nxt
  by_cases h : k + 1 < (a :: r).length
  · rw [Nat.mod_eq_of_lt h, List.getD_eq_getElem?_getD, List.getD_eq_getElem?_getD, List.getElem?_append_left h]
  · have e : k + 1 = (a :: r).length := by omega
    rw [e, Nat.mod_self, List.getD_eq_getElem?_getD, List.getElem?_append_right (Nat.le_refl _)]
    simp
theorem pw_ring (W : Nat → Nat → Int) (a : Nat) (r : List Nat) : pw W (a :: r ++ [a]) = sumTo (fun k => W ((a :: r).getD k 0) (nxt (a :: r) k)) (a :: r).length := by
  rw [pw_sum]
  have e : (a :: r ++ [a]).length - 1 = (a :: r).length := by simp
  rw [e]
  refine sumTo_congr _ fun k hk => ?_
  obtain ⟨h1, h2⟩ := closed_get a r hk
  rw [h1, h2]
theorem chain_ring {adj : Nat → Nat → Prop} (a : Nat) (r : List Nat) : chain adj (a :: r ++ [a]) ↔ ∀ k, k < (a :: r).length → adj ((a :: r).getD k 0) (nxt (a :: r) k) := by
  rw [chain_iff]
  have e : (a :: r ++ [a]).length = (a :: r).length + 1 := by simp
  constructor
  · intro h k hk
    have q := h k (by omega)
    obtain ⟨h1, h2⟩ := closed_get a r hk
    rw [h1, h2] at q
    exact q
  · intro h k hk
    have q := h k (by omega)
    obtain ⟨h1, h2⟩ := closed_get a r (k := k) (by omega)
    rw [h1, h2]
    exact q
/-- rotated -/
theorem pw_rot (W : Nat → Nat → Int) (a m : Nat) (x y : List Nat) : pw W (a :: x ++ m :: y ++ [a]) = pw W (m :: (y ++ a :: x) ++ [m]) := by
  have h1 : a :: x ++ m :: y ++ [a] = (a :: x) ++ m :: (y ++ [a]) := by simp
  have h2 : m :: (y ++ a :: x) ++ [m] = (m :: y) ++ a :: (x ++ [m]) := by simp
  rw [h1, h2, pw_app m (y ++ [a]) (a :: x), pw_app a (x ++ [m]) (m :: y)]
  have e1 : (a :: x ++ [m]) = a :: (x ++ [m]) := rfl
  have e2 : (m :: y ++ [a]) = m :: (y ++ [a]) := rfl
  rw [e1, e2]; omega
theorem chain_rot {adj : Nat → Nat → Prop} (a m : Nat) (x y : List Nat) : chain adj (a :: x ++ m :: y ++ [a]) ↔ chain adj (m :: (y ++ a :: x) ++ [m]) := by
  have h1 : a :: x ++ m :: y ++ [a] = (a :: x) ++ m :: (y ++ [a]) := by simp
  have h2 : m :: (y ++ a :: x) ++ [m] = (m :: y) ++ a :: (x ++ [m]) := by simp
  rw [h1, h2, chain_app m (y ++ [a]) (a :: x), chain_app a (x ++ [m]) (m :: y)]
  have e1 : (a :: x ++ [m]) = a :: (x ++ [m]) := rfl
  have e2 : (m :: y ++ [a]) = m :: (y ++ [a]) := rfl
  rw [e1, e2, and_comm]
/-- a ring has a least one: it may be rotated there -/
theorem has_min : ∀ (l : List Nat), l ≠ [] → ∃ x m y, l = x ++ m :: y ∧ ∀ z ∈ l, m ≤ z
  | [], h => absurd rfl h
  | [a], _ => ⟨[], a, [], rfl, by simp⟩
  | a :: b :: r, _ => by
    obtain ⟨x, m, y, e, h⟩ := has_min (b :: r) (by simp)
    by_cases q : a ≤ m
    · refine ⟨[], a, b :: r, rfl, fun z hz => ?_⟩
      rcases List.mem_cons.mp hz with e1 | e1
      · omega
      · have := h z e1
        omega
    · refine ⟨a :: x, m, y, by rw [e]; rfl, fun z hz => ?_⟩
      rcases List.mem_cons.mp hz with e1 | e1
      · omega
      · exact h z e1
end Lw


set_option linter.all false
namespace Lw
structure Good (n : Nat) (al : List Int) (B : Tab) : Prop where
  n1 : 1 ≤ n
  n5 : n ≤ 5
  alen : al.length = n
  apos : ∀ a ∈ al, 1 ≤ a
  blen : B.length = n
  brow : ∀ r ∈ B, r.length = n
  sym : ∀ i j, (bh B i j).isSome = (bh B j i).isSome
  irr : ∀ i, bh B i i = none
  pos : ∀ i j t, bh B i j = some t → 1 ≤ t
def adj (B : Tab) (i j : Nat) : Prop := (bh B i j).isSome = true
section
variable {n : Nat} {al : List Int} {B : Tab}
theorem Good.lt (g : Good n al B) {i j : Nat} (h : adj B i j) : i < n ∧ j < n := by
  unfold adj bh at h
  by_cases hi : i < n
  · refine ⟨hi, ?_⟩
    have hb : B.getD i [] ∈ B := by
      rw [List.getD_eq_getElem?_getD, List.getElem?_eq_getElem (by rw [g.blen]; exact hi)]
      exact List.getElem_mem _
    have hl := g.brow _ hb
    by_cases hj : j < n
    · exact hj
    · rw [List.getD_eq_getElem?_getD (l := B.getD i []), List.getElem?_eq_none (by omega)] at h
      simp at h
  · rw [show B.getD i [] = [] by
      rw [List.getD_eq_getElem?_getD, List.getElem?_eq_none (by rw [g.blen]; omega)]
      rfl] at h
    simp at h
theorem Good.swap (g : Good n al B) {i j : Nat} (h : adj B i j) : adj B j i := by
  unfold adj at *
  rw [← g.sym i j]
  exact h
theorem Good.ne (g : Good n al B) {i j : Nat} (h : adj B i j) : i ≠ j := by
  intro e
  subst e
  unfold adj at h
  rw [g.irr] at h
  cases h
theorem adj_bi {i j : Nat} (h : adj B i j) : bh B i j = some (bi B i j) := by
  unfold adj at h
  unfold bi
  cases e : bh B i j with
  | none =>
    rw [e] at h
    cases h
  | some t => rfl
theorem Good.bpos (g : Good n al B) {i j : Nat} (h : adj B i j) : 1 ≤ bi B i j := g.pos _ _ _ (adj_bi h)
structure RowOk (B : Tab) (n : Nat) (a : Nat) (r : List Nat) : Prop where
  nd : (a :: r).Nodup
  lt : ∀ x ∈ a :: r, x < n
  ch : chain (adj B) (a :: r)
  up : ∀ x ∈ r, a < x
theorem RowOk.len {a : Nat} {r : List Nat} (h : RowOk B n a r) : (a :: r).length ≤ n := by
  have q := List.Nodup.length_le_of_subset (l₂ := List.range n) h.nd fun x hx => List.mem_range.mpr (h.lt x hx)
  rw [List.length_range] at q
  exact q
theorem lastD_cons (a : Nat) (r : List Nat) : ∃ p, a :: r = p ++ [lastD (a :: r)] := by
  refine ⟨(a :: r).dropLast, ?_⟩
  have h1 : lastD (a :: r) = (a :: r).getLast (by simp) := by
    unfold lastD
    rw [List.getLast_eq_getElem, List.getD_eq_getElem?_getD, List.getElem?_eq_getElem (by simp)]
    rfl
  rw [h1]
  exact (List.dropLast_concat_getLast (by simp)).symm
theorem mem_extN {a : Nat} {r : List Nat} {c : Nat} {row' : List Nat} : row' ∈ extN B (a :: r) c ↔ ∃ k, a < k ∧ k < a + 1 + c ∧ k ∉ a :: r ∧ adj B (lastD (a :: r)) k ∧ row' = a :: (r ++ [k]) := by
  unfold extN
  simp only [List.mem_map, List.mem_filter, List.mem_range, List.getD_cons_zero, extOk, Bool.and_eq_true, Bool.not_eq_true', List.contains_eq_mem, decide_eq_false_iff_not]
  constructor
  · rintro ⟨k, ⟨⟨m, hm, rfl⟩, h1, h2⟩, rfl⟩
    exact ⟨a + 1 + m, by omega, by omega, h1, h2, by simp⟩
  · rintro ⟨k, h1, h2, h3, h4, rfl⟩
    exact ⟨k, ⟨⟨k - (a + 1), by omega, by omega⟩, h3, h4⟩, by simp⟩
theorem mem_ext {a : Nat} {r : List Nat} (ha : a < n) {row' : List Nat} : row' ∈ ext B n (a :: r) ↔ ∃ k, a < k ∧ k < n ∧ k ∉ a :: r ∧ adj B (lastD (a :: r)) k ∧ row' = a :: (r ++ [k]) := by
  unfold ext
  rw [mem_extN, List.getD_cons_zero, show a + 1 + (n - (a + 1)) = n by omega]
theorem ext_ok {a : Nat} {r : List Nat} (h : RowOk B n a r) {row' : List Nat} (hm : row' ∈ ext B n (a :: r)) : ∃ k, row' = a :: (r ++ [k]) ∧ RowOk B n a (r ++ [k]) := by
  obtain ⟨k, h1, h2, h3, h4, rfl⟩ := (mem_ext (h.lt a (by simp))).mp hm
  refine ⟨k, rfl, ?_, ?_, ?_, ?_⟩
  · have : (a :: r ++ [k]).Nodup := by
      rw [List.nodup_append]
      refine ⟨h.nd, by simp, fun x hx y hy => ?_⟩
      rw [List.mem_singleton.mp hy]
      intro e
      exact h3 (e ▸ hx)
    exact this
  · intro x hx
    have hx2 : x ∈ a :: r ++ [k] := hx
    rcases List.mem_append.mp hx2 with q | q
    · exact h.lt x q
    · rw [List.mem_singleton.mp q]; exact h2
  · obtain ⟨p, hp⟩ := lastD_cons a r
    have e : a :: (r ++ [k]) = p ++ [lastD (a :: r), k] := by
      have : a :: (r ++ [k]) = (a :: r) ++ [k] := rfl
      rw [this]
      conv => lhs; rw [hp]
      simp
    rw [e, chain_snoc]
    refine ⟨?_, h4⟩
    rw [← hp]
    exact h.ch
  · intro x hx
    rcases List.mem_append.mp hx with q | q
    · exact h.up x q
    · rw [List.mem_singleton.mp q]; exact h1
/-- the loop has not ended ahead of m -/
def Run (B : Tab) (n m : Nat) : Prop := ∀ k, k < m → k < (bw B n k).length
theorem bw_pre (m : Nat) : ∀ d, bw B n m <+: bw B n (m + d)
  | 0 => List.prefix_refl _
  | d + 1 => (bw_pre m d).trans ⟨_, rfl⟩
theorem bw_at {k m : Nat} (hk : k ≤ m) (hl : k < (bw B n k).length) : (bw B n m)[k]? = (bw B n k)[k]? := by
  obtain ⟨d, rfl⟩ : ∃ d, m = k + d := ⟨m - k, by omega⟩
  obtain ⟨t, ht⟩ := bw_pre (B := B) (n := n) k d
  rw [← ht, List.getElem?_append_left hl]
theorem bw_ok (m : Nat) (hr : Run B n m) : ∀ row ∈ bw B n m, ∃ a r, row = a :: r ∧ RowOk B n a r := by
  induction m with
  | zero =>
    intro row h
    obtain ⟨k, hk, rfl⟩ := List.mem_map.mp (show row ∈ (List.range n).map fun k => [k] from h)
    refine ⟨k, [], rfl, by simp, ?_, trivial, by simp⟩
    intro x hx
    rw [List.mem_singleton.mp hx]
    exact List.mem_range.mp hk
  | succ m ih =>
    intro row h
    have ih := ih fun k hk => hr k (by omega)
    rcases List.mem_append.mp (show row ∈ bw B n m ++ ext B n ((bw B n m).getD m []) from h) with q | q
    · exact ih row q
    · have hl := hr m (by omega)
      have hm : (bw B n m).getD m [] ∈ bw B n m := by
        rw [List.getD_eq_getElem?_getD, List.getElem?_eq_getElem hl]
        exact List.getElem_mem _
      obtain ⟨a, r, e, ok⟩ := ih _ hm
      rw [e] at q
      obtain ⟨k, e2, ok2⟩ := ext_ok ok q
      exact ⟨a, r ++ [k], e2, ok2⟩
/-! the measure -/
def wtp : Nat → Nat
  | 0 => 1
  | d + 1 => 1 + 4 * wtp d
def pot (n : Nat) : List (List Nat) → Nat
  | [] => 0
  | r :: l => wtp (n - r.length) + pot n l
theorem pot_append (n : Nat) : ∀ (l l' : List (List Nat)), pot n (l ++ l') = pot n l + pot n l'
  | [], l' => by simp [pot]
  | r :: l, l' => by
    show _ + pot n (l ++ l') = _ + pot n l + pot n l'
    rw [pot_append n l l']; omega
theorem pot_const (n w : Nat) : ∀ (l : List (List Nat)), (∀ r ∈ l, wtp (n - r.length) = w) → pot n l = l.length * w
  | [], _ => by simp [pot]
  | r :: l, h => by
    show wtp (n - r.length) + pot n l = (l.length + 1) * w
    rw [h r (by simp), pot_const n w l fun x hx => h x (by simp [hx]), Nat.add_mul]; omega
theorem wtp_pos (d : Nat) : 0 < wtp d := by
  cases d <;> simp [wtp] <;> omega
theorem ext_len {a : Nat} {r : List Nat} : (ext B n (a :: r)).length ≤ n - (a + 1) := by
  unfold ext extN
  rw [List.length_map, List.getD_cons_zero]
  refine Nat.le_trans (List.length_filter_le _ _) ?_
  simp
theorem pot_ext (h5 : n ≤ 5) {a : Nat} {r : List Nat} (h : RowOk B n a r) : pot n (ext B n (a :: r)) < wtp (n - (a :: r).length) := by
  cases e : ext B n (a :: r) with
  | nil => exact wtp_pos _
  | cons x l =>
    have hx : x ∈ ext B n (a :: r) := by rw [e]; simp
    obtain ⟨k, e2, ok2⟩ := ext_ok h hx
    have hl := ok2.len
    simp only [List.length_cons, List.length_append, List.length_nil] at hl
    obtain ⟨d, hd⟩ : ∃ d, n - (a :: r).length = d + 1 := ⟨n - (a :: r).length - 1, by simp only [List.length_cons]; omega⟩
    have hc := pot_const n (wtp d) (ext B n (a :: r)) fun y hy => by
      obtain ⟨k', e3, _⟩ := ext_ok h hy
      rw [e3]
      simp only [List.length_cons, List.length_append, List.length_nil] at hd ⊢
      rw [show n - (r.length + (0 + 1) + 1) = d by omega]
    rw [← e, hc, hd]
    have h4 : (ext B n (a :: r)).length ≤ 4 := by
      have := ext_len (B := B) (n := n) (a := a) (r := r)
      omega
    show _ < 1 + 4 * wtp d
    have := Nat.mul_le_mul_right (wtp d) h4
    omega
def meas (B : Tab) (n m : Nat) : Nat := pot n ((bw B n m).drop m)
theorem meas_step (h5 : n ≤ 5) {m : Nat} (hr : Run B n m) (hl : m < (bw B n m).length) : meas B n (m + 1) < meas B n m := by
  unfold meas
  have e : (bw B n m).drop m = (bw B n m)[m] :: (bw B n m).drop (m + 1) := List.drop_eq_getElem_cons hl
  have eg : (bw B n m).getD m [] = (bw B n m)[m] := by
    rw [List.getD_eq_getElem?_getD, List.getElem?_eq_getElem hl]; rfl
  obtain ⟨a, r, ea, ok⟩ := bw_ok m hr _ (List.getElem_mem hl)
  have h2 : (bw B n (m + 1)).drop (m + 1) = (bw B n m).drop (m + 1) ++ ext B n (bw B n m)[m] := by
    show (bw B n m ++ ext B n ((bw B n m).getD m [])).drop (m + 1) = _
    rw [eg, List.drop_append_of_le_length (by omega)]
  rw [h2, e, pot_append, ea]
  have := pot_ext h5 ok
  show _ < wtp (n - (a :: r).length) + _
  omega
/-! what rings there are -/
structure RingOk (B : Tab) (n : Nat) (x : List Nat × Int) (a : Nat) (r : List Nat) : Prop where
  e : x.1 = a :: r
  row : RowOk B n a r
  two : 2 ≤ (a :: r).length
  ch : chain (adj B) (a :: r ++ [a])
  t : x.2 = ringTurns B x.1
theorem ring_ch {a : Nat} {r : List Nat} (h : RowOk B n a r) : chain (adj B) (a :: r ++ [a]) ↔ adj B (lastD (a :: r)) a := by
  obtain ⟨p, hp⟩ := lastD_cons a r
  have e : a :: r ++ [a] = p ++ [lastD (a :: r), a] := by
    conv => lhs; rw [hp]
    simp
  rw [e, chain_snoc, ← hp]
  exact ⟨fun z => z.2, fun z => ⟨h.ch, z⟩⟩
theorem rg_ok (m : Nat) (hr : Run B n m) : ∀ x ∈ rg B n m, ∃ a r, RingOk B n x a r := by
  induction m with
  | zero => intro x h; cases h
  | succ m ih =>
    intro x h
    rcases List.mem_append.mp (show x ∈ rg B n m ++ _ from h) with q | q
    · exact ih (fun k hk => hr k (by omega)) x q
    · have hl := hr m (by omega)
      have hm : (bw B n m).getD m [] ∈ bw B n m := by
        rw [List.getD_eq_getElem?_getD, List.getElem?_eq_getElem hl]
        exact List.getElem_mem _
      obtain ⟨a, r, e, ok⟩ := bw_ok m (fun k hk => hr k (by omega)) _ hm
      split at q
      · rename_i hi
        rw [List.mem_singleton] at q
        subst q
        rw [e] at hi ⊢
        unfold isRing at hi
        obtain ⟨h1, h2⟩ := Bool.and_eq_true_iff.mp hi
        exact ⟨a, r, rfl, ok, of_decide_eq_true h1, (ring_ch ok).mpr h2, rfl⟩
      · cases q
/-- every ring whose first is its least -/
theorem rg_all {m : Nat} (he : IsEnd B n m) {a : Nat} {r : List Nat} (h : RowOk B n a r) (h2 : 2 ≤ (a :: r).length) (hc : chain (adj B) (a :: r ++ [a])) : (a :: r, ringTurns B (a :: r)) ∈ rg B n m := by
  have hrun : Run B n m := he.more
  -- every prefix is met
  have pre : ∀ t, t ≤ r.length → (a :: r.take t) ∈ bw B n m := by
    intro t
    induction t with
    | zero =>
      intro _
      obtain ⟨u, hu⟩ := bw_pre (B := B) (n := n) 0 m
      rw [Nat.zero_add] at hu
      rw [← hu]
      refine List.mem_append_left _ ?_
      show [a] ∈ (List.range n).map fun k => [k]
      exact List.mem_map.mpr ⟨a, List.mem_range.mpr (h.lt a (by simp)), rfl⟩
    | succ t ih =>
      intro ht
      have q := ih (by omega)
      obtain ⟨p, hp, ep⟩ := List.getElem_of_mem q
      have hpm : p < m := Nat.lt_of_lt_of_le hp he.done
      have hpl := hrun p hpm
      have e1 : (bw B n p).getD p [] = a :: r.take t := by
        have := bw_at (Nat.le_of_lt hpm) hpl
        rw [List.getElem?_eq_getElem hp, ep] at this
        rw [List.getD_eq_getElem?_getD, ← this]; rfl
      obtain ⟨u, hu⟩ := bw_pre (B := B) (n := n) (p + 1) (m - (p + 1))
      rw [show p + 1 + (m - (p + 1)) = m by omega] at hu
      rw [← hu]
      refine List.mem_append_left _ ?_
      show _ ∈ bw B n p ++ ext B n ((bw B n p).getD p [])
      refine List.mem_append_right _ ?_
      rw [e1]
      have hk : t < r.length := by omega
      have et : r.take (t + 1) = r.take t ++ [r[t]] := by rw [List.take_add_one, List.getElem?_eq_getElem hk]; rfl
      have hmem : r[t] ∈ r := List.getElem_mem hk
      refine (mem_ext (h.lt a (by simp))).mpr ⟨r[t], h.up _ hmem, h.lt _ (by simp [hmem]), ?_, ?_, by rw [et]⟩
      · -- not ahead
        have hnd : (a :: r.take (t + 1)).Nodup := h.nd.sublist (List.Sublist.cons₂ a (List.take_sublist _ _))
        rw [et] at hnd
        have : (a :: r.take t ++ [r[t]]).Nodup := hnd
        rw [List.nodup_append] at this
        intro z
        exact this.2.2 _ z _ (by simp) rfl
      · have hch : chain (adj B) (a :: r.take (t + 1)) := by
          have h3 := (chain_iff (adj := adj B) (a :: r)).mp h.ch
          rw [chain_iff]
          intro k hk'
          have hlen : (a :: r.take (t + 1)).length = t + 2 := by simp; omega
          rw [hlen] at hk'
          have q := h3 k (by simp; omega)
          have g1 : ∀ j, j < t + 2 → (a :: r.take (t + 1)).getD j 0 = (a :: r).getD j 0 := by
            intro j hj
            rw [← List.take_succ_cons, List.getD_eq_getElem?_getD, List.getD_eq_getElem?_getD, List.getElem?_take_of_lt (by omega)]
          rw [g1 k (by omega), g1 (k + 1) (by omega)]
          exact q
        obtain ⟨pp, hpp⟩ := lastD_cons a (r.take t)
        have e4 : a :: r.take (t + 1) = pp ++ [lastD (a :: r.take t), r[t]] := by
          rw [et]
          have : a :: (r.take t ++ [r[t]]) = (a :: r.take t) ++ [r[t]] := rfl
          rw [this]
          conv => lhs; rw [hpp]
          simp
        rw [e4, chain_snoc] at hch
        exact hch.2
  have q := pre r.length (Nat.le_refl _)
  rw [List.take_length] at q
  obtain ⟨p, hp, ep⟩ := List.getElem_of_mem q
  have hpm : p < m := Nat.lt_of_lt_of_le hp he.done
  have hpl := hrun p hpm
  have e1 : (bw B n p).getD p [] = a :: r := by
    have := bw_at (Nat.le_of_lt hpm) hpl
    rw [List.getElem?_eq_getElem hp, ep] at this
    rw [List.getD_eq_getElem?_getD, ← this]; rfl
  have hin : (a :: r, ringTurns B (a :: r)) ∈ rg B n (p + 1) := by
    show _ ∈ rg B n p ++ _
    refine List.mem_append_right _ ?_
    rw [e1]
    have : isRing B (a :: r) = true := by
      unfold isRing
      exact Bool.and_eq_true_iff.mpr ⟨decide_eq_true (by omega), (ring_ch h).mp hc⟩
    rw [if_pos this]
    simp
  have mono : ∀ d, (a :: r, ringTurns B (a :: r)) ∈ rg B n (p + 1 + d) := by
    intro d
    induction d with
    | zero => exact hin
    | succ d ih => exact List.mem_append_left _ ih
  have := mono (m - (p + 1))
  rw [show p + 1 + (m - (p + 1)) = m by omega] at this
  exact this
end
end Lw


set_option linter.all false
namespace Lw
structure OrdOk (B : Tab) (o : Ord) : Prop where
  meets : ∀ i j, (i, j) ∈ o → adj B i j
  anti : ∀ i j, (i, j) ∈ o → (j, i) ∉ o
  nd : o.Nodup
def Full (B : Tab) (o : Ord) : Prop := ∀ i j, adj B i j → (i, j) ∈ o ∨ (j, i) ∈ o
def wgt (B : Tab) (size : Int) (o : Ord) (i j : Nat) : Int := bi B i j - (if (j, i) ∈ o then size else 0)
section
variable {n : Nat} {al : List Int} {B : Tab} {o : Ord} {size : Int}
theorem rr_full (ok : OrdOk B o) (full : Full B o) {ring : List Nat} (h : ∀ k, k < ring.length → adj B (ring.getD k 0) (nxt ring k)) :
    ∀ k, k ≤ ring.length → ∃ r, rrF o ring k = some r ∧ sumTo (fun k => wgt B size o (ring.getD k 0) (nxt ring k)) k = rtF B ring k - size * (r : Int)
  | 0, _ => ⟨0, rfl, by simp [sumTo, rtF]⟩
  | k + 1, hk => by
    obtain ⟨r, e, s⟩ := rr_full ok full h k (by omega)
    have ha := h k (by omega)
    have es : sumTo (fun k => wgt B size o (ring.getD k 0) (nxt ring k)) (k + 1) = rtF B ring k - size * (r : Int) + wgt B size o (ring.getD k 0) (nxt ring k) := by rw [← s]; rfl
    have et : rtF B ring (k + 1) = rtF B ring k + bi B (ring.getD k 0) (nxt ring k) := rfl
    by_cases q : (nxt ring k, ring.getD k 0) ∈ o
    · refine ⟨r + 1, ?_, ?_⟩
      · show (match rrF o ring k with | none => none | some r => _) = _
        rw [e]
        show (if _ then _ else _) = _
        rw [if_pos q]
      · rw [es, et]
        unfold wgt
        rw [if_pos q]
        have : size * ((r + 1 : Nat) : Int) = size * (r : Int) + size := by
          rw [Int.natCast_add, Int.mul_add]; simp
        rw [this]; omega
    · have q2 : (ring.getD k 0, nxt ring k) ∈ o := (full _ _ ha).resolve_right q
      refine ⟨r, ?_, ?_⟩
      · show (match rrF o ring k with | none => none | some r => _) = _
        rw [e]
        show (if _ then _ else if _ then _ else _) = _
        rw [if_neg q, if_pos q2]
      · rw [es, et]
        unfold wgt
        rw [if_neg q]; omega
theorem ring_full (ok : OrdOk B o) (full : Full B o) {a : Nat} {r : List Nat} (h : chain (adj B) (a :: r ++ [a])) :
    ∃ c, ringRounds o (a :: r) = some c ∧ pw (wgt B size o) (a :: r ++ [a]) = ringTurns B (a :: r) - size * (c : Int) := by
  obtain ⟨c, e, s⟩ := rr_full (size := size) ok full ((chain_ring a r).mp h) (a :: r).length (Nat.le_refl _)
  exact ⟨c, e, by rw [pw_ring]; exact s⟩
theorem closed_lt (g : Good n al B) {a : Nat} {r : List Nat} (h : chain (adj B) (a :: r ++ [a])) : ∀ x ∈ a :: r, x < n := by
  intro x hx
  obtain ⟨k, hk, e⟩ := List.getElem_of_mem hx
  have q := (chain_ring a r).mp h k hk
  rw [List.getD_eq_getElem?_getD, List.getElem?_eq_getElem hk, e] at q
  exact (g.lt q).1
theorem no_pos (g : Good n al B) (ok : OrdOk B o) (full : Full B o) {m : Nat} (he : IsEnd B n m) (hs : ∀ x ∈ rg B n m, ∀ c : Nat, ringRounds o x.1 = some c → x.2 ≤ size * (c : Int)) : NoPos (wgt B size o) (adj B) := by
  intro a r nd ch
  have hlt := closed_lt g ch
  obtain ⟨x, mn, y, e, hmin⟩ := has_min (a :: r) (by simp)
  -- the rotated ring
  have key : ∃ r', pw (wgt B size o) (a :: r ++ [a]) = pw (wgt B size o) (mn :: r' ++ [mn]) ∧ chain (adj B) (mn :: r' ++ [mn]) ∧ (mn :: r').Perm (a :: r) := by
    cases x with
    | nil =>
      have e2 : a :: r = mn :: y := e
      injection e2 with e3 e4
      subst e3 e4
      exact ⟨r, rfl, ch, List.Perm.refl _⟩
    | cons b x =>
      have e2 : a :: r = b :: (x ++ mn :: y) := e
      injection e2 with e3 e4
      subst e3
      refine ⟨y ++ a :: x, ?_, ?_, ?_⟩
      · rw [e4, ← pw_rot]; simp
      · rw [e4] at ch
        rw [← chain_rot]
        simpa using ch
      · rw [e4]
        have h1 : (mn :: (y ++ a :: x)) = (mn :: y) ++ (a :: x) := rfl
        have h2 : (a :: (x ++ mn :: y)) = (a :: x) ++ (mn :: y) := rfl
        rw [h1, h2]
        exact List.perm_append_comm
  obtain ⟨r', ew, ch', pm⟩ := key
  have nd' : (mn :: r').Nodup := pm.nodup_iff.mpr nd
  have row : RowOk B n mn r' := by
    refine ⟨nd', fun x hx => hlt x (pm.mem_iff.mp hx), ?_, fun x hx => ?_⟩
    · have h3 := (chain_iff (adj := adj B) _).mp ch'
      rw [chain_iff]
      intro k hk
      have q := h3 k (by simp at hk ⊢; omega)
      have g1 : ∀ j, j < (mn :: r').length → (mn :: r' ++ [mn]).getD j 0 = (mn :: r').getD j 0 := by
        intro j hj
        rw [List.getD_eq_getElem?_getD, List.getD_eq_getElem?_getD, List.getElem?_append_left hj]
      rw [g1 k (by omega), g1 (k + 1) hk] at q
      exact q
    · have h1 := hmin x (pm.mem_iff.mp (by simp [hx]))
      have h2 : mn ≠ x := by
        intro z
        rw [List.nodup_cons] at nd'
        exact nd'.1 (z ▸ hx)
      omega
  have two : 2 ≤ (mn :: r').length := by
    cases r' with
    | nil =>
      have : adj B mn mn := ch'.1
      exact absurd rfl (g.ne this)
    | cons z r' => simp
  have hin := rg_all he row two ch'
  obtain ⟨c, ec, es⟩ := ring_full (size := size) ok full ch'
  have := hs _ hin c ec
  rw [ew, es]
  omega
/-! the passes -/
theorem getD_set (b : List Int) (k v : Nat) (x : Int) (hk : k < b.length) : (b.set k x).getD v 0 = if v = k then x else b.getD v 0 := by
  rw [List.getD_eq_getElem?_getD, List.getD_eq_getElem?_getD]
  by_cases h : v = k
  · subst h
    rw [if_pos rfl, List.getElem?_set_self hk]; rfl
  · rw [if_neg h, List.getElem?_set_ne (Ne.symm h)]
theorem pmax_le_l (a b : Int) : a ≤ pmax a b := by
  unfold pmax; split <;> omega
theorem pmax_le_r (a b : Int) : b ≤ pmax a b := by
  unfold pmax; split <;> omega
theorem pmax_or (a b : Int) : pmax a b = a ∨ pmax a b = b := by
  unfold pmax; split <;> simp
def Up (B : Tab) (size : Int) (o : Ord) (n : Nat) (b : List Int) : Prop := ∀ v, v < n → ∃ l : List Nat, chain (adj B) (l ++ [v]) ∧ b.getD v 0 = pw (wgt B size o) (l ++ [v])
theorem Up.set {b : List Int} (u : Up B size o n b) (hb : b.length = n) {i j : Nat} (hi : i < n) (hj : j < n) (ha : adj B i j) {x : Int} (hx : x = b.getD i 0 + wgt B size o i j) : Up B size o n (b.set j (pmax (b.getD j 0) x)) := by
  intro v hv
  rw [getD_set b j v _ (by omega)]
  by_cases h : v = j
  · subst h
    rw [if_pos rfl]
    rcases pmax_or (b.getD v 0) x with e | e
    · rw [e]; exact u v hv
    · rw [e, hx]
      obtain ⟨l, c, el⟩ := u i hi
      refine ⟨l ++ [i], ?_, ?_⟩
      · rw [List.append_assoc]
        exact (chain_snoc i v l).mpr ⟨c, ha⟩
      · rw [List.append_assoc]
        show _ = pw _ (l ++ [i, v])
        rw [pw_snoc, el]
  · rw [if_neg h]
    exact u v hv
theorem relax_spec (g : Good n al B) (ok : OrdOk B o) {b : List Int} (hb : b.length = n) {p : Nat × Nat} (hp : p ∈ o) :
    (relax B size b p).length = n ∧ (∀ v, b.getD v 0 ≤ (relax B size b p).getD v 0) ∧ (b.getD p.1 0 + wgt B size o p.1 p.2 ≤ (relax B size b p).getD p.2 0 ∧ b.getD p.2 0 + wgt B size o p.2 p.1 ≤ (relax B size b p).getD p.1 0) ∧ (Up B size o n b → Up B size o n (relax B size b p)) := by
  obtain ⟨i, j⟩ := p
  have ha := ok.meets i j hp
  obtain ⟨hi, hj⟩ := g.lt ha
  have hne := g.ne ha
  have w1 : wgt B size o i j = bi B i j := by
    unfold wgt
    rw [if_neg (ok.anti i j hp)]; omega
  have w2 : wgt B size o j i = bi B j i - size := by
    unfold wgt
    rw [if_pos hp]
  show (relax B size b (i, j)).length = n ∧ (∀ v, b.getD v 0 ≤ (relax B size b (i, j)).getD v 0) ∧ (b.getD i 0 + wgt B size o i j ≤ (relax B size b (i, j)).getD j 0 ∧ b.getD j 0 + wgt B size o j i ≤ (relax B size b (i, j)).getD i 0) ∧ (Up B size o n b → Up B size o n (relax B size b (i, j)))
  let b1 := b.set j (pmax (b.getD j 0) (b.getD i 0 + bi B i j))
  have l1 : b1.length = n := by simp [b1, hb]
  have e2 : relax B size b (i, j) = b1.set i (pmax (b1.getD i 0) (b1.getD j 0 + bi B j i - size)) := rfl
  have g1 : ∀ v, b1.getD v 0 = if v = j then pmax (b.getD j 0) (b.getD i 0 + bi B i j) else b.getD v 0 := fun v => getD_set b j v _ (by omega)
  have g2 : ∀ v, (relax B size b (i, j)).getD v 0 = if v = i then pmax (b1.getD i 0) (b1.getD j 0 + bi B j i - size) else b1.getD v 0 := fun v => by rw [e2]; exact getD_set b1 i v _ (by omega)
  have m1 : ∀ v, b.getD v 0 ≤ b1.getD v 0 := fun v => by
    rw [g1]
    split
    · rename_i h
      rw [h]; exact pmax_le_l _ _
    · exact Int.le_refl _
  have m2 : ∀ v, b1.getD v 0 ≤ (relax B size b (i, j)).getD v 0 := fun v => by
    rw [g2]
    split
    · rename_i h
      rw [h]; exact pmax_le_l _ _
    · exact Int.le_refl _
  refine ⟨by rw [e2]; simp [l1], fun v => Int.le_trans (m1 v) (m2 v), ⟨?_, ?_⟩, fun u => ?_⟩
  · rw [w1]
    refine Int.le_trans ?_ (m2 j)
    rw [g1, if_pos rfl]
    exact pmax_le_r _ _
  · rw [w2, g2, if_pos rfl]
    have := m1 j
    refine Int.le_trans ?_ (pmax_le_r _ _)
    omega
  · have u1 : Up B size o n b1 := u.set hb hi hj ha (by rw [w1])
    rw [e2]
    exact u1.set l1 hj hi (g.swap ha) (by rw [w2]; omega)
theorem relaxL_spec (g : Good n al B) (ok : OrdOk B o) : ∀ (l : Ord) (b : List Int), (∀ p ∈ l, p ∈ o) → b.length = n →
    (l.foldl (relax B size) b).length = n ∧ (∀ v, b.getD v 0 ≤ (l.foldl (relax B size) b).getD v 0) ∧ (∀ p ∈ l, b.getD p.1 0 + wgt B size o p.1 p.2 ≤ (l.foldl (relax B size) b).getD p.2 0 ∧ b.getD p.2 0 + wgt B size o p.2 p.1 ≤ (l.foldl (relax B size) b).getD p.1 0) ∧ (Up B size o n b → Up B size o n (l.foldl (relax B size) b))
  | [], b, _, hb => ⟨hb, fun _ => Int.le_refl _, fun p hp => (by cases hp), fun u => u⟩
  | q :: l, b, hl, hb => by
    obtain ⟨s1, s2, s3, s4⟩ := relax_spec (size := size) g ok hb (hl q (by simp))
    obtain ⟨t1, t2, t3, t4⟩ := relaxL_spec g ok l (relax B size b q) (fun p hp => hl p (by simp [hp])) s1
    refine ⟨t1, fun v => Int.le_trans (s2 v) (t2 v), fun p hp => ?_, fun u => t4 (s4 u)⟩
    rcases List.mem_cons.mp hp with e | hp
    · subst e
      exact ⟨Int.le_trans s3.1 (t2 _), Int.le_trans s3.2 (t2 _)⟩
    · obtain ⟨a1, a2⟩ := t3 p hp
      have b1 := s2 p.1
      have b2 := s2 p.2
      exact ⟨by simp only [List.foldl_cons]; omega, by simp only [List.foldl_cons]; omega⟩
def Low (B : Tab) (size : Int) (o : Ord) (n k : Nat) (b : List Int) : Prop := ∀ (l : List Nat) (v : Nat), chain (adj B) (l ++ [v]) → v < n → l.length ≤ k → pw (wgt B size o) (l ++ [v]) ≤ b.getD v 0
theorem relaxN_spec (g : Good n al B) (ok : OrdOk B o) (full : Full B o) : ∀ k, (relaxN B size o n k).length = n ∧ Up B size o n (relaxN B size o n k) ∧ Low B size o n k (relaxN B size o n k)
  | 0 => by
    have h0 : ∀ v, (List.replicate n (0 : Int)).getD v 0 = 0 := fun v => by
      rw [List.getD_eq_getElem?_getD, List.getElem?_replicate]
      split <;> rfl
    refine ⟨by simp [relaxN], fun v hv => ⟨[], trivial, ?_⟩, fun l v _ _ hl => ?_⟩
    · show (List.replicate n (0 : Int)).getD v 0 = 0
      exact h0 v
    · have : l = [] := List.length_eq_zero_iff.mp (by omega)
      subst this
      show 0 ≤ (List.replicate n (0 : Int)).getD v 0
      rw [h0]; omega
  | k + 1 => by
    obtain ⟨h1, h2, h3⟩ := relaxN_spec g ok full k
    obtain ⟨t1, t2, t3, t4⟩ := relaxL_spec (size := size) g ok o (relaxN B size o n k) (fun _ h => h) h1
    refine ⟨t1, t4 h2, fun l v hc hv hl => ?_⟩
    show _ ≤ (o.foldl (relax B size) (relaxN B size o n k)).getD v 0
    by_cases hk : l.length ≤ k
    · exact Int.le_trans (h3 l v hc hv hk) (t2 v)
    · have hne : l ≠ [] := by
        intro e
        subst e
        simp at hk
      obtain ⟨l', u, rfl⟩ : ∃ l' u, l = l' ++ [u] := ⟨l.dropLast, l.getLast hne, (List.dropLast_concat_getLast hne).symm⟩
      have e : l' ++ [u] ++ [v] = l' ++ [u, v] := by simp
      rw [e, chain_snoc] at hc
      rw [e, pw_snoc]
      have hu := (g.lt hc.2).1
      have q := h3 l' u hc.1 hu (by simp at hl; omega)
      have edge : (relaxN B size o n k).getD u 0 + wgt B size o u v ≤ (o.foldl (relax B size) (relaxN B size o n k)).getD v 0 := by
        rcases full u v hc.2 with z | z
        · exact (t3 _ z).1
        · exact (t3 _ z).2
      omega
theorem chain_lt (g : Good n al B) : ∀ (a : Nat) (l : List Nat), a < n → chain (adj B) (a :: l) → ∀ x ∈ a :: l, x < n
  | a, [], h, _ => by simpa using h
  | a, b :: l, h, hc => by
    intro x hx
    rcases List.mem_cons.mp hx with e | hx
    · rw [e]; exact h
    · exact chain_lt g b l (g.lt hc.1).2 hc.2 x hx
theorem settled_le (g : Good n al B) (ok : OrdOk B o) (full : Full B o) (hn : NoPos (wgt B size o) (adj B)) {i j : Nat} (ha : adj B i j) :
    (relaxN B size o n n).getD i 0 + wgt B size o i j ≤ (relaxN B size o n n).getD j 0 := by
  obtain ⟨h1, h2, h3⟩ := relaxN_spec (size := size) g ok full n
  obtain ⟨hi, hj⟩ := g.lt ha
  obtain ⟨l, c, el⟩ := h2 i hi
  have hch : chain (adj B) (l ++ [i, j]) := (chain_snoc i j l).mpr ⟨c, ha⟩
  have hw : pw (wgt B size o) (l ++ [i, j]) = (relaxN B size o n n).getD i 0 + wgt B size o i j := by rw [pw_snoc, el]
  obtain ⟨a, t, e⟩ : ∃ a t, l ++ [i, j] = a :: t := by
    cases l with
    | nil => exact ⟨i, [j], rfl⟩
    | cons a l => exact ⟨a, l ++ [i, j], rfl⟩
  rw [e] at hch hw
  have halt : a < n := by
    cases t with
    | nil =>
      have := congrArg List.length e
      simp at this
    | cons b t => exact (g.lt hch.1).1
  obtain ⟨r, nd, cr, el2, wr, mr⟩ := reduce hn a t hch
  have hlast : (a :: r).getLast? = some j := by
    rw [el2, ← e]
    simp [List.getLast?_append]
  obtain ⟨q, hq⟩ : ∃ q, a :: r = q ++ [j] := by
    refine ⟨(a :: r).dropLast, ?_⟩
    rw [List.getLast?_eq_getLast (List.cons_ne_nil a r)] at hlast
    rw [← Option.some.inj hlast]
    exact (List.dropLast_concat_getLast (List.cons_ne_nil a r)).symm
  have hlen : (a :: r).length ≤ n := by
    have q := List.Nodup.length_le_of_subset (l₂ := List.range n) nd fun x hx => List.mem_range.mpr (chain_lt g a r halt cr x hx)
    rw [List.length_range] at q
    exact q
  rw [hq] at cr wr hlen
  have := h3 q j cr hj (by simp at hlen; omega)
  omega
/-- the begins do -/
theorem settled_do (g : Good n al B) (ok : OrdOk B o) (full : Full B o) (hn : NoPos (wgt B size o) (adj B)) (hz : 0 < size) {i j : Nat} (ha : adj B i j) :
    bi B i j ≤ ((settledB B size o n).getD j 0 - (settledB B size o n).getD i 0).fmod size := by
  have h1 := settled_le (size := size) g ok full hn ha
  have h2 := settled_le (size := size) g ok full hn (g.swap ha)
  obtain ⟨hi, hj⟩ := g.lt ha
  have hl := (relaxN_spec (size := size) g ok full n).1
  have gs : ∀ v, v < n → (settledB B size o n).getD v 0 = ((relaxN B size o n n).getD v 0).fmod size := fun v hv => by
    unfold settledB
    rw [List.getD_eq_getElem?_getD, List.getElem?_map, List.getElem?_eq_getElem (by omega), List.getD_eq_getElem?_getD, List.getElem?_eq_getElem (by omega)]
    rfl
  rw [gs i hi, gs j hj]
  generalize (relaxN B size o n n).getD i 0 = x at h1 h2
  generalize (relaxN B size o n n).getD j 0 = y at h1 h2
  have p1 := g.bpos ha
  have p2 := g.bpos (g.swap ha)
  rw [Int.fmod_eq_emod_of_nonneg _ (by omega), Int.fmod_eq_emod_of_nonneg _ (by omega), Int.fmod_eq_emod_of_nonneg _ (by omega), ← Int.sub_emod]
  rcases full i j ha with z | z
  · have w1 : wgt B size o i j = bi B i j := by
      unfold wgt
      rw [if_neg (ok.anti i j z)]; omega
    have w2 : wgt B size o j i = bi B j i - size := by
      unfold wgt
      rw [if_pos z]
    rw [Int.emod_eq_of_lt (by omega) (by omega)]
    omega
  · have w1 : wgt B size o i j = bi B i j - size := by
      unfold wgt
      rw [if_pos z]
    have w2 : wgt B size o j i = bi B j i := by
      unfold wgt
      rw [if_neg (ok.anti j i z)]; omega
    have e : (y - x) % size = (y - x + size) % size := by simp
    rw [e, Int.emod_eq_of_lt (by omega) (by omega)]
    omega
theorem settled_range (hz : 0 < size) : ∀ b ∈ settledB B size o n, 0 ≤ b ∧ b < size := by
  intro b hb
  obtain ⟨x, _, rfl⟩ := List.mem_map.mp hb
  rw [Int.fmod_eq_emod_of_nonneg _ (by omega)]
  exact ⟨Int.emod_nonneg _ (by omega), Int.emod_lt_of_pos _ hz⟩
theorem settled_len (g : Good n al B) (ok : OrdOk B o) (full : Full B o) : (settledB B size o n).length = n := by
  unfold settledB
  rw [List.length_map]
  exact (relaxN_spec (size := size) g ok full n).1
end
end Lw


set_option linter.all false
namespace Lw
def opens (B : Tab) (n : Nat) (o : Ord) : Nat := (allPairs n).countP (isOpen B o)
theorem mem_allPairs {n i j : Nat} : (i, j) ∈ allPairs n ↔ i < j ∧ j < n := by
  unfold allPairs
  simp only [List.mem_flatMap, List.mem_map, List.mem_range, Prod.mk.injEq]
  constructor
  · rintro ⟨i', h1, m, h2, rfl, rfl⟩
    omega
  · rintro ⟨h1, h2⟩
    exact ⟨i, by omega, j - (i + 1), by omega, rfl, by omega⟩
theorem countP_lt {α : Type} {p q : α → Bool} : ∀ (l : List α), (∀ x ∈ l, q x = true → p x = true) → (∃ x ∈ l, p x = true ∧ q x = false) → l.countP q < l.countP p
  | [], _, h => by
    obtain ⟨x, hx, _⟩ := h
    cases hx
  | a :: l, h, hx => by
    have hle : l.countP q ≤ l.countP p := List.countP_mono_left fun x hx => h x (by simp [hx])
    rw [List.countP_cons, List.countP_cons]
    obtain ⟨x, hx, h1, h2⟩ := hx
    rcases List.mem_cons.mp hx with e | hx
    · subst e
      rw [h1, h2]
      simp; omega
    · have ih := countP_lt l (fun x hx => h x (by simp [hx])) ⟨x, hx, h1, h2⟩
      have ha := h a (by simp)
      cases hq : q a with
      | true =>
        rw [ha hq]
        simp; omega
      | false =>
        cases hp : p a <;> simp <;> omega
section
variable {n : Nat} {al : List Int} {B : Tab} {o : Ord} {size : Int}
theorem isOpen_iff {p : Nat × Nat} : isOpen B o p = true ↔ adj B p.1 p.2 ∧ p ∉ o ∧ (p.2, p.1) ∉ o := by
  unfold isOpen adj
  simp only [Bool.and_eq_true, Bool.not_eq_true', List.contains_eq_mem, decide_eq_false_iff_not]
theorem openPair_some {p : Nat × Nat} (h : openPair B n o = some p) : p.1 < p.2 ∧ p.2 < n ∧ adj B p.1 p.2 ∧ p ∉ o ∧ (p.2, p.1) ∉ o := by
  obtain ⟨i, j⟩ := p
  have h1 := isOpen_iff.mp (List.find?_some h)
  have h2 := mem_allPairs.mp (List.mem_of_find?_eq_some h)
  exact ⟨h2.1, h2.2, h1.1, h1.2.1, h1.2.2⟩
theorem openPair_none (g : Good n al B) (h : openPair B n o = none) : Full B o := by
  have key : ∀ i j, i < j → adj B i j → (i, j) ∈ o ∨ (j, i) ∈ o := by
    intro i j hij ha
    have q := List.find?_eq_none.mp h (i, j) (mem_allPairs.mpr ⟨hij, (g.lt ha).2⟩)
    rw [isOpen_iff] at q
    by_cases h1 : (i, j) ∈ o
    · exact .inl h1
    · by_cases h2 : (j, i) ∈ o
      · exact .inr h2
      · exact absurd ⟨ha, h1, h2⟩ q
  intro i j ha
  rcases Nat.lt_trichotomy i j with e | e | e
  · exact key i j e ha
  · exact absurd e (g.ne ha)
  · exact (key j i e (g.swap ha)).symm
theorem opens_add {p q : Nat × Nat} (h : openPair B n o = some p) (hq : q = p ∨ q = (p.2, p.1)) : opens B n (o ++ [q]) < opens B n o := by
  have hp := openPair_some h
  refine countP_lt _ (fun x _ hx => ?_) ⟨p, ?_, List.find?_some h, ?_⟩
  · rw [isOpen_iff] at hx ⊢
    exact ⟨hx.1, fun z => hx.2.1 (by simp [z]), fun z => hx.2.2 (by simp [z])⟩
  · obtain ⟨i, j⟩ := p
    exact mem_allPairs.mpr ⟨hp.1, hp.2.1⟩
  · cases e : isOpen B (o ++ [q]) p with
    | false => rfl
    | true =>
      rw [isOpen_iff] at e
      rcases hq with rfl | rfl
      · exact absurd (by simp) e.2.1
      · exact absurd (by simp) e.2.2
theorem opens_pos {p : Nat × Nat} (h : openPair B n o = some p) : 0 < opens B n o := Nat.lt_of_le_of_lt (Nat.zero_le _) (opens_add h (.inl rfl))
theorem OrdOk.add (ok : OrdOk B o) {i j : Nat} (ha : adj B i j) (hne : i ≠ j) (h1 : (i, j) ∉ o) (h2 : (j, i) ∉ o) : OrdOk B (o ++ [(i, j)]) := by
  refine ⟨fun x y h => ?_, fun x y h => ?_, ?_⟩
  · rcases List.mem_append.mp h with q | q
    · exact ok.meets x y q
    · have e := List.mem_singleton.mp q
      injection e with e1 e2
      subst e1 e2
      exact ha
  · intro z
    rcases List.mem_append.mp h with q | q
    · rcases List.mem_append.mp z with w | w
      · exact ok.anti x y q w
      · have e := List.mem_singleton.mp w
        injection e with e1 e2
        subst e1 e2
        exact h2 q
    · have e := List.mem_singleton.mp q
      injection e with e1 e2
      subst e1 e2
      rcases List.mem_append.mp z with w | w
      · exact h2 w
      · have e := List.mem_singleton.mp w
        injection e with e1 e2
        exact hne e2
  · rw [List.nodup_append]
    refine ⟨ok.nd, by simp, fun x hx y hy => ?_⟩
    rw [List.mem_singleton.mp hy]
    intro e
    exact h1 (e ▸ hx)
theorem OrdOk.both (g : Good n al B) (ok : OrdOk B o) {p : Nat × Nat} (h : openPair B n o = some p) : OrdOk B (o ++ [p]) ∧ OrdOk B (o ++ [(p.2, p.1)]) := by
  obtain ⟨i, j⟩ := p
  obtain ⟨h1, h2, h3, h4, h5⟩ := openPair_some h
  exact ⟨ok.add h3 (g.ne h3) h4 h5, ok.add (g.swap h3) (g.ne (g.swap h3)) h5 h4⟩
/-! the first order -/
theorem mem_first {c i j : Nat} : (i, j) ∈ firstN B c ↔ i = 0 ∧ j < c ∧ adj B 0 j := by
  unfold firstN adj
  simp only [List.mem_map, List.mem_filter, List.mem_range, Prod.mk.injEq]
  constructor
  · rintro ⟨x, ⟨h1, h2⟩, rfl, rfl⟩
    exact ⟨rfl, h1, h2⟩
  · rintro ⟨rfl, h1, h2⟩
    exact ⟨j, ⟨h1, h2⟩, rfl, rfl⟩
theorem first_ok (g : Good n al B) : OrdOk B (firstN B n) := by
  refine ⟨fun i j h => ?_, fun i j h z => ?_, ?_⟩
  · obtain ⟨rfl, _, h⟩ := mem_first.mp h
    exact h
  · obtain ⟨rfl, _, h⟩ := mem_first.mp h
    obtain ⟨rfl, _, _⟩ := mem_first.mp z
    exact g.ne h rfl
  · unfold firstN
    have h1 : ((List.range n).filter fun j => (bh B 0 j).isSome).Nodup := List.Nodup.sublist List.filter_sublist List.nodup_range
    exact List.Pairwise.map _ (fun a b hab e => hab (by injection e)) h1
theorem first_up (g : Good n al B) : ∀ i j, (i, j) ∈ firstN B n → i < j := by
  intro i j h
  obtain ⟨rfl, _, h⟩ := mem_first.mp h
  have := g.ne h
  omega
theorem opens_first (g : Good n al B) : opens B n (firstN B n) ≤ 6 := by
  have h1 : opens B n (firstN B n) ≤ (allPairs n).countP (fun p => p.1 != 0) := by
    refine List.countP_mono_left fun p hp h => ?_
    obtain ⟨i, j⟩ := p
    obtain ⟨ha, h1, h2⟩ := isOpen_iff.mp h
    cases i with
    | zero => exact absurd (mem_first.mpr ⟨rfl, (g.lt ha).2, ha⟩) h1
    | succ i => rfl
  refine Nat.le_trans h1 ?_
  have h5 := g.n5
  have h1 := g.n1
  have : n = 1 ∨ n = 2 ∨ n = 3 ∨ n = 4 ∨ n = 5 := by omega
  rcases this with rfl | rfl | rfl | rfl | rfl <;> decide
/-! sizes -/
theorem cdiv_le {t s : Int} {r : Nat} (hr : 0 < r) : cdiv t r ≤ s ↔ t ≤ s * (r : Int) := by
  unfold cdiv
  have hp : (0 : Int) < (r : Int) := by omega
  rw [Int.fdiv_eq_ediv_of_nonneg _ (by omega)]
  constructor
  · intro h
    have h1 := Int.lt_ediv_add_one_mul_self (t + (r : Int) - 1) hp
    have h2 : ((t + (r : Int) - 1) / (r : Int) + 1) * (r : Int) ≤ (s + 1) * (r : Int) := Int.mul_le_mul_of_nonneg_right (by omega) (by omega)
    rw [Int.add_mul] at h2
    rw [Int.add_mul s] at h2
    rw [Int.add_mul] at h1
    omega
  · intro h
    have h1 := Int.ediv_mul_le (t + (r : Int) - 1) (b := (r : Int)) (by omega)
    have h2 : (t + (r : Int) - 1) / (r : Int) * (r : Int) < (s + 1) * (r : Int) := by
      rw [Int.add_mul]; omega
    have := Int.lt_of_mul_lt_mul_right h2 (by omega)
    omega
theorem rt_pos (g : Good n al B) {ring : List Nat} (h : ∀ k, k < ring.length → adj B (ring.getD k 0) (nxt ring k)) : ∀ k, k ≤ ring.length → (k : Int) ≤ rtF B ring k
  | 0, _ => Int.le_refl _
  | k + 1, hk => by
    have ih := rt_pos g h k (by omega)
    have := g.bpos (h k (by omega))
    show _ ≤ rtF B ring k + bi B (ring.getD k 0) (nxt ring k)
    omega
theorem RingOk.pos (g : Good n al B) {x : List Nat × Int} {a : Nat} {r : List Nat} (h : RingOk B n x a r) : 1 ≤ x.2 := by
  have q := rt_pos g ((chain_ring a r).mp h.ch) (a :: r).length (Nat.le_refl _)
  rw [h.t, h.e]
  unfold ringTurns
  have := h.two
  omega
theorem osF_some {rings : List (List Nat × Int)} : ∀ {l : List (List Nat × Int)} {s0 s : Int}, osF o l s0 = some s → s0 ≤ s ∧ ∀ x ∈ l, ∀ c : Nat, ringRounds o x.1 = some c → 0 < c ∧ x.2 ≤ s * (c : Int)
  | [], s0, s, h => by
    have : s0 = s := Option.some.inj h
    exact ⟨by omega, fun x hx => by cases hx⟩
  | (ring, t) :: l, s0, s, h => by
    have h1 : (match ringRounds o ring with
      | some 0 => none
      | some r => osF o l (pmax s0 (cdiv t r))
      | none => none) = some s := h
    cases e : ringRounds o ring with
    | none =>
      rw [e] at h1
      cases h1
    | some c =>
      rw [e] at h1
      cases c with
      | zero => cases h1
      | succ c =>
        have h2 : osF o l (pmax s0 (cdiv t (c + 1))) = some s := h1
        obtain ⟨i1, i2⟩ := osF_some (rings := rings) h2
        have a1 := pmax_le_l s0 (cdiv t (c + 1))
        have a2 := pmax_le_r s0 (cdiv t (c + 1))
        refine ⟨by omega, fun x hx c' hc' => ?_⟩
        rcases List.mem_cons.mp hx with q | q
        · subst q
          have : c + 1 = c' := Option.some.inj (e.symm.trans hc')
          subst this
          exact ⟨by omega, (cdiv_le (by omega)).mp (show cdiv t (c + 1) ≤ s by omega)⟩
        · exact i2 x q c' hc'
/-- no ring fires: a size is told, and it is small -/
theorem osF_le {l : List (List Nat × Int)} : ∀ {s0 s : Int}, s0 ≤ s → (∀ x ∈ l, ∃ c : Nat, ringRounds o x.1 = some c ∧ 1 ≤ x.2 ∧ x.2 ≤ s * (c : Int)) → ∃ v, osF o l s0 = some v ∧ v ≤ s := by
  induction l with
  | nil => intro s0 s h _; exact ⟨s0, rfl, h⟩
  | cons x l ih =>
    intro s0 s h hx
    obtain ⟨ring, t⟩ := x
    obtain ⟨c, ec, h1, h2⟩ := hx (ring, t) (by simp)
    cases c with
    | zero =>
      simp only [Int.natCast_zero, Int.mul_zero] at h2
      omega
    | succ c =>
      have h3 : cdiv t (c + 1) ≤ s := (cdiv_le (by omega)).mpr h2
      obtain ⟨v, ev, hv⟩ := ih (s0 := pmax s0 (cdiv t (c + 1))) (s := s) (by rcases pmax_or s0 (cdiv t (c + 1)) with q | q <;> rw [q] <;> assumption) fun x hx' => hx x (by simp [hx'])
      refine ⟨v, ?_, hv⟩
      show (match ringRounds o ring with
        | some 0 => none
        | some r => osF o l (pmax s0 (cdiv t r))
        | none => none) = some v
      rw [show ringRounds o ring = some (c + 1) from ec]
      exact ev
/-- all rounds are above 0: a size is told -/
theorem osF_is {l : List (List Nat × Int)} : ∀ {s0 : Int}, (∀ x ∈ l, ∃ c : Nat, ringRounds o x.1 = some (c + 1)) → ∃ v, osF o l s0 = some v := by
  induction l with
  | nil => intro s0 _; exact ⟨s0, rfl⟩
  | cons x l ih =>
    intro s0 hx
    obtain ⟨ring, t⟩ := x
    obtain ⟨c, ec⟩ := hx (ring, t) (by simp)
    obtain ⟨v, ev⟩ := ih (s0 := pmax s0 (cdiv t (c + 1))) fun x hx' => hx x (by simp [hx'])
    refine ⟨v, ?_⟩
    show (match ringRounds o ring with
      | some 0 => none
      | some r => osF o l (pmax s0 (cdiv t r))
      | none => none) = some v
    rw [show ringRounds o ring = some (c + 1) from ec]
    exact ev
/-! the best order -/
theorem better_or (a b : Option Int × Ord) : better a b = a ∨ better a b = b := by
  unfold better
  split
  · exact .inr rfl
  · split
    · exact .inr rfl
    · exact .inl rfl
  · exact .inl rfl
def AtLeast (x : Option Int) (s : Int) : Prop := ∀ v, x = some v → s ≤ v
theorem better_least {a b : Option Int × Ord} {s : Int} (h : AtLeast (better a b).1 s) : AtLeast a.1 s ∧ AtLeast b.1 s := by
  obtain ⟨a1, a2⟩ := a
  obtain ⟨b1, b2⟩ := b
  cases a1 with
  | none => exact ⟨fun v hv => (by cases hv), h⟩
  | some x =>
    cases b1 with
    | none => exact ⟨h, fun v hv => (by cases hv)⟩
    | some y =>
      have h1 : AtLeast (if y < x then ((some y, b2) : Option Int × Ord) else (some x, a2)).1 s := h
      split at h1
      · have := h1 y rfl
        exact ⟨fun v hv => (by cases hv; omega), fun v hv => (by cases hv; omega)⟩
      · have := h1 x rfl
        exact ⟨fun v hv => (by cases hv; omega), fun v hv => (by cases hv; omega)⟩
theorem better_some {a b : Option Int × Ord} (h : a.1 ≠ none) : (better a b).1 ≠ none := by
  obtain ⟨a1, a2⟩ := a
  obtain ⟨b1, b2⟩ := b
  cases a1 with
  | none => exact absurd rfl h
  | some x =>
    cases b1 with
    | none => exact h
    | some y =>
      show (if y < x then ((some y, b2) : Option Int × Ord) else (some x, a2)).1 ≠ none
      split <;> simp
variable {rings : List (List Nat × Int)}
theorem bestF_leaf (f : Nat) (h : openPair B n o = none) : bestF B al rings n f o = (orderSize al rings o, o) := by
  cases f with
  | zero => rfl
  | succ f =>
    show (match openPair B n o with | none => _ | some p => _) = _
    rw [h]
theorem bestF_node (f : Nat) {p : Nat × Nat} (h : openPair B n o = some p) : bestF B al rings n (f + 1) o = better (bestF B al rings n f (o ++ [p])) (bestF B al rings n f (o ++ [(p.2, p.1)])) := by
  show (match openPair B n o with | none => _ | some p => _) = _
  rw [h]
theorem best_is (g : Good n al B) : ∀ (f : Nat) (o : Ord), OrdOk B o → opens B n o ≤ f → OrdOk B (bestF B al rings n f o).2 ∧ Full B (bestF B al rings n f o).2 ∧ (bestF B al rings n f o).1 = orderSize al rings (bestF B al rings n f o).2
  | f, o, ok, hf => by
    cases e : openPair B n o with
    | none =>
      rw [bestF_leaf f e]
      exact ⟨ok, openPair_none g e, rfl⟩
    | some p =>
      have hp := opens_pos e
      obtain ⟨f, rfl⟩ : ∃ f', f = f' + 1 := ⟨f - 1, by omega⟩
      obtain ⟨k1, k2⟩ := ok.both g e
      have o1 := opens_add e (.inl rfl)
      have o2 := opens_add e (.inr rfl)
      rw [bestF_node f e]
      rcases better_or (bestF B al rings n f (o ++ [p])) (bestF B al rings n f (o ++ [(p.2, p.1)])) with q | q
      · rw [q]
        exact best_is g f _ k1 (by omega)
      · rw [q]
        exact best_is g f _ k2 (by omega)
def Sound (B : Tab) (n : Nat) (rings : List (List Nat × Int)) : Prop := ∀ x ∈ rings, ∃ a r, RingOk B n x a r
theorem leaf_some (g : Good n al B) (hs : Sound B n rings) (ok : OrdOk B o) (full : Full B o) (up : ∀ i j, (i, j) ∈ o → i < j) : orderSize al rings o ≠ none := by
  obtain ⟨v, e⟩ := osF_is (o := o) (l := rings) (s0 := maxL al) fun x hx => by
    obtain ⟨a, r, k⟩ := hs x hx
    have hch := (chain_ring a r).mp k.ch
    obtain ⟨c, ec, _⟩ := rr_full (size := 0) ok full hch ((a :: r).length - 1) (by omega)
    have hl := k.two
    have hlast : (a :: r).getD ((a :: r).length - 1) 0 = lastD (a :: r) := rfl
    have hn : nxt (a :: r) ((a :: r).length - 1) = a := by
      unfold nxt
      rw [show (a :: r).length - 1 + 1 = (a :: r).length by omega, Nat.mod_self]; rfl
    have ha := hch ((a :: r).length - 1) (by omega)
    rw [hlast, hn] at ha
    have hm : lastD (a :: r) ∈ a :: r := by
      obtain ⟨p, hp⟩ := lastD_cons a r
      have : lastD (a :: r) ∈ p ++ [lastD (a :: r)] := by simp
      rw [← hp] at this
      exact this
    have hlt : a < lastD (a :: r) := by
      rcases List.mem_cons.mp hm with q | q
      · exact absurd q (g.ne ha)
      · exact k.row.up _ q
    have hin : (a, lastD (a :: r)) ∈ o := by
      rcases full _ _ ha with q | q
      · have := up _ _ q
        omega
      · exact q
    refine ⟨c, ?_⟩
    rw [k.e]
    unfold ringRounds
    rw [show (a :: r).length = ((a :: r).length - 1) + 1 by omega]
    show (match rrF o (a :: r) ((a :: r).length - 1) with | none => none | some r' => _) = _
    rw [ec]
    show (if _ then _ else _) = _
    rw [hlast, hn, if_pos hin]
  unfold orderSize
  rw [e]
  simp
theorem best_some (g : Good n al B) (hs : Sound B n rings) : ∀ (f : Nat) (o : Ord), OrdOk B o → opens B n o ≤ f → (∀ i j, (i, j) ∈ o → i < j) → (bestF B al rings n f o).1 ≠ none
  | f, o, ok, hf, up => by
    cases e : openPair B n o with
    | none =>
      rw [bestF_leaf f e]
      exact leaf_some g hs ok (openPair_none g e) up
    | some p =>
      have hp := opens_pos e
      obtain ⟨f, rfl⟩ : ∃ f', f = f' + 1 := ⟨f - 1, by omega⟩
      obtain ⟨k1, k2⟩ := ok.both g e
      have o1 := opens_add e (.inl rfl)
      rw [bestF_node f e]
      refine better_some (best_some g hs f _ k1 (by omega) fun i j h => ?_)
      rcases List.mem_append.mp h with q | q
      · exact up i j q
      · have e2 := List.mem_singleton.mp q
        have := (openPair_some e).1
        rw [← e2] at this
        exact this
/-! the paper -/
theorem paperF_ring (f : Nat) {x : List Nat × Int} (h : rings.find? (fires o size) = some x) : paperF B rings n size f o = some (.ring x.1) := by
  unfold paperF
  rw [h]
theorem paperF_node (f : Nat) {p : Nat × Nat} (h : rings.find? (fires o size) = none) (hp : openPair B n o = some p) : paperF B rings n size (f + 1) o = (match paperF B rings n size f (o ++ [p]), paperF B rings n size f (o ++ [(p.2, p.1)]) with
        | some one, some other => some (.case p.1 p.2 one other)
        | _, _ => none) := by
  conv => lhs; unfold paperF
  rw [h, hp]
  all_goals rfl
theorem paper_is (g : Good n al B) (hs : Sound B n rings) {s : Int} (hm : maxL al < s) : ∀ (f : Nat) (o : Ord) (d : Nat), OrdOk B o → opens B n o ≤ f → d + f ≤ 10 → AtLeast (bestF B al rings n f o).1 s →
    ∃ p, paperF B rings n (s - 1) f o = some p ∧ bearsP B al (s - 1) p o = true ∧ wf n p d
  | f, o, d, ok, hf, hd, hb => by
    cases e1 : rings.find? (fires o (s - 1)) with
    | some x =>
      refine ⟨_, paperF_ring f e1, ?_, ?_⟩
      · have h1 := List.find?_some e1
        obtain ⟨a, r, k⟩ := hs x (List.mem_of_find?_eq_some e1)
        show ringBears B (s - 1) x.1 o = true
        unfold ringBears
        unfold fires at h1
        rw [Bool.and_eq_true]
        refine ⟨decide_eq_true (by rw [k.e]; have := k.two; omega), ?_⟩
        rw [k.t] at h1
        exact h1
      · obtain ⟨a, r, k⟩ := hs x (List.mem_of_find?_eq_some e1)
        rw [k.e]
        exact ⟨k.row.lt, k.row.nd, by omega⟩
    | none =>
      have hno := List.find?_eq_none.mp e1
      cases e : openPair B n o with
      | none =>
        exfalso
        rw [bestF_leaf f e] at hb
        have full := openPair_none g e
        obtain ⟨v, ev, hv⟩ := osF_le (o := o) (l := rings) (s0 := maxL al) (s := s - 1) (by omega) fun x hx => by
          obtain ⟨a, r, k⟩ := hs x hx
          obtain ⟨c, ec, _⟩ := ring_full (size := 0) ok full k.ch
          rw [← k.e] at ec
          refine ⟨c, ec, k.pos g, ?_⟩
          have q := hno x hx
          unfold fires at q
          rw [ec] at q
          have q2 : ¬ (decide (x.2 > (s - 1) * (c : Int)) = true) := q
          rw [decide_eq_true_eq] at q2
          omega
        have := hb v ev
        omega
      | some p =>
        have hp := opens_pos e
        obtain ⟨f, rfl⟩ : ∃ f', f = f' + 1 := ⟨f - 1, by omega⟩
        obtain ⟨k1, k2⟩ := ok.both g e
        have o1 := opens_add e (.inl rfl)
        have o2 := opens_add e (.inr rfl)
        rw [bestF_node f e] at hb
        obtain ⟨b1, b2⟩ := better_least hb
        obtain ⟨p1, e3, w1, x1⟩ := paper_is g hs hm f _ (d + 1) k1 (by omega) (by omega) b1
        obtain ⟨p2, e4, w2, x2⟩ := paper_is g hs hm f _ (d + 1) k2 (by omega) (by omega) b2
        obtain ⟨i1, i2, i3, i4, i5⟩ := openPair_some e
        refine ⟨.case p.1 p.2 p1 p2, ?_, ?_, ?_⟩
        · rw [paperF_node f e1 e, e3, e4]
        · show (((bh B p.1 p.2).isSome && (!o.contains p && !o.contains (p.2, p.1))) && (bearsP B al (s - 1) p1 (o ++ [p]) && bearsP B al (s - 1) p2 (o ++ [(p.2, p.1)]))) = true
          rw [w1, w2]
          have : isOpen B o p = true := isOpen_iff.mpr ⟨i3, i4, i5⟩
          unfold isOpen at this
          rw [this]; rfl
        · exact ⟨by omega, i2, by omega, x1, x2⟩
/-! maxL -/
theorem maxL_le : ∀ (l : List Int) (x : Int), x ∈ l → x ≤ maxL l
  | [], _, h => by cases h
  | [y], x, h => by
    rw [List.mem_singleton.mp h]
    exact Int.le_refl _
  | y :: z :: r, x, h => by
    show x ≤ max y (maxL (z :: r))
    rcases List.mem_cons.mp h with e | e
    · rw [e]; exact Int.le_max_left _ _
    · exact Int.le_trans (maxL_le (z :: r) x e) (Int.le_max_right _ _)
theorem maxL_mem : ∀ (l : List Int), l ≠ [] → maxL l ∈ l
  | [], h => absurd rfl h
  | [y], _ => by simp [maxL]
  | y :: z :: r, _ => by
    have ih := maxL_mem (z :: r) (by simp)
    show max y (maxL (z :: r)) ∈ y :: z :: r
    by_cases h : y ≤ maxL (z :: r)
    · rw [Int.max_eq_right h]; simp only [List.mem_cons] at ih ⊢; exact .inr ih
    · rw [Int.max_eq_left (by omega)]; simp
theorem maxL_is {l : List Int} {m : Int} (h : m ∈ l) (hm : ∀ y ∈ l, y ≤ m) : m = maxL l := by
  have h1 := maxL_le l m h
  have h2 := hm _ (maxL_mem l (fun e => by rw [e] at h; cases h))
  omega
/-! all of it -/
structure Told (n : Nat) (al : List Int) (B : Tab) (s : Int) (o : Ord) : Prop where
  one : 1 ≤ s
  max : maxL al ≤ s
  ok : OrdOk B o
  full : Full B o
  do_ : ∀ i j, adj B i j → bi B i j ≤ ((settledB B s o n).getD j 0 - (settledB B s o n).getD i 0).fmod s
  range : ∀ b ∈ settledB B s o n, 0 ≤ b ∧ b < s
  len : (settledB B s o n).length = n
theorem told (g : Good n al B) {m : Nat} (he : IsEnd B n m) :
    ∃ s, (bestF B al (rg B n m) n 6 (firstN B n)).1 = some s ∧ Told n al B s (bestF B al (rg B n m) n 6 (firstN B n)).2 ∧
      (maxL al < s → ∃ p, paperF B (rg B n m) n (s - 1) 6 (firstN B n) = some p ∧ bearsP B al (s - 1) p (firstN B n) = true ∧ wf n p 0) := by
  have hs : Sound B n (rg B n m) := rg_ok m he.more
  have ok0 := first_ok g
  have h6 := opens_first g
  have hn := best_some g hs 6 _ ok0 h6 (first_up g)
  obtain ⟨s, es⟩ := Option.ne_none_iff_exists'.mp hn
  obtain ⟨k1, k2, k3⟩ := best_is (rings := rg B n m) g 6 _ ok0 h6
  rw [es] at k3
  obtain ⟨j1, j2⟩ := osF_some (rings := rg B n m) k3.symm
  have hne : al ≠ [] := fun e => by
    have := g.alen
    have := g.n1
    rw [e] at *
    simp at *
    omega
  have h1 : 1 ≤ s := by
    have := g.apos _ (maxL_mem al hne)
    omega
  have np := no_pos (size := s) g k1 k2 he fun x hx c hc => (j2 x hx c hc).2
  refine ⟨s, es, ⟨h1, j1, k1, k2, fun i j ha => settled_do g k1 k2 np (by omega) ha, settled_range (by omega), settled_len g k1 k2⟩, fun hm => ?_⟩
  exact paper_is g hs hm 6 _ 0 ok0 h6 (by omega) fun v hv => by
    rw [es] at hv
    cases hv
    exact Int.le_refl _
end
end Lw


set_option Elab.async false
set_option linter.all false
set_option maxRecDepth 100000
set_option maxHeartbeats 4000000
namespace Lw
open PySem PySem.Spec PyProof.Rows L2
/-- what the walks lean on -/
structure TX (K : PySem.W.Frag) (mg : Str → Option Value) : Prop where
  c : He.SaysD fa fn K
  e : exB K = true
  g : ∃ h : Heap, K.In h ∧ h.Ns mainGlobals mg
section
variable {K : PySem.W.Frag} {mg : Str → Option Value}
theorem TX.glo (T : TX K mg) {x : Str} (i : Nat) (h : fa[i]? = some (.glo x)) : mg x = some (.ref (He.ga K x)) := by
  obtain ⟨hp, X, G⟩ := T.g
  exact He.glo_ok X G (T.c.fact i h)
theorem TX.free (T : TX K mg) {x : Str} (i : Nat) (h : fa[i]? = some (.free x)) : mg x = none := by
  obtain ⟨hp, X, G⟩ := T.g
  exact He.free_ok X G (T.c.fact i h)
theorem TX.str (T : TX K mg) {x z : Str} (i : Nat) (h : fa[i]? = some (.str x z)) : ∃ t, mg x = some (.str z t) := by
  obtain ⟨hp, X, G⟩ := T.g
  exact He.str_ok X G (T.c.fact i h)
theorem TX.int (T : TX K mg) {x : Str} {z : Int} (i : Nat) (h : fa[i]? = some (.int x z)) : ∃ t, mg x = some (.int z t) := by
  obtain ⟨hp, X, G⟩ := T.g
  exact He.int_ok X G (T.c.fact i h)
theorem TX.g_bow (T : TX K mg) : mg "bow" = some (.ref (He.ga K "bow")) := T.glo 0 rfl
theorem TX.g_ways_meet (T : TX K mg) : mg "ways_meet" = some (.ref (He.ga K "ways_meet")) := T.glo 1 rfl
theorem TX.g_meet (T : TX K mg) : mg "meet" = some (.ref (He.ga K "meet")) := T.glo 2 rfl
theorem TX.g_gap (T : TX K mg) : mg "gap" = some (.ref (He.ga K "gap")) := T.glo 3 rfl
theorem TX.g_first_order (T : TX K mg) : mg "first_order" = some (.ref (He.ga K "first_order")) := T.glo 4 rfl
theorem TX.g_ordered (T : TX K mg) : mg "ordered" = some (.ref (He.ga K "ordered")) := T.glo 5 rfl
theorem TX.g_is_ordered (T : TX K mg) : mg "is_ordered" = some (.ref (He.ga K "is_ordered")) := T.glo 6 rfl
theorem TX.g_ring_turns (T : TX K mg) : mg "ring_turns" = some (.ref (He.ga K "ring_turns")) := T.glo 7 rfl
theorem TX.g_ring_rounds (T : TX K mg) : mg "ring_rounds" = some (.ref (He.ga K "ring_rounds")) := T.glo 8 rfl
theorem TX.g_rings_of (T : TX K mg) : mg "rings_of" = some (.ref (He.ga K "rings_of")) := T.glo 9 rfl
theorem TX.g_open_pair (T : TX K mg) : mg "open_pair" = some (.ref (He.ga K "open_pair")) := T.glo 10 rfl
theorem TX.g_order_size (T : TX K mg) : mg "order_size" = some (.ref (He.ga K "order_size")) := T.glo 11 rfl
theorem TX.g_best_order (T : TX K mg) : mg "best_order" = some (.ref (He.ga K "best_order")) := T.glo 12 rfl
theorem TX.g_settled (T : TX K mg) : mg "settled" = some (.ref (He.ga K "settled")) := T.glo 13 rfl
theorem TX.g_paper_of (T : TX K mg) : mg "paper_of" = some (.ref (He.ga K "paper_of")) := T.glo 14 rfl
theorem TX.g_shortest (T : TX K mg) : mg "shortest" = some (.ref (He.ga K "shortest")) := T.glo 15 rfl
theorem TX.g_words (T : TX K mg) : mg "words" = some (.ref (He.ga K "words")) := T.glo 16 rfl
theorem TX.g_figured (T : TX K mg) : mg "figured" = some (.ref (He.ga K "figured")) := T.glo 17 rfl
theorem TX.g_is_name (T : TX K mg) : mg "is_name" = some (.ref (He.ga K "is_name")) := T.glo 18 rfl
theorem TX.g_made_way (T : TX K mg) : mg "made_way" = some (.ref (He.ga K "made_way")) := T.glo 19 rfl
theorem TX.g_read_head (T : TX K mg) : mg "read_head" = some (.ref (He.ga K "read_head")) := T.glo 20 rfl
theorem TX.g_read_numbers (T : TX K mg) : mg "read_numbers" = some (.ref (He.ga K "read_numbers")) := T.glo 21 rfl
theorem TX.g_read_way (T : TX K mg) : mg "read_way" = some (.ref (He.ga K "read_way")) := T.glo 22 rfl
theorem TX.g_read_crossing (T : TX K mg) : mg "read_crossing" = some (.ref (He.ga K "read_crossing")) := T.glo 23 rfl
theorem TX.g_law_draw (T : TX K mg) : mg "_law_draw" = some (.ref (He.ga K "_law_draw")) := T.glo 24 rfl
theorem TX.g_law_places (T : TX K mg) : mg "_law_places" = some (.ref (He.ga K "_law_places")) := T.glo 25 rfl
theorem TX.g_law_names (T : TX K mg) : mg "_law_names" = some (.ref (He.ga K "_law_names")) := T.glo 26 rfl
theorem TX.g_law_ways (T : TX K mg) : mg "_law_ways" = some (.ref (He.ga K "_law_ways")) := T.glo 27 rfl
theorem TX.g_law_text (T : TX K mg) : mg "_law_text" = some (.ref (He.ga K "_law_text")) := T.glo 28 rfl
theorem TX.g_law_is_met (T : TX K mg) : mg "_law_is_met" = some (.ref (He.ga K "_law_is_met")) := T.glo 29 rfl
theorem TX.g_law_wanted (T : TX K mg) : mg "_law_wanted" = some (.ref (He.ga K "_law_wanted")) := T.glo 30 rfl
theorem TX.g_law_alone (T : TX K mg) : mg "_law_alone" = some (.ref (He.ga K "_law_alone")) := T.glo 31 rfl
theorem TX.g_law_behind (T : TX K mg) : mg "_law_behind" = some (.ref (He.ga K "_law_behind")) := T.glo 32 rfl
theorem TX.g_law_ahead (T : TX K mg) : mg "_law_ahead" = some (.ref (He.ga K "_law_ahead")) := T.glo 33 rfl
theorem TX.g_law_ring_bears (T : TX K mg) : mg "_law_ring_bears" = some (.ref (He.ga K "_law_ring_bears")) := T.glo 34 rfl
theorem TX.g_law_bears (T : TX K mg) : mg "_law_bears" = some (.ref (He.ga K "_law_bears")) := T.glo 35 rfl
theorem TX.g_law_is_want (T : TX K mg) : mg "_law_is_want" = some (.ref (He.ga K "_law_is_want")) := T.glo 36 rfl
theorem TX.g_law_is_formed (T : TX K mg) : mg "_law_is_formed" = some (.ref (He.ga K "_law_is_formed")) := T.glo 37 rfl
theorem TX.g_law_do (T : TX K mg) : mg "_law_do" = some (.ref (He.ga K "_law_do")) := T.glo 38 rfl
theorem TX.g_law_are_begins (T : TX K mg) : mg "_law_are_begins" = some (.ref (He.ga K "_law_are_begins")) := T.glo 39 rfl
theorem TX.g_law (T : TX K mg) : mg "law" = some (.ref (He.ga K "law")) := T.glo 40 rfl
theorem TX.g_Needs (T : TX K mg) : mg "Needs" = some (.ref (He.ga K "Needs")) := T.glo 41 rfl
theorem TX.g_CarWay (T : TX K mg) : mg "CarWay" = some (.ref (He.ga K "CarWay")) := T.glo 46 rfl
theorem TX.g_FootWay (T : TX K mg) : mg "FootWay" = some (.ref (He.ga K "FootWay")) := T.glo 58 rfl
theorem TX.g_TramWay (T : TX K mg) : mg "TramWay" = some (.ref (He.ga K "TramWay")) := T.glo 70 rfl
theorem TX.g_Crossing (T : TX K mg) : mg "Crossing" = some (.ref (He.ga K "Crossing")) := T.glo 82 rfl
theorem TX.g_Way (T : TX K mg) : mg "Way" = some (.ref (He.ga K "Way")) := T.glo 89 rfl
theorem TX.g_SORTS (T : TX K mg) : mg "SORTS" = some (.ref (He.ga K "SORTS")) := T.glo 105 rfl
theorem TX.cl_Needs (T : TX K mg) : Cls K (He.ga K "Needs") := He.cls_ok (T.c.fact 42 rfl)
theorem TX.m_Needs (T : TX K mg) : Mk K (He.ga K "Needs") (He.ma K (He.ga K "Needs") "__init__") := He.mkr_ok (T.c.fact 43 rfl)
theorem TX.no_Needs_alone (T : TX K mg) : NoAttr K (He.ga K "Needs") "alone" := He.noat_ok (T.c.fact 44 rfl)
theorem TX.no_Needs_behind (T : TX K mg) : NoAttr K (He.ga K "Needs") "behind" := He.noat_ok (T.c.fact 45 rfl)
theorem TX.cl_CarWay (T : TX K mg) : Cls K (He.ga K "CarWay") := He.cls_ok (T.c.fact 47 rfl)
theorem TX.m_CarWay (T : TX K mg) : Mk K (He.ga K "CarWay") (He.ma K (He.ga K "CarWay") "__init__") := He.mkr_ok (T.c.fact 48 rfl)
theorem TX.no_CarWay_name (T : TX K mg) : NoAttr K (He.ga K "CarWay") "name" := He.noat_ok (T.c.fact 49 rfl)
theorem TX.no_CarWay_start (T : TX K mg) : NoAttr K (He.ga K "CarWay") "start" := He.noat_ok (T.c.fact 50 rfl)
theorem TX.no_CarWay_end (T : TX K mg) : NoAttr K (He.ga K "CarWay") "end" := He.noat_ok (T.c.fact 51 rfl)
theorem TX.no_CarWay_off (T : TX K mg) : NoAttr K (He.ga K "CarWay") "off" := He.noat_ok (T.c.fact 52 rfl)
theorem TX.no_CarWay_near (T : TX K mg) : NoAttr K (He.ga K "CarWay") "near" := He.noat_ok (T.c.fact 53 rfl)
theorem TX.no_CarWay_least (T : TX K mg) : NoAttr K (He.ga K "CarWay") "least" := He.noat_ok (T.c.fact 54 rfl)
theorem TX.no_CarWay_kind (T : TX K mg) : NoAttr K (He.ga K "CarWay") "kind" := He.noat_ok (T.c.fact 55 rfl)
theorem TX.me_CarWay_ready (T : TX K mg) : Meth K (He.ga K "CarWay") "ready" (He.ma K (He.ga K "CarWay") "ready") := He.meth_ok (T.c.fact 56 rfl)
theorem TX.me_CarWay_fade (T : TX K mg) : Meth K (He.ga K "CarWay") "fade" (He.ma K (He.ga K "CarWay") "fade") := He.meth_ok (T.c.fact 57 rfl)
theorem TX.cl_FootWay (T : TX K mg) : Cls K (He.ga K "FootWay") := He.cls_ok (T.c.fact 59 rfl)
theorem TX.m_FootWay (T : TX K mg) : Mk K (He.ga K "FootWay") (He.ma K (He.ga K "FootWay") "__init__") := He.mkr_ok (T.c.fact 60 rfl)
theorem TX.no_FootWay_name (T : TX K mg) : NoAttr K (He.ga K "FootWay") "name" := He.noat_ok (T.c.fact 61 rfl)
theorem TX.no_FootWay_start (T : TX K mg) : NoAttr K (He.ga K "FootWay") "start" := He.noat_ok (T.c.fact 62 rfl)
theorem TX.no_FootWay_end (T : TX K mg) : NoAttr K (He.ga K "FootWay") "end" := He.noat_ok (T.c.fact 63 rfl)
theorem TX.no_FootWay_off (T : TX K mg) : NoAttr K (He.ga K "FootWay") "off" := He.noat_ok (T.c.fact 64 rfl)
theorem TX.no_FootWay_near (T : TX K mg) : NoAttr K (He.ga K "FootWay") "near" := He.noat_ok (T.c.fact 65 rfl)
theorem TX.no_FootWay_least (T : TX K mg) : NoAttr K (He.ga K "FootWay") "least" := He.noat_ok (T.c.fact 66 rfl)
theorem TX.no_FootWay_kind (T : TX K mg) : NoAttr K (He.ga K "FootWay") "kind" := He.noat_ok (T.c.fact 67 rfl)
theorem TX.me_FootWay_ready (T : TX K mg) : Meth K (He.ga K "FootWay") "ready" (He.ma K (He.ga K "FootWay") "ready") := He.meth_ok (T.c.fact 68 rfl)
theorem TX.me_FootWay_fade (T : TX K mg) : Meth K (He.ga K "FootWay") "fade" (He.ma K (He.ga K "FootWay") "fade") := He.meth_ok (T.c.fact 69 rfl)
theorem TX.cl_TramWay (T : TX K mg) : Cls K (He.ga K "TramWay") := He.cls_ok (T.c.fact 71 rfl)
theorem TX.m_TramWay (T : TX K mg) : Mk K (He.ga K "TramWay") (He.ma K (He.ga K "TramWay") "__init__") := He.mkr_ok (T.c.fact 72 rfl)
theorem TX.no_TramWay_name (T : TX K mg) : NoAttr K (He.ga K "TramWay") "name" := He.noat_ok (T.c.fact 73 rfl)
theorem TX.no_TramWay_start (T : TX K mg) : NoAttr K (He.ga K "TramWay") "start" := He.noat_ok (T.c.fact 74 rfl)
theorem TX.no_TramWay_end (T : TX K mg) : NoAttr K (He.ga K "TramWay") "end" := He.noat_ok (T.c.fact 75 rfl)
theorem TX.no_TramWay_off (T : TX K mg) : NoAttr K (He.ga K "TramWay") "off" := He.noat_ok (T.c.fact 76 rfl)
theorem TX.no_TramWay_near (T : TX K mg) : NoAttr K (He.ga K "TramWay") "near" := He.noat_ok (T.c.fact 77 rfl)
theorem TX.no_TramWay_least (T : TX K mg) : NoAttr K (He.ga K "TramWay") "least" := He.noat_ok (T.c.fact 78 rfl)
theorem TX.no_TramWay_kind (T : TX K mg) : NoAttr K (He.ga K "TramWay") "kind" := He.noat_ok (T.c.fact 79 rfl)
theorem TX.me_TramWay_ready (T : TX K mg) : Meth K (He.ga K "TramWay") "ready" (He.ma K (He.ga K "TramWay") "ready") := He.meth_ok (T.c.fact 80 rfl)
theorem TX.me_TramWay_fade (T : TX K mg) : Meth K (He.ga K "TramWay") "fade" (He.ma K (He.ga K "TramWay") "fade") := He.meth_ok (T.c.fact 81 rfl)
theorem TX.cl_Crossing (T : TX K mg) : Cls K (He.ga K "Crossing") := He.cls_ok (T.c.fact 83 rfl)
theorem TX.m_Crossing (T : TX K mg) : Mk K (He.ga K "Crossing") (He.ma K (He.ga K "Crossing") "__init__") := He.mkr_ok (T.c.fact 84 rfl)
theorem TX.no_Crossing_places (T : TX K mg) : NoAttr K (He.ga K "Crossing") "places" := He.noat_ok (T.c.fact 85 rfl)
theorem TX.no_Crossing_own_ways (T : TX K mg) : NoAttr K (He.ga K "Crossing") "own_ways" := He.noat_ok (T.c.fact 86 rfl)
theorem TX.me_Crossing_number (T : TX K mg) : Meth K (He.ga K "Crossing") "number" (He.ma K (He.ga K "Crossing") "number") := He.meth_ok (T.c.fact 87 rfl)
theorem TX.me_Crossing_called (T : TX K mg) : Meth K (He.ga K "Crossing") "called" (He.ma K (He.ga K "Crossing") "called") := He.meth_ok (T.c.fact 88 rfl)
theorem TX.free_len (T : TX K mg) : mg "len" = none := T.free 90 rfl
theorem TX.free_range (T : TX K mg) : mg "range" = none := T.free 91 rfl
theorem TX.free_enumerate (T : TX K mg) : mg "enumerate" = none := T.free 92 rfl
theorem TX.free_max (T : TX K mg) : mg "max" = none := T.free 93 rfl
theorem TX.free_min (T : TX K mg) : mg "min" = none := T.free 94 rfl
theorem TX.free_dict (T : TX K mg) : mg "dict" = none := T.free 95 rfl
theorem TX.free_list (T : TX K mg) : mg "list" = none := T.free 96 rfl
theorem TX.free_str (T : TX K mg) : mg "str" = none := T.free 97 rfl
theorem TX.free_isinstance (T : TX K mg) : mg "isinstance" = none := T.free 98 rfl
theorem TX.free_tuple (T : TX K mg) : mg "tuple" = none := T.free 99 rfl
theorem TX.free_int (T : TX K mg) : mg "int" = none := T.free 100 rfl
theorem TX.free_bool (T : TX K mg) : mg "bool" = none := T.free 101 rfl
theorem TX.s_FIGURES (T : TX K mg) : ∃ t, mg "FIGURES" = some (.str "0123456789" t) := T.str 102 rfl
theorem TX.s_LETTERS (T : TX K mg) : ∃ t, mg "LETTERS" = some (.str "abcdefghijklmnopqrstuvwxyz" t) := T.str 103 rfl
theorem TX.i_MOST_WAYS (T : TX K mg) : ∃ t, mg "MOST_WAYS" = some (.int 12 t) := T.int 104 rfl
theorem TX.f_bow (T : TX K mg) : ∃ fd, FunD K "bow" "bow" (defArgs s_bow) (defBody s_bow) (defScope s_bow) [] [] (He.fAd K ("bow", none)) fd := T.c.def_ 0 (d := d_bow) rfl
theorem TX.f_ways_meet (T : TX K mg) : ∃ fd, FunD K "ways_meet" "ways_meet" (defArgs s_ways_meet) (defBody s_ways_meet) (defScope s_ways_meet) [] [] (He.fAd K ("ways_meet", none)) fd := T.c.def_ 1 (d := d_ways_meet) rfl
theorem TX.f_meet (T : TX K mg) : ∃ fd, FunD K "meet" "meet" (defArgs s_meet) (defBody s_meet) (defScope s_meet) [] [] (He.fAd K ("meet", none)) fd := T.c.def_ 2 (d := d_meet) rfl
theorem TX.f_gap (T : TX K mg) : ∃ fd, FunD K "gap" "gap" (defArgs s_gap) (defBody s_gap) (defScope s_gap) [] [] (He.fAd K ("gap", none)) fd := T.c.def_ 3 (d := d_gap) rfl
theorem TX.f_Needs_init (T : TX K mg) : ∃ fd, FunD K "__init__" "Needs.__init__" (defArgs s_Needs_init) (defBody s_Needs_init) (defScope s_Needs_init) [] [] (He.fAd K ("Needs", some "__init__")) fd := T.c.def_ 4 (d := d_Needs_init) rfl
theorem TX.f_first_order (T : TX K mg) : ∃ fd, FunD K "first_order" "first_order" (defArgs s_first_order) (defBody s_first_order) (defScope s_first_order) [] [] (He.fAd K ("first_order", none)) fd := T.c.def_ 5 (d := d_first_order) rfl
theorem TX.f_ordered (T : TX K mg) : ∃ fd, FunD K "ordered" "ordered" (defArgs s_ordered) (defBody s_ordered) (defScope s_ordered) [] [] (He.fAd K ("ordered", none)) fd := T.c.def_ 6 (d := d_ordered) rfl
theorem TX.f_is_ordered (T : TX K mg) : ∃ fd, FunD K "is_ordered" "is_ordered" (defArgs s_is_ordered) (defBody s_is_ordered) (defScope s_is_ordered) [] [] (He.fAd K ("is_ordered", none)) fd := T.c.def_ 7 (d := d_is_ordered) rfl
theorem TX.f_ring_turns (T : TX K mg) : ∃ fd, FunD K "ring_turns" "ring_turns" (defArgs s_ring_turns) (defBody s_ring_turns) (defScope s_ring_turns) [] [] (He.fAd K ("ring_turns", none)) fd := T.c.def_ 8 (d := d_ring_turns) rfl
theorem TX.f_ring_rounds (T : TX K mg) : ∃ fd, FunD K "ring_rounds" "ring_rounds" (defArgs s_ring_rounds) (defBody s_ring_rounds) (defScope s_ring_rounds) [] [] (He.fAd K ("ring_rounds", none)) fd := T.c.def_ 9 (d := d_ring_rounds) rfl
theorem TX.f_rings_of (T : TX K mg) : ∃ fd, FunD K "rings_of" "rings_of" (defArgs s_rings_of) (defBody s_rings_of) (defScope s_rings_of) [] [] (He.fAd K ("rings_of", none)) fd := T.c.def_ 10 (d := d_rings_of) rfl
theorem TX.f_open_pair (T : TX K mg) : ∃ fd, FunD K "open_pair" "open_pair" (defArgs s_open_pair) (defBody s_open_pair) (defScope s_open_pair) [] [] (He.fAd K ("open_pair", none)) fd := T.c.def_ 11 (d := d_open_pair) rfl
theorem TX.f_order_size (T : TX K mg) : ∃ fd, FunD K "order_size" "order_size" (defArgs s_order_size) (defBody s_order_size) (defScope s_order_size) [] [] (He.fAd K ("order_size", none)) fd := T.c.def_ 12 (d := d_order_size) rfl
theorem TX.f_best_order (T : TX K mg) : ∃ fd, FunD K "best_order" "best_order" (defArgs s_best_order) (defBody s_best_order) (defScope s_best_order) [] [] (He.fAd K ("best_order", none)) fd := T.c.def_ 13 (d := d_best_order) rfl
theorem TX.f_settled (T : TX K mg) : ∃ fd, FunD K "settled" "settled" (defArgs s_settled) (defBody s_settled) (defScope s_settled) [] [] (He.fAd K ("settled", none)) fd := T.c.def_ 14 (d := d_settled) rfl
theorem TX.f_paper_of (T : TX K mg) : ∃ fd, FunD K "paper_of" "paper_of" (defArgs s_paper_of) (defBody s_paper_of) (defScope s_paper_of) [] [] (He.fAd K ("paper_of", none)) fd := T.c.def_ 15 (d := d_paper_of) rfl
theorem TX.f_shortest (T : TX K mg) : ∃ fd, FunD K "shortest" "shortest" (defArgs s_shortest) (defBody s_shortest) (defScope s_shortest) [] [] (He.fAd K ("shortest", none)) fd := T.c.def_ 16 (d := d_shortest) rfl
theorem TX.f_Way_init (T : TX K mg) : ∃ fd, FunD K "__init__" "Way.__init__" (defArgs s_Way_init) (defBody s_Way_init) (defScope s_Way_init) [] [] (He.fAd K ("Way", some "__init__")) fd := T.c.def_ 17 (d := d_Way_init) rfl
theorem TX.f_Way_ready (T : TX K mg) : ∃ fd, FunD K "ready" "Way.ready" (defArgs s_Way_ready) (defBody s_Way_ready) (defScope s_Way_ready) [] [] (He.fAd K ("CarWay", some "ready")) fd := T.c.def_ 18 (d := d_Way_ready) rfl
theorem TX.f_Way_fade (T : TX K mg) : ∃ fd, FunD K "fade" "Way.fade" (defArgs s_Way_fade) (defBody s_Way_fade) (defScope s_Way_fade) [] [] (He.fAd K ("TramWay", some "fade")) fd := T.c.def_ 19 (d := d_Way_fade) rfl
theorem TX.f_CarWay_init (T : TX K mg) : ∃ fd, FunD K "__init__" "CarWay.__init__" (defArgs s_CarWay_init) (defBody s_CarWay_init) (defScope s_CarWay_init) [] [] (He.fAd K ("CarWay", some "__init__")) fd := T.c.def_ 20 (d := d_CarWay_init) rfl
theorem TX.f_CarWay_fade (T : TX K mg) : ∃ fd, FunD K "fade" "CarWay.fade" (defArgs s_CarWay_fade) (defBody s_CarWay_fade) (defScope s_CarWay_fade) [] [] (He.fAd K ("CarWay", some "fade")) fd := T.c.def_ 21 (d := d_CarWay_fade) rfl
theorem TX.f_FootWay_init (T : TX K mg) : ∃ fd, FunD K "__init__" "FootWay.__init__" (defArgs s_FootWay_init) (defBody s_FootWay_init) (defScope s_FootWay_init) [] [] (He.fAd K ("FootWay", some "__init__")) fd := T.c.def_ 22 (d := d_FootWay_init) rfl
theorem TX.f_FootWay_ready (T : TX K mg) : ∃ fd, FunD K "ready" "FootWay.ready" (defArgs s_FootWay_ready) (defBody s_FootWay_ready) (defScope s_FootWay_ready) [] [] (He.fAd K ("FootWay", some "ready")) fd := T.c.def_ 23 (d := d_FootWay_ready) rfl
theorem TX.f_FootWay_fade (T : TX K mg) : ∃ fd, FunD K "fade" "FootWay.fade" (defArgs s_FootWay_fade) (defBody s_FootWay_fade) (defScope s_FootWay_fade) [] [] (He.fAd K ("FootWay", some "fade")) fd := T.c.def_ 24 (d := d_FootWay_fade) rfl
theorem TX.f_TramWay_init (T : TX K mg) : ∃ fd, FunD K "__init__" "TramWay.__init__" (defArgs s_TramWay_init) (defBody s_TramWay_init) (defScope s_TramWay_init) [] [] (He.fAd K ("TramWay", some "__init__")) fd := T.c.def_ 25 (d := d_TramWay_init) rfl
theorem TX.f_TramWay_ready (T : TX K mg) : ∃ fd, FunD K "ready" "TramWay.ready" (defArgs s_TramWay_ready) (defBody s_TramWay_ready) (defScope s_TramWay_ready) [] [] (He.fAd K ("TramWay", some "ready")) fd := T.c.def_ 26 (d := d_TramWay_ready) rfl
theorem TX.f_words (T : TX K mg) : ∃ fd, FunD K "words" "words" (defArgs s_words) (defBody s_words) (defScope s_words) [] [] (He.fAd K ("words", none)) fd := T.c.def_ 27 (d := d_words) rfl
theorem TX.f_figured (T : TX K mg) : ∃ fd, FunD K "figured" "figured" (defArgs s_figured) (defBody s_figured) (defScope s_figured) [] [] (He.fAd K ("figured", none)) fd := T.c.def_ 28 (d := d_figured) rfl
theorem TX.f_is_name (T : TX K mg) : ∃ fd, FunD K "is_name" "is_name" (defArgs s_is_name) (defBody s_is_name) (defScope s_is_name) [] [] (He.fAd K ("is_name", none)) fd := T.c.def_ 29 (d := d_is_name) rfl
theorem TX.f_Crossing_init (T : TX K mg) : ∃ fd, FunD K "__init__" "Crossing.__init__" (defArgs s_Crossing_init) (defBody s_Crossing_init) (defScope s_Crossing_init) [] [] (He.fAd K ("Crossing", some "__init__")) fd := T.c.def_ 30 (d := d_Crossing_init) rfl
theorem TX.f_Crossing_number (T : TX K mg) : ∃ fd, FunD K "number" "Crossing.number" (defArgs s_Crossing_number) (defBody s_Crossing_number) (defScope s_Crossing_number) [] [] (He.fAd K ("Crossing", some "number")) fd := T.c.def_ 31 (d := d_Crossing_number) rfl
theorem TX.f_Crossing_called (T : TX K mg) : ∃ fd, FunD K "called" "Crossing.called" (defArgs s_Crossing_called) (defBody s_Crossing_called) (defScope s_Crossing_called) [] [] (He.fAd K ("Crossing", some "called")) fd := T.c.def_ 32 (d := d_Crossing_called) rfl
theorem TX.f_made_way (T : TX K mg) : ∃ fd, FunD K "made_way" "made_way" (defArgs s_made_way) (defBody s_made_way) (defScope s_made_way) [] [] (He.fAd K ("made_way", none)) fd := T.c.def_ 33 (d := d_made_way) rfl
theorem TX.f_read_head (T : TX K mg) : ∃ fd, FunD K "read_head" "read_head" (defArgs s_read_head) (defBody s_read_head) (defScope s_read_head) [] [] (He.fAd K ("read_head", none)) fd := T.c.def_ 34 (d := d_read_head) rfl
theorem TX.f_read_numbers (T : TX K mg) : ∃ fd, FunD K "read_numbers" "read_numbers" (defArgs s_read_numbers) (defBody s_read_numbers) (defScope s_read_numbers) [] [] (He.fAd K ("read_numbers", none)) fd := T.c.def_ 35 (d := d_read_numbers) rfl
theorem TX.f_read_way (T : TX K mg) : ∃ fd, FunD K "read_way" "read_way" (defArgs s_read_way) (defBody s_read_way) (defScope s_read_way) [] [] (He.fAd K ("read_way", none)) fd := T.c.def_ 36 (d := d_read_way) rfl
theorem TX.f_read_crossing (T : TX K mg) : ∃ fd, FunD K "read_crossing" "read_crossing" (defArgs s_read_crossing) (defBody s_read_crossing) (defScope s_read_crossing) [] [] (He.fAd K ("read_crossing", none)) fd := T.c.def_ 37 (d := d_read_crossing) rfl
theorem TX.f_law_draw (T : TX K mg) : ∃ fd, FunD K "_law_draw" "_law_draw" (defArgs s_law_draw) (defBody s_law_draw) (defScope s_law_draw) [] [] (He.fAd K ("_law_draw", none)) fd := T.c.def_ 38 (d := d_law_draw) rfl
theorem TX.f_law_places (T : TX K mg) : ∃ fd, FunD K "_law_places" "_law_places" (defArgs s_law_places) (defBody s_law_places) (defScope s_law_places) [] [] (He.fAd K ("_law_places", none)) fd := T.c.def_ 39 (d := d_law_places) rfl
theorem TX.f_law_names (T : TX K mg) : ∃ fd, FunD K "_law_names" "_law_names" (defArgs s_law_names) (defBody s_law_names) (defScope s_law_names) [] [] (He.fAd K ("_law_names", none)) fd := T.c.def_ 40 (d := d_law_names) rfl
theorem TX.f_law_ways (T : TX K mg) : ∃ fd, FunD K "_law_ways" "_law_ways" (defArgs s_law_ways) (defBody s_law_ways) (defScope s_law_ways) [] [] (He.fAd K ("_law_ways", none)) fd := T.c.def_ 41 (d := d_law_ways) rfl
theorem TX.f_law_text (T : TX K mg) : ∃ fd, FunD K "_law_text" "_law_text" (defArgs s_law_text) (defBody s_law_text) (defScope s_law_text) [] [] (He.fAd K ("_law_text", none)) fd := T.c.def_ 42 (d := d_law_text) rfl
theorem TX.f_law_is_met (T : TX K mg) : ∃ fd, FunD K "_law_is_met" "_law_is_met" (defArgs s_law_is_met) (defBody s_law_is_met) (defScope s_law_is_met) [] [] (He.fAd K ("_law_is_met", none)) fd := T.c.def_ 43 (d := d_law_is_met) rfl
theorem TX.f_law_wanted (T : TX K mg) : ∃ fd, FunD K "_law_wanted" "_law_wanted" (defArgs s_law_wanted) (defBody s_law_wanted) (defScope s_law_wanted) [] [] (He.fAd K ("_law_wanted", none)) fd := T.c.def_ 44 (d := d_law_wanted) rfl
theorem TX.f_law_alone (T : TX K mg) : ∃ fd, FunD K "_law_alone" "_law_alone" (defArgs s_law_alone) (defBody s_law_alone) (defScope s_law_alone) [] [] (He.fAd K ("_law_alone", none)) fd := T.c.def_ 45 (d := d_law_alone) rfl
theorem TX.f_law_behind (T : TX K mg) : ∃ fd, FunD K "_law_behind" "_law_behind" (defArgs s_law_behind) (defBody s_law_behind) (defScope s_law_behind) [] [] (He.fAd K ("_law_behind", none)) fd := T.c.def_ 46 (d := d_law_behind) rfl
theorem TX.f_law_ahead (T : TX K mg) : ∃ fd, FunD K "_law_ahead" "_law_ahead" (defArgs s_law_ahead) (defBody s_law_ahead) (defScope s_law_ahead) [] [] (He.fAd K ("_law_ahead", none)) fd := T.c.def_ 47 (d := d_law_ahead) rfl
theorem TX.f_law_ring_bears (T : TX K mg) : ∃ fd, FunD K "_law_ring_bears" "_law_ring_bears" (defArgs s_law_ring_bears) (defBody s_law_ring_bears) (defScope s_law_ring_bears) [] [] (He.fAd K ("_law_ring_bears", none)) fd := T.c.def_ 48 (d := d_law_ring_bears) rfl
theorem TX.f_law_bears (T : TX K mg) : ∃ fd, FunD K "_law_bears" "_law_bears" (defArgs s_law_bears) (defBody s_law_bears) (defScope s_law_bears) [] [] (He.fAd K ("_law_bears", none)) fd := T.c.def_ 49 (d := d_law_bears) rfl
theorem TX.f_law_is_want (T : TX K mg) : ∃ fd, FunD K "_law_is_want" "_law_is_want" (defArgs s_law_is_want) (defBody s_law_is_want) (defScope s_law_is_want) [] [] (He.fAd K ("_law_is_want", none)) fd := T.c.def_ 50 (d := d_law_is_want) rfl
theorem TX.f_law_is_formed (T : TX K mg) : ∃ fd, FunD K "_law_is_formed" "_law_is_formed" (defArgs s_law_is_formed) (defBody s_law_is_formed) (defScope s_law_is_formed) [] [] (He.fAd K ("_law_is_formed", none)) fd := T.c.def_ 51 (d := d_law_is_formed) rfl
theorem TX.f_law_do (T : TX K mg) : ∃ fd, FunD K "_law_do" "_law_do" (defArgs s_law_do) (defBody s_law_do) (defScope s_law_do) [] [] (He.fAd K ("_law_do", none)) fd := T.c.def_ 52 (d := d_law_do) rfl
theorem TX.f_law_are_begins (T : TX K mg) : ∃ fd, FunD K "_law_are_begins" "_law_are_begins" (defArgs s_law_are_begins) (defBody s_law_are_begins) (defScope s_law_are_begins) [] [] (He.fAd K ("_law_are_begins", none)) fd := T.c.def_ 53 (d := d_law_are_begins) rfl
theorem TX.f_law (T : TX K mg) : ∃ fd, FunD K "law" "law" (defArgs s_law) (defBody s_law) (defScope s_law) [] [] (He.fAd K ("law", none)) fd := T.c.def_ 54 (d := d_law) rfl
end
theorem exB_sorts {K : PySem.W.Frag} (e : exB K = true) (H : Hp) : SqT K H (He.ga K "SORTS") [.str "car", .str "foot", .str "tram"] := He.tupB_ok (vs := [.str "car", .str "foot", .str "tram"]) (Bool.and_eq_true_iff.mp e).1 H
theorem TX.sorts {K : PySem.W.Frag} {mg : Str → Option Value} (T : TX K mg) (H : Hp) : SqT K H (He.ga K "SORTS") [.str "car", .str "foot", .str "tram"] := exB_sorts T.e H
theorem TX.way_cf {K : PySem.W.Frag} {mg : Str → Option Value} (T : TX K mg) : cfnB K "Way" "__init__" = true := (Bool.and_eq_true_iff.mp T.e).2
theorem cfn_of {K : PySem.W.Frag} {C m : Str} (h : cfnB K C m = true) : PySem.W.readsIn K (He.ga K C) (.type "type") = true ∧ PySem.W.specialIn K (.ref (He.ga K C)) "__getattribute__" = some (some (.builtin "type.__getattribute__")) ∧
    PySem.W.findCls K (.ref (He.ga K C)) (.type "type") m = some (.val (.ref (He.ma K (He.ga K C) m))) ∧ PySem.W.keepIn K (.ref (He.ma K (He.ga K C) m)) = true := by
  obtain ⟨h1, h2⟩ := Bool.and_eq_true_iff.mp h
  obtain ⟨h3, h4⟩ := Bool.and_eq_true_iff.mp h2
  refine ⟨h1, He.eqO_ok h3, ?_⟩
  revert h4
  cases e : PySem.W.findCls K (.ref (He.ga K C)) (.type "type") m with
  | none => intro h4; cases h4
  | some x =>
    cases x with
    | get => intro h4; cases h4
    | val v =>
      cases v with
      | ref g =>
        intro h4
        have h5 : (decide (g = He.ma K (He.ga K C) m) && PySem.W.keepIn K (.ref g)) = true := h4
        obtain ⟨h6, h7⟩ := Bool.and_eq_true_iff.mp h5
        have := of_decide_eq_true h6
        subst this
        exact ⟨rfl, h7⟩
      | _ => intro h4; cases h4
/-! ### a def's promise, found by its name -/
def Fp (P : Program) (w : World) (K : PySem.W.Frag) (mg : Str → Option Value) (base : Heap) (k : Nat) (p : Str × Option Str) (ps : List Str) (sp : Sp) : Prop :=
  ∃ fd, FnOk P w K mg base CX0 k (He.fAd K p) fd ps sp ∧ Binds K fd ps [] ∧ PySem.W.keepIn K (.ref (He.fAd K p)) = true
theorem Fp.mono {P : Program} {w : World} {K : PySem.W.Frag} {mg : Str → Option Value} {base : Heap} {j k : Nat} {p : Str × Option Str} {ps : List Str} {sp : Sp} (F : Fp P w K mg base j p ps sp) (h : j ≤ k) : Fp P w K mg base k p ps sp :=
  let ⟨fd, a, b, c⟩ := F
  ⟨fd, a.mono h, b, c⟩
theorem Fp.of {P : Program} {w : World} {K : PySem.W.Frag} {mg : Str → Option Value} {base : Heap} {k : Nat} {p : Str × Option Str} {x qual : Str} {st : Stmt} {N ps : List Str} {sp : Sp}
    (hF : ∃ fd, FunD K x qual (defArgs st) (defBody st) (defScope st) [] [] (He.fAd K p) fd) (S : FnScope N ps (defScope st))
    (hb : ∀ (kV doc pm : Value) (an : Option Addr) (cdv ct : Value) (us : List Value), us.length = ps.length → bindArgs (PySem.W.fnOf x qual (defArgs st) (defBody st) (defScope st) .none kV doc pm an cdv ct) ⟨us, []⟩ = pure (ps.zip us))
    (len : ∀ vs H Q E, sp vs H Q E → vs.length = ps.length)
    (hbody : ∀ (cdv : Value) (A : Around) (outer : List Env) (s : Shared) (H : Hp) (vs : List V) (Q : VK) (E : XK), Room k (A.deeper (envOfC qual (defScope st) s.heap.objs.size (He.fAd K p) cdv)) → sp vs H Q E →
      ∃ t, PSs (cxOf CX0 P w K mg base N qual (defScope st) (He.fAd K p) cdv A outer s H E).nox (defBody st) t ∧ t { nx := fun _ H' => Q .non H', rt := Q } (start N vs) H) : Fp P w K mg base (k + 1) p ps sp := by
  obtain ⟨fd, F⟩ := hF
  refine ⟨fd, F.ok S len fun cdv A outer s H vs Q E hr h => ?_, FunD.bindsN F hb, F.kp⟩
  obtain ⟨t, h1, h2⟩ := hbody cdv A outer s H vs Q E hr h
  exact ⟨t, h1.nox, h2⟩
section
variable {X : Cx} {k : Nat} {x C m c : Str} {ps : List Str} {sp : Sp} {e o : Expr} {es : List Expr} {ta : TE} {t : TA} {p pos apos : Pos}
theorem pe_f (F : Fp X.prog X.w X.K X.mg X.base k (x, none) ps sp) (hm : X.mg x = some (.ref (He.ga X.K x))) (hr : Room k X.A) (ha : PA X (e :: es) t) (hg : Gl X x := by rfl)
    (hdb : (x == ("__debug__" : Str)) = false := by decide) (he : starEach (e :: es) X.env = (false, eval e X.env) :: starEach es X.env := by rfl) (hpl : (backTo pos (starEach es X.env)).any (·.1) = false := by rfl) :
    PE X (.Call (.Name x p) (e :: es) [] pos) (tCall sp [] E0 t) := by
  obtain ⟨fd, F1, b, kp⟩ := F
  exact pe_call F1 hr hg hm kp b .nil pass0 ha hdb he hpl
theorem pe_mk (M : Mk X.K (He.ga X.K C) (He.ma X.K (He.ga X.K C) "__init__")) (F : Fp X.prog X.w X.K X.mg X.base k (C, some "__init__") ps sp) (hm : X.mg C = some (.ref (He.ga X.K C))) (hr : Room (k + 1) X.A) (ha : PA X (e :: es) t) (hg : Gl X C := by rfl)
    (hdb : (C == ("__debug__" : Str)) = false := by decide) (he : starEach (e :: es) X.env = (false, eval e X.env) :: starEach es X.env := by rfl) (hpl : (backTo pos (starEach es X.env)).any (·.1) = false := by rfl) :
    PE X (.Call (.Name C p) (e :: es) [] pos) (tMake (He.ga X.K C) sp [] E0 t) := by
  obtain ⟨fd, F1, b, kp⟩ := F
  exact pe_make M F1 hr hg hm b .nil pass0 ha hdb he hpl
theorem pe_mt {pl : Sem Bool} (he : PE X o ta) (cl : Cls X.K (He.ga X.K c)) (hm : Meth X.K (He.ga X.K c) m (He.ma X.K (He.ga X.K c) m)) (F : Fp X.prog X.w X.K X.mg X.base k (c, some m) ps sp) (hr : Room k X.A) (ha : PA X (e :: es) t)
    (hst : starEach (e :: es) X.env = (false, eval e X.env) :: starEach es X.env := by rfl) (hpl : (backTo pos (starEach es X.env)).any (·.1) = false := by rfl)
    (ht : eval (.Call (.Attribute o m apos) (e :: es) [] pos) X.env = (do
      let ov ← eval o X.env
      standAt apos.atName
      let (f, first) ← holding [ov] (getMethod ov m pl)
      callWith pos f first (backTo pos (starEach (e :: es) X.env)) (backToKw pos (keywordEach [] X.env))) := by rfl) :
    PE X (.Call (.Attribute o m apos) (e :: es) [] pos) (tMeth (He.ga X.K c) m sp [] E0 ta t) := by
  obtain ⟨fd, F1, b, kp⟩ := F
  exact pe_meth he cl hm F1 hr b .nil pass0 ha hst hpl ht
theorem pe_mt0 {pl : Sem Bool} (he : PE X o ta) (cl : Cls X.K (He.ga X.K c)) (hm : Meth X.K (He.ga X.K c) m (He.ma X.K (He.ga X.K c) m)) (F : Fp X.prog X.w X.K X.mg X.base k (c, some m) ps sp) (hr : Room k X.A)
    (ht : eval (.Call (.Attribute o m apos) [] [] pos) X.env = (do
      let ov ← eval o X.env
      standAt apos.atName
      let (f, first) ← holding [ov] (getMethod ov m pl)
      callWith pos f first (backTo pos (starEach [] X.env)) (backToKw pos (keywordEach [] X.env))) := by rfl) :
    PE X (.Call (.Attribute o m apos) [] [] pos) (tMeth (He.ga X.K c) m sp [] E0 ta tNil) := by
  obtain ⟨fd, F1, b, kp⟩ := F
  exact pe_meth0 he cl hm F1 hr b .nil pass0 ht
theorem pe_cf {pl : Sem Bool} (cf : cfnB X.K c m = true) (hc : X.mg c = some (.ref (He.ga X.K c))) (F : Fp X.prog X.w X.K X.mg X.base k (c, some m) ps sp) (hr : Room k X.A) (ha : PA X (e :: es) t) (hg : Gl X c := by rfl) (hdb : (c == ("__debug__" : Str)) = false := by decide)
    (hst : starEach (e :: es) X.env = (false, eval e X.env) :: starEach es X.env := by rfl) (hpl : (backTo pos (starEach es X.env)).any (·.1) = false := by rfl)
    (ht : eval (.Call (.Attribute (.Name c p) m apos) (e :: es) [] pos) X.env = (do
      let ov ← eval (.Name c p) X.env
      standAt apos.atName
      let (f, first) ← holding [ov] (getMethod ov m pl)
      callWith pos f first (backTo pos (starEach (e :: es) X.env)) (backToKw pos (keywordEach [] X.env))) := by rfl) :
    PE X (.Call (.Attribute (.Name c p) m apos) (e :: es) [] pos) (tCall sp [] E0 t) := by
  obtain ⟨fd, F1, b, kp⟩ := F
  obtain ⟨h1, h2, h3, h4⟩ := cfn_of cf
  exact pe_cfn (pe_glob hg hc rfl hdb) h1 h2 h3 h4 F1 hr b ha hst hpl ht
theorem PE.or3 {t1 t2 t3 : TE} (h1 : PE X e t1) (h2 : PE X e t2) (h3 : PE X e t3) : PE X e (fun σ H Q => t1 σ H Q ∨ t2 σ H Q ∨ t3 σ H Q) :=
  ⟨fun pins s σ H Q I h => by
    rcases h with h | h | h
    · exact h1.run pins s σ H Q I h
    · exact h2.run pins s σ H Q I h
    · exact h3.run pins s σ H Q I h⟩
theorem pe_gS {z : Str} (hg : Gl X x) (h : ∃ t, X.mg x = some (.str z t)) (hd : (x == ("__debug__" : Str)) = false := by decide) : PE X (.Name x pos) (tC (.str z)) := by
  obtain ⟨t, h⟩ := h
  exact pe_glob hg h ⟨t, rfl⟩ hd
theorem pe_gI {z : Int} (hg : Gl X x) (h : ∃ t, X.mg x = some (.int z t)) (hd : (x == ("__debug__" : Str)) = false := by decide) : PE X (.Name x pos) (tC (.int z)) := by
  obtain ⟨t, h⟩ := h
  exact pe_glob hg h ⟨t, rfl⟩ hd
end
theorem hu5 {A : Around} {k : Nat} (hr : Room k A) : A.units + 5 < cLine := by have := hr.units; omega
theorem hu65 {A : Around} {k : Nat} (hr : Room k A) : A.units + 65 < cLine := by
  have := hr.un
  have : A.units + 200 ≤ A.units + 16 * k + 200 := by omega
  omega
/-! ### more of what evaluates to what -/
open Evl
/-- to something of which R holds -/
def EvP (te : TE) (σ : L2.St) (H : Hp) (R : V → Hp → Prop) : Prop := ∀ H1, Ex H H1 → ∀ Q : VK, (∀ v H2, Ex H1 H2 → R v H2 → Q v H2) → te σ H1 Q
def EvAP (ta : TA) (σ : L2.St) (H : Hp) (R : List V → Hp → Prop) : Prop := ∀ H1, Ex H H1 → ∀ Q : List V → Hp → Prop, (∀ vs H2, Ex H1 H2 → R vs H2 → Q vs H2) → ta σ H1 Q
def Up1 (R : V → Hp → Prop) : Prop := ∀ v H H', Ex H H' → R v H → R v H'
def RetP (R : V → Hp → Prop) (H : Hp) (Q : VK) : Prop := ∀ v H2, Ex H H2 → R v H2 → Q v H2
/-- a call -/
def SpP (sp : Sp) (vs : List V) (H : Hp) (R : V → Hp → Prop) : Prop := ∀ H1, Ex H H1 → ∀ Q : VK, (∀ v H2, Ex H1 H2 → R v H2 → Q v H2) → ∀ E : XK, sp vs H1 Q E
section
variable {K : PySem.W.Frag} {σ : L2.St} {H H' : Hp} {ta tb te tx : TE} {t u : TT} {x y z v : V} {r : R2} {R R1 R2' : V → Hp → Prop} {D : Ends} {tu tw tz : TS} {g : TG}
theorem EvP.mono (e : Ex H H') (h : EvP te σ H R) : EvP te σ H' R := fun H1 a Q q => h H1 (e.trans a) Q q
theorem EvP.imp (h : EvP te σ H R) (f : ∀ v H1, Ex H H1 → R v H1 → R1 v H1) : EvP te σ H R1 := fun H1 e Q q => h H1 e Q fun v H2 e2 r => q v H2 e2 (f v H2 (e.trans e2) r)
theorem ep_ev (h : Ev te σ H v) : EvP te σ H (fun w _ => w = v) := fun H1 e Q q => h H1 e Q fun H2 e2 => q v H2 e2 rfl
theorem ev_ep (h : EvP te σ H (fun w _ => w = v)) : Ev te σ H v := fun H1 e Q q => h H1 e Q fun w H2 e2 r => by
  subst r
  exact q H2 e2
theorem ep_tup {ta : TA} {vs : List V} (h : EvA ta σ H vs) (hl : vs.length ≤ 100000) : EvP (tTup ta) σ H (fun w H' => ∃ p, w = .ref p ∧ H' p = some (.tup vs)) := fun H1 e Q q =>
  eu_tup h hl H1 e Q fun p H2 _ e2 hp => q _ H2 e2 ⟨p, rfl, hp⟩
theorem ep_call {sp : Sp} {vs : List V} {E : XK} {ta : TA} (h : EvA ta σ H vs) (hs : SpP sp vs H R) : EvP (tCall sp [] E ta) σ H R := fun H1 e Q q =>
  h H1 e _ fun H2 e2 => by
    show sp (vs ++ []) H2 Q E
    rw [List.append_nil]
    exact hs H2 (e.trans e2) Q (fun v H3 e3 r => q v H3 (e2.trans e3) r) E
theorem ev_callV {sp : Sp} {vs : List V} {E : XK} {ta : TA} (h : EvA ta σ H vs) (hs : SpV sp vs H z) : Ev (tCall sp [] E ta) σ H z := by
  refine ev_call h ?_
  rw [List.append_nil]
  exact hs
/-- the arguments: some of them only described -/
theorem ap_nil : EvAP tNil σ H (fun vs _ => vs = []) := fun H1 _ _ q => q [] H1 (Ex.refl H1) rfl
theorem ap_cons {tr : TA} {S : List V → Hp → Prop} (h : EvP te σ H R) (hu : Up1 R) (hr : EvAP tr σ H S) : EvAP (tCons te tr) σ H (fun vs H' => ∃ v r, vs = v :: r ∧ R v H' ∧ S r H') := fun H1 e _ q =>
  h H1 e _ fun v H2 e2 rv => hr H2 (e.trans e2) _ fun vs H3 e3 rs => q _ H3 (e2.trans e3) ⟨v, vs, rfl, hu v H2 H3 e3 rv, rs⟩
theorem ap_ev {ta : TA} {vs : List V} (h : EvA ta σ H vs) : EvAP ta σ H (fun ws _ => ws = vs) := fun H1 e Q q => h H1 e Q fun H2 e2 => q vs H2 e2 rfl
theorem ep_callP {sp : Sp} {E : XK} {ta : TA} {S : List V → Hp → Prop} (h : EvAP ta σ H S) (hs : ∀ vs H1, Ex H H1 → S vs H1 → SpP sp vs H1 R) : EvP (tCall sp [] E ta) σ H R := fun H1 e Q q =>
  h H1 e _ fun vs H2 e2 s => by
    show sp (vs ++ []) H2 Q E
    rw [List.append_nil]
    exact hs vs H2 (e.trans e2) s H2 (Ex.refl H2) Q (fun v H3 e3 r => q v H3 (e2.trans e3) r) E
theorem ev_fld {a C dx : Addr} {fs : List (Str × V)} {f : Str} (h : Ev ta σ H (.ref a)) (ho : H a = some (.ins C dx fs)) (hc : Cls K C) (hn : NoAttr K C f) (hl : fs.lookup f = some v) : Ev (tFld K ta f) σ H v := fun H1 e Q q =>
  h H1 e _ fun H2 e2 => ⟨a, C, dx, fs, v, rfl, e2 _ _ (e _ _ ho), hc, hn, hl, q H2 e2⟩
/-- an operation, one side described -/
theorem ep_op (ha : EvP ta σ H R) (hu : Up1 R) (hb : EvP tb σ H R1) (hr : ∀ x y H1, Ex H H1 → R x H1 → R1 y H1 → ∀ Q : VK, (∀ v H2, Ex H1 H2 → R2' v H2 → Q v H2) → r x y H1 Q) : EvP (tOp r ta tb) σ H R2' := fun H1 e Q q =>
  ha H1 e _ fun x H2 e2 rx => hb H2 (e.trans e2) _ fun y H3 e3 ry => hr x y H3 ((e.trans e2).trans e3) (hu x H2 H3 e3 rx) ry Q fun v H4 e4 rv => q v H4 ((e2.trans e3).trans e4) rv
/-! statements -/
theorem s_asgP {i : Nat} (h : EvP te σ H R) (k : ∀ v H1, Ex H H1 → R v H1 → D.nx (σ.set i (some v)) H1) : tAsg te (gName i) D σ H := h H (Ex.refl H) _ fun v H1 e r => k v H1 e r
theorem q_asgP {i : Nat} (h : EvP te σ H R) (k : ∀ v H1, Ex H H1 → R v H1 → tz D (σ.set i (some v)) H1) : tSeq (tAsg te (gName i)) tz D σ H := s_asgP (D := { D with nx := tz D }) h k
theorem s_retP (h : EvP te σ H R) (k : ∀ v H1, Ex H H1 → R v H1 → D.rt v H1) : tRet te D σ H := h H (Ex.refl H) _ k
theorem q_fld {a C dx : Addr} {fs : List (Str × V)} {f : Str} (hv : Ev te σ H v) (ho : Ev ta σ H (.ref a)) (hh : H a = some (.ins C dx fs)) (hc : Cls K C) (hn : NoAttr K C f) (hl : fs.length < 1000)
    (k : ∀ H1, Ex H H1 → tz D σ (upd H1 a (.ins C dx (putF f v fs)))) : tSeq (sFld K ta te f) tz D σ H :=
  hv H (Ex.refl H) _ fun H1 e1 => ho H1 e1 _ fun H2 e2 => ⟨a, C, dx, fs, rfl, e2 _ _ (e1 _ _ hh), hc, hn, hl, k H2 (e1.trans e2)⟩
theorem s_fld {a C dx : Addr} {fs : List (Str × V)} {f : Str} (hv : Ev te σ H v) (ho : Ev ta σ H (.ref a)) (hh : H a = some (.ins C dx fs)) (hc : Cls K C) (hn : NoAttr K C f) (hl : fs.length < 1000)
    (k : ∀ H1, Ex H H1 → D.nx σ (upd H1 a (.ins C dx (putF f v fs)))) : sFld K ta te f D σ H :=
  hv H (Ex.refl H) _ fun H1 e1 => ho H1 e1 _ fun H2 e2 => ⟨a, C, dx, fs, rfl, e2 _ _ (e1 _ _ hh), hc, hn, hl, k H2 (e1.trans e2)⟩
/-- i, j = a pair -/
theorem g_two {i j : Nat} {a : Addr} {Q : L2.St → Hp → Prop} (h : SqT K H a [x, y]) (k : Q ((σ.set i (some x)).set j (some y)) H) : gTup K 2 (gCons (gName i) (gCons (gName j) gNil)) (.ref a) σ H Q :=
  ⟨a, [x, y], rfl, h, rfl, x, [y], rfl, y, [], rfl, rfl, k⟩
/-- for i, x in enumerate(list) -/
theorem s_forE {a : Addr} {xs : List V} {ta : TA} {i j : Nat} (h : EvA ta σ H [.ref a]) (hx : SqL K H a xs) (Pv : Nat → L2.St → Hp → Prop) (h0 : ∀ H1, Ex H H1 → Pv 0 σ H1) (hl : ∀ n σ' H', n ≤ xs.length → Pv n σ' H' → SqL K H' a xs)
    (hs : ∀ n x σ' H', xs[n]? = some x → Pv n σ' H' → ∀ H1, Ex H' H1 → tu { D with nx := Pv (n + 1), ct := Pv (n + 1), bk := D.nx } ((σ'.set i (some (.int (n : Int)))).set j (some x)) H1) (hd : ∀ σ' H', Pv xs.length σ' H' → D.nx σ' H') :
    tFor (iEnum K ta) (gTup K 2 (gCons (gName i) (gCons (gName j) gNil))) tu D σ H := h H (Ex.refl H) _ fun H1 e => ⟨a, xs, rfl, ex_l e hx, by
  refine ⟨fun n m σ' H' => m = xs.length - n ∧ n ≤ xs.length ∧ Pv n σ' H', ⟨xs.length, by simp, Nat.zero_le _, h0 H1 e⟩, ?_⟩
  rintro n m σ' H' ⟨rfl, hn, p⟩
  have q := hl n σ' H' hn p
  by_cases hlt : n < xs.length
  · refine .inr ⟨⟨xs, xs[n], q, by simp [hlt]⟩, Pv (n + 1), fun σ2 H2 p2 => ⟨xs.length - (n + 1), by omega, rfl, hlt, p2⟩, fun x H2 y => ?_⟩
    obtain ⟨T, w, rfl, nT, rfl, f⟩ := y
    exact g_two (.inl (.inl upd_same)) (hs n w σ' H' (f xs q) p _ (Ex.new nT))
  · have en : n = xs.length := by omega
    subst en
    exact .inl ⟨⟨xs, q, Nat.le_refl _⟩, hd σ' H' p⟩⟩
/-- for i, x in enumerate(tuple) -/
theorem s_forET {a : Addr} {xs : List V} {ta : TA} {i j : Nat} (h : EvA ta σ H [.ref a]) (hx : SqT K H a xs) (Pv : Nat → L2.St → Hp → Prop) (h0 : ∀ H1, Ex H H1 → Pv 0 σ H1) (hl : ∀ n σ' H', n ≤ xs.length → Pv n σ' H' → SqT K H' a xs)
    (hs : ∀ n x σ' H', xs[n]? = some x → Pv n σ' H' → ∀ H1, Ex H' H1 → tu { D with nx := Pv (n + 1), ct := Pv (n + 1), bk := D.nx } ((σ'.set i (some (.int (n : Int)))).set j (some x)) H1) (hd : ∀ σ' H', Pv xs.length σ' H' → D.nx σ' H') :
    tFor (iEnumT K ta) (gTup K 2 (gCons (gName i) (gCons (gName j) gNil))) tu D σ H := h H (Ex.refl H) _ fun H1 e => ⟨a, xs, rfl, ex_t e hx, by
  refine ⟨fun n m σ' H' => m = xs.length - n ∧ n ≤ xs.length ∧ Pv n σ' H', ⟨xs.length, by simp, Nat.zero_le _, h0 H1 e⟩, ?_⟩
  rintro n m σ' H' ⟨rfl, hn, p⟩
  have q := hl n σ' H' hn p
  by_cases hlt : n < xs.length
  · refine .inr ⟨⟨xs, xs[n], q, by simp [hlt]⟩, Pv (n + 1), fun σ2 H2 p2 => ⟨xs.length - (n + 1), by omega, rfl, hlt, p2⟩, fun x H2 y => ?_⟩
    obtain ⟨T, w, rfl, nT, rfl, f⟩ := y
    exact g_two (.inl (.inl upd_same)) (hs n w σ' H' (f xs q) p _ (Ex.new nT))
  · have en : n = xs.length := by omega
    subst en
    exact .inl ⟨⟨xs, q, rfl⟩, hd σ' H' p⟩⟩
/-- for i, j in a list of pairs -/
theorem s_forPr {a : Addr} {xs : List V} {tl : TE} {i j : Nat} (h : Ev tl σ H (.ref a)) (hx : SqL K H a xs) (Pv : Nat → L2.St → Hp → Prop) (h0 : ∀ H1, Ex H H1 → Pv 0 σ H1) (hl : ∀ n σ' H', n ≤ xs.length → Pv n σ' H' → SqL K H' a xs)
    (hs : ∀ n x σ' H', xs[n]? = some x → Pv n σ' H' → ∃ b y z, x = .ref b ∧ SqT K H' b [y, z] ∧ tu { D with nx := Pv (n + 1), ct := Pv (n + 1), bk := D.nx } ((σ'.set i (some y)).set j (some z)) H') (hd : ∀ σ' H', Pv xs.length σ' H' → D.nx σ' H') :
    tFor (iList K tl) (gTup K 2 (gCons (gName i) (gCons (gName j) gNil))) tu D σ H :=
  s_forL h hx Pv h0 hl (fun n x σ' H' e p => by
    obtain ⟨b, y, z, rfl, hb, q⟩ := hs n x σ' H' e p
    exact g_two hb q) hd
theorem q_forE {a : Addr} {xs : List V} {ta : TA} {i j : Nat} (h : EvA ta σ H [.ref a]) (hx : SqL K H a xs) (Pv : Nat → L2.St → Hp → Prop) (h0 : ∀ H1, Ex H H1 → Pv 0 σ H1) (hl : ∀ n σ' H', n ≤ xs.length → Pv n σ' H' → SqL K H' a xs)
    (hs : ∀ n x σ' H', xs[n]? = some x → Pv n σ' H' → ∀ H1, Ex H' H1 → tu { D with nx := Pv (n + 1), ct := Pv (n + 1), bk := tz D } ((σ'.set i (some (.int (n : Int)))).set j (some x)) H1) (hd : ∀ σ' H', Pv xs.length σ' H' → tz D σ' H') :
    tSeq (tFor (iEnum K ta) (gTup K 2 (gCons (gName i) (gCons (gName j) gNil))) tu) tz D σ H := s_forE (D := { D with nx := tz D }) h hx Pv h0 hl hs hd
theorem q_forET {a : Addr} {xs : List V} {ta : TA} {i j : Nat} (h : EvA ta σ H [.ref a]) (hx : SqT K H a xs) (Pv : Nat → L2.St → Hp → Prop) (h0 : ∀ H1, Ex H H1 → Pv 0 σ H1) (hl : ∀ n σ' H', n ≤ xs.length → Pv n σ' H' → SqT K H' a xs)
    (hs : ∀ n x σ' H', xs[n]? = some x → Pv n σ' H' → ∀ H1, Ex H' H1 → tu { D with nx := Pv (n + 1), ct := Pv (n + 1), bk := tz D } ((σ'.set i (some (.int (n : Int)))).set j (some x)) H1) (hd : ∀ σ' H', Pv xs.length σ' H' → tz D σ' H') :
    tSeq (tFor (iEnumT K ta) (gTup K 2 (gCons (gName i) (gCons (gName j) gNil))) tu) tz D σ H := s_forET (D := { D with nx := tz D }) h hx Pv h0 hl hs hd
theorem q_forPr {a : Addr} {xs : List V} {tl : TE} {i j : Nat} (h : Ev tl σ H (.ref a)) (hx : SqL K H a xs) (Pv : Nat → L2.St → Hp → Prop) (h0 : ∀ H1, Ex H H1 → Pv 0 σ H1) (hl : ∀ n σ' H', n ≤ xs.length → Pv n σ' H' → SqL K H' a xs)
    (hs : ∀ n x σ' H', xs[n]? = some x → Pv n σ' H' → ∃ b y z, x = .ref b ∧ SqT K H' b [y, z] ∧ tu { D with nx := Pv (n + 1), ct := Pv (n + 1), bk := tz D } ((σ'.set i (some y)).set j (some z)) H') (hd : ∀ σ' H', Pv xs.length σ' H' → tz D σ' H') :
    tSeq (tFor (iList K tl) (gTup K 2 (gCons (gName i) (gCons (gName j) gNil))) tu) tz D σ H := s_forPr (D := { D with nx := tz D }) h hx Pv h0 hl hs hd
theorem s_fldP {a C dx : Addr} {fs : List (Str × V)} {f : Str} (hv : EvP te σ H R) (ho : Ev ta σ H (.ref a)) (hh : H a = some (.ins C dx fs)) (hc : Cls K C) (hn : NoAttr K C f) (hl : fs.length < 1000)
    (k : ∀ v H1, Ex H H1 → (∃ H0, Ex H H0 ∧ Ex H0 H1 ∧ R v H0) → D.nx σ (upd H1 a (.ins C dx (putF f v fs)))) : sFld K ta te f D σ H :=
  hv H (Ex.refl H) _ fun v H1 e1 r => ho H1 e1 _ fun H2 e2 => ⟨a, C, dx, fs, rfl, e2 _ _ (e1 _ _ hh), hc, hn, hl, k v H2 (e1.trans e2) ⟨H1, e1, e2, r⟩⟩
theorem q_fldP {a C dx : Addr} {fs : List (Str × V)} {f : Str} (hv : EvP te σ H R) (ho : Ev ta σ H (.ref a)) (hh : H a = some (.ins C dx fs)) (hc : Cls K C) (hn : NoAttr K C f) (hl : fs.length < 1000)
    (k : ∀ v H1, Ex H H1 → (∃ H0, Ex H H0 ∧ Ex H0 H1 ∧ R v H0) → tz D σ (upd H1 a (.ins C dx (putF f v fs)))) : tSeq (sFld K ta te f) tz D σ H := s_fldP (D := { D with nx := tz D }) hv ho hh hc hn hl k
/-- a new list, as something described: fresh at H -/
theorem ep_l {xs : List V} (h : EvL te σ H xs) : EvP te σ H (fun v H' => ∃ p, v = .ref p ∧ H p = none ∧ H' p = some (.lst xs)) := fun H1 e Q q => h H1 e Q fun p H2 hp e2 h2 => q _ H2 e2 ⟨p, rfl, fresh_back e hp, h2⟩
/-- a call in an expression statement, or an append of something described -/
theorem q_appP {l : Addr} {xs : List V} (hl : H l = some (.lst xs)) (ha : Ev ta σ H (.ref l)) (h : EvP te σ H R) (hz : xs.length < 100000) (k : ∀ v H1, Ex H H1 → R v H1 → tz D σ (upd H1 l (.lst (xs ++ [v])))) :
    tSeq (tDrop (tBM K "list" rAppend ta (tCons te tNil))) tz D σ H := ha H (Ex.refl H) _ fun H1 e1 =>
  ⟨Or.inl ⟨rfl, xs, sq_of (e1 l _ hl)⟩, h H1 e1 _ fun v H2 e2 r => ⟨l, xs, v, rfl, rfl, e2 l _ (e1 l _ hl), sz_lt hz, k v H2 (e1.trans e2) r⟩⟩
theorem s_appP {l : Addr} {xs : List V} (hl : H l = some (.lst xs)) (ha : Ev ta σ H (.ref l)) (h : EvP te σ H R) (hz : xs.length < 100000) (k : ∀ v H1, Ex H H1 → R v H1 → D.nx σ (upd H1 l (.lst (xs ++ [v])))) :
    tDrop (tBM K "list" rAppend ta (tCons te tNil)) D σ H := ha H (Ex.refl H) _ fun H1 e1 =>
  ⟨Or.inl ⟨rfl, xs, sq_of (e1 l _ hl)⟩, h H1 e1 _ fun v H2 e2 r => ⟨l, xs, v, rfl, rfl, e2 l _ (e1 l _ hl), sz_lt hz, k v H2 (e1.trans e2) r⟩⟩
theorem q_dropCall {sp : Sp} {E : XK} {ta : TA} {vs : List V} (h : EvA ta σ H vs) (k : ∀ H1, Ex H H1 → sp vs H1 (fun _ H2 => tz D σ H2) E) : tSeq (tDrop (tCall sp [] E ta)) tz D σ H := h H (Ex.refl H) _ fun H1 e1 => by
  show sp (vs ++ []) H1 (fun _ H2 => tz D σ H2) E
  rw [List.append_nil]
  exact k H1 e1
/-- an if without else, then what follows, shown once -/
theorem q_whenM {b : Bool} (M : Hp → Prop) (h : EvT t σ H b) (h1 : b = true → ∀ H1, Ex H H1 → ∀ N : L2.St → Hp → Prop, (∀ H', M H' → N σ H') → tu { D with nx := N } σ H1) (h2 : b = false → ∀ H1, Ex H H1 → M H1) (k : ∀ H1, M H1 → tz D σ H1) :
    tSeq (tIfS t tu tNext) tz D σ H := q_when h (fun hb H1 e1 => h1 hb H1 e1 _ k) (fun hb H1 e1 => k H1 (h2 hb H1 e1))
theorem rv_mod {i j : Int} (hj : j ≠ 0) : RV (rI (fun _ j => j ≠ 0) fun i j => .int (i.fmod j)) (.int i) (.int j) H (.int (i.fmod j)) := rv_I hj
end
theorem SqL.lst {K : PySem.W.Frag} {H : Hp} {a : Addr} {xs : List V} (h : H a = some (.lst xs)) : SqL K H a xs := .inl (.inl h)
theorem SqT.tup {K : PySem.W.Frag} {H : Hp} {a : Addr} {xs : List V} (h : H a = some (.tup xs)) : SqT K H a xs := .inl (.inl h)
/-! the scopes -/
abbrev N_bow : List Str := ["way", "places", "found", "place"]
theorem sc_bow : FnScope N_bow ["way", "places"] (defScope s_bow) := ⟨rfl, rfl, rfl, by decide +kernel, rfl, by decide +kernel, by decide +kernel⟩
abbrev N_ways_meet : List Str := ["way", "other", "places", "inner"]
theorem sc_ways_meet : FnScope N_ways_meet ["way", "other", "places"] (defScope s_ways_meet) := ⟨rfl, rfl, rfl, by decide +kernel, rfl, by decide +kernel, by decide +kernel⟩
abbrev N_meet : List Str := ["crossing", "one", "other"]
theorem sc_meet : FnScope N_meet ["crossing", "one", "other"] (defScope s_meet) := ⟨rfl, rfl, rfl, by decide +kernel, rfl, by decide +kernel, by decide +kernel⟩
abbrev N_gap : List Str := ["crossing", "one", "other", "way"]
theorem sc_gap : FnScope N_gap ["crossing", "one", "other"] (defScope s_gap) := ⟨rfl, rfl, rfl, by decide +kernel, rfl, by decide +kernel, by decide +kernel⟩
abbrev N_Needs_init : List Str := ["self", "crossing", "wants", "name", "turns", "way", "names", "want", "row", "other"]
theorem sc_Needs_init : FnScope N_Needs_init ["self", "crossing", "wants"] (defScope s_Needs_init) := ⟨rfl, rfl, rfl, by decide +kernel, rfl, by decide +kernel, by decide +kernel⟩
abbrev N_first_order : List Str := ["needs", "order", "j", "turns"]
theorem sc_first_order : FnScope N_first_order ["needs"] (defScope s_first_order) := ⟨rfl, rfl, rfl, by decide +kernel, rfl, by decide +kernel, by decide +kernel⟩
abbrev N_ordered : List Str := ["order", "i", "j", "more"]
theorem sc_ordered : FnScope N_ordered ["order", "i", "j"] (defScope s_ordered) := ⟨rfl, rfl, rfl, by decide +kernel, rfl, by decide +kernel, by decide +kernel⟩
abbrev N_is_ordered : List Str := ["order", "i", "j"]
theorem sc_is_ordered : FnScope N_is_ordered ["order", "i", "j"] (defScope s_is_ordered) := ⟨rfl, rfl, rfl, by decide +kernel, rfl, by decide +kernel, by decide +kernel⟩
abbrev N_ring_turns : List Str := ["needs", "ring", "total", "k", "i"]
theorem sc_ring_turns : FnScope N_ring_turns ["needs", "ring"] (defScope s_ring_turns) := ⟨rfl, rfl, rfl, by decide +kernel, rfl, by decide +kernel, by decide +kernel⟩
abbrev N_ring_rounds : List Str := ["order", "ring", "rounds", "k", "i", "j"]
theorem sc_ring_rounds : FnScope N_ring_rounds ["order", "ring"] (defScope s_ring_rounds) := ⟨rfl, rfl, rfl, by decide +kernel, rfl, by decide +kernel, by decide +kernel⟩
abbrev N_rings_of : List Str := ["needs", "many", "rings", "ways", "k", "at", "row", "last"]
theorem sc_rings_of : FnScope N_rings_of ["needs"] (defScope s_rings_of) := ⟨rfl, rfl, rfl, by decide +kernel, rfl, by decide +kernel, by decide +kernel⟩
abbrev N_open_pair : List Str := ["needs", "order", "i", "row", "j"]
theorem sc_open_pair : FnScope N_open_pair ["needs", "order"] (defScope s_open_pair) := ⟨rfl, rfl, rfl, by decide +kernel, rfl, by decide +kernel, by decide +kernel⟩
abbrev N_order_size : List Str := ["needs", "rings", "order", "size", "ring", "turns", "rounds"]
theorem sc_order_size : FnScope N_order_size ["needs", "rings", "order"] (defScope s_order_size) := ⟨rfl, rfl, rfl, by decide +kernel, rfl, by decide +kernel, by decide +kernel⟩
abbrev N_best_order : List Str := ["needs", "rings", "order", "pair", "one", "other"]
theorem sc_best_order : FnScope N_best_order ["needs", "rings", "order"] (defScope s_best_order) := ⟨rfl, rfl, rfl, by decide +kernel, rfl, by decide +kernel, by decide +kernel⟩
abbrev N_settled : List Str := ["needs", "size", "order", "begins", "k", "i", "j", "begin"]
theorem sc_settled : FnScope N_settled ["needs", "size", "order"] (defScope s_settled) := ⟨rfl, rfl, rfl, by decide +kernel, rfl, by decide +kernel, by decide +kernel⟩
abbrev N_paper_of : List Str := ["needs", "rings", "size", "order", "ring", "turns", "rounds", "i", "j", "one"]
theorem sc_paper_of : FnScope N_paper_of ["needs", "rings", "size", "order"] (defScope s_paper_of) := ⟨rfl, rfl, rfl, by decide +kernel, rfl, by decide +kernel, by decide +kernel⟩
abbrev N_shortest : List Str := ["crossing", "wants", "needs", "rings", "order", "found", "begins", "k", "turns"]
theorem sc_shortest : FnScope N_shortest ["crossing", "wants"] (defScope s_shortest) := ⟨rfl, rfl, rfl, by decide +kernel, rfl, by decide +kernel, by decide +kernel⟩
abbrev N_Way_init : List Str := ["self", "name", "start", "end", "off", "near", "least"]
theorem sc_Way_init : FnScope N_Way_init ["self", "name", "start", "end", "off", "near", "least"] (defScope s_Way_init) := ⟨rfl, rfl, rfl, by decide +kernel, rfl, by decide +kernel, by decide +kernel⟩
abbrev N_CarWay_init : List Str := ["self", "name", "start", "end", "off", "near", "least"]
theorem sc_CarWay_init : FnScope N_CarWay_init ["self", "name", "start", "end", "off", "near", "least"] (defScope s_CarWay_init) := ⟨rfl, rfl, rfl, by decide +kernel, rfl, by decide +kernel, by decide +kernel⟩
abbrev N_FootWay_init : List Str := ["self", "name", "start", "end", "off", "near", "least"]
theorem sc_FootWay_init : FnScope N_FootWay_init ["self", "name", "start", "end", "off", "near", "least"] (defScope s_FootWay_init) := ⟨rfl, rfl, rfl, by decide +kernel, rfl, by decide +kernel, by decide +kernel⟩
abbrev N_TramWay_init : List Str := ["self", "name", "start", "end", "off", "near", "least"]
theorem sc_TramWay_init : FnScope N_TramWay_init ["self", "name", "start", "end", "off", "near", "least"] (defScope s_TramWay_init) := ⟨rfl, rfl, rfl, by decide +kernel, rfl, by decide +kernel, by decide +kernel⟩
abbrev N_Way_ready : List Str := ["self"]
theorem sc_Way_ready : FnScope N_Way_ready ["self"] (defScope s_Way_ready) := ⟨rfl, rfl, rfl, by decide +kernel, rfl, by decide +kernel, by decide +kernel⟩
abbrev N_Way_fade : List Str := ["self"]
theorem sc_Way_fade : FnScope N_Way_fade ["self"] (defScope s_Way_fade) := ⟨rfl, rfl, rfl, by decide +kernel, rfl, by decide +kernel, by decide +kernel⟩
abbrev N_CarWay_fade : List Str := ["self"]
theorem sc_CarWay_fade : FnScope N_CarWay_fade ["self"] (defScope s_CarWay_fade) := ⟨rfl, rfl, rfl, by decide +kernel, rfl, by decide +kernel, by decide +kernel⟩
abbrev N_FootWay_ready : List Str := ["self"]
theorem sc_FootWay_ready : FnScope N_FootWay_ready ["self"] (defScope s_FootWay_ready) := ⟨rfl, rfl, rfl, by decide +kernel, rfl, by decide +kernel, by decide +kernel⟩
abbrev N_FootWay_fade : List Str := ["self"]
theorem sc_FootWay_fade : FnScope N_FootWay_fade ["self"] (defScope s_FootWay_fade) := ⟨rfl, rfl, rfl, by decide +kernel, rfl, by decide +kernel, by decide +kernel⟩
abbrev N_TramWay_ready : List Str := ["self"]
theorem sc_TramWay_ready : FnScope N_TramWay_ready ["self"] (defScope s_TramWay_ready) := ⟨rfl, rfl, rfl, by decide +kernel, rfl, by decide +kernel, by decide +kernel⟩
abbrev N_words : List Str := ["text", "row"]
theorem sc_words : FnScope N_words ["text"] (defScope s_words) := ⟨rfl, rfl, rfl, by decide +kernel, rfl, by decide +kernel, by decide +kernel⟩
abbrev N_figured : List Str := ["word", "low", "high", "number", "sign"]
theorem sc_figured : FnScope N_figured ["word", "low", "high"] (defScope s_figured) := ⟨rfl, rfl, rfl, by decide +kernel, rfl, by decide +kernel, by decide +kernel⟩
abbrev N_is_name : List Str := ["word", "sign"]
theorem sc_is_name : FnScope N_is_name ["word"] (defScope s_is_name) := ⟨rfl, rfl, rfl, by decide +kernel, rfl, by decide +kernel, by decide +kernel⟩
abbrev N_Crossing_init : List Str := ["self", "places", "ways"]
theorem sc_Crossing_init : FnScope N_Crossing_init ["self", "places", "ways"] (defScope s_Crossing_init) := ⟨rfl, rfl, rfl, by decide +kernel, rfl, by decide +kernel, by decide +kernel⟩
abbrev N_Crossing_number : List Str := ["self", "name", "k", "way"]
theorem sc_Crossing_number : FnScope N_Crossing_number ["self", "name"] (defScope s_Crossing_number) := ⟨rfl, rfl, rfl, by decide +kernel, rfl, by decide +kernel, by decide +kernel⟩
abbrev N_Crossing_called : List Str := ["self", "name"]
theorem sc_Crossing_called : FnScope N_Crossing_called ["self", "name"] (defScope s_Crossing_called) := ⟨rfl, rfl, rfl, by decide +kernel, rfl, by decide +kernel, by decide +kernel⟩
abbrev N_made_way : List Str := ["sort", "name", "numbers"]
theorem sc_made_way : FnScope N_made_way ["sort", "name", "numbers"] (defScope s_made_way) := ⟨rfl, rfl, rfl, by decide +kernel, rfl, by decide +kernel, by decide +kernel⟩
abbrev N_read_head : List Str := ["row", "places"]
theorem sc_read_head : FnScope N_read_head ["row"] (defScope s_read_head) := ⟨rfl, rfl, rfl, by decide +kernel, rfl, by decide +kernel, by decide +kernel⟩
abbrev N_read_numbers : List Str := ["at", "row", "places", "bounds", "numbers", "k", "number"]
theorem sc_read_numbers : FnScope N_read_numbers ["at", "row", "places"] (defScope s_read_numbers) := ⟨rfl, rfl, rfl, by decide +kernel, rfl, by decide +kernel, by decide +kernel⟩
abbrev N_read_way : List Str := ["at", "row", "places", "taken"]
theorem sc_read_way : FnScope N_read_way ["at", "row", "places", "taken"] (defScope s_read_way) := ⟨rfl, rfl, rfl, by decide +kernel, rfl, by decide +kernel, by decide +kernel⟩
abbrev N_read_crossing : List Str := ["text", "rows", "places", "ways", "taken", "at", "way"]
theorem sc_read_crossing : FnScope N_read_crossing ["text"] (defScope s_read_crossing) := ⟨rfl, rfl, rfl, by decide +kernel, rfl, by decide +kernel, by decide +kernel⟩
abbrev N_law_draw : List Str := ["_law_script", "_law_k", "_law_many", "_law_cell", "_law_seed"]
theorem sc_law_draw : FnScope N_law_draw ["_law_script", "_law_k", "_law_many"] (defScope s_law_draw) := ⟨rfl, rfl, rfl, by decide +kernel, rfl, by decide +kernel, by decide +kernel⟩
abbrev N_law_places : List Str := ["_law_script"]
theorem sc_law_places : FnScope N_law_places ["_law_script"] (defScope s_law_places) := ⟨rfl, rfl, rfl, by decide +kernel, rfl, by decide +kernel, by decide +kernel⟩
abbrev N_law_names : List Str := ["_law_script", "_law_many", "_law_letters", "_law_word", "_law_k", "_law_size", "_law_at", "_law_first", "_law_some", "_law_name", "_law_sign"]
theorem sc_law_names : FnScope N_law_names ["_law_script", "_law_many"] (defScope s_law_names) := ⟨rfl, rfl, rfl, by decide +kernel, rfl, by decide +kernel, by decide +kernel⟩
abbrev N_law_ways : List Str := ["_law_script", "_law_many", "_law_places_here", "_law_names_here", "_law_one_end", "_law_ways_here", "_law_k", "_law_start", "_law_end", "_law_off", "_law_near", "_law_sort", "_law_least"]
theorem sc_law_ways : FnScope N_law_ways ["_law_script", "_law_many", "_law_places_here"] (defScope s_law_ways) := ⟨rfl, rfl, rfl, by decide +kernel, rfl, by decide +kernel, by decide +kernel⟩
abbrev N_law_text : List Str := ["_law_places_here", "_law_ways_here", "_law_rows", "_law_way", "_law_number"]
theorem sc_law_text : FnScope N_law_text ["_law_places_here", "_law_ways_here"] (defScope s_law_text) := ⟨rfl, rfl, rfl, by decide +kernel, rfl, by decide +kernel, by decide +kernel⟩
abbrev N_law_is_met : List Str := ["_law_one", "_law_other", "_law_places_here", "_law_far", "_law_is_in"]
theorem sc_law_is_met : FnScope N_law_is_met ["_law_one", "_law_other", "_law_places_here"] (defScope s_law_is_met) := ⟨rfl, rfl, rfl, by decide +kernel, rfl, by decide +kernel, by decide +kernel⟩
abbrev N_law_wanted : List Str := ["_law_script", "_law_ways_here", "_law_many", "_law_first", "_law_wanted_here", "_law_k", "_law_turns"]
theorem sc_law_wanted : FnScope N_law_wanted ["_law_script", "_law_ways_here"] (defScope s_law_wanted) := ⟨rfl, rfl, rfl, by decide +kernel, rfl, by decide +kernel, by decide +kernel⟩
abbrev N_law_alone : List Str := ["_law_way", "_law_turns"]
theorem sc_law_alone : FnScope N_law_alone ["_law_way", "_law_turns"] (defScope s_law_alone) := ⟨rfl, rfl, rfl, by decide +kernel, rfl, by decide +kernel, by decide +kernel⟩
abbrev N_law_behind : List Str := ["_law_wanted_here", "_law_i", "_law_j", "_law_places_here"]
theorem sc_law_behind : FnScope N_law_behind ["_law_wanted_here", "_law_i", "_law_j", "_law_places_here"] (defScope s_law_behind) := ⟨rfl, rfl, rfl, by decide +kernel, rfl, by decide +kernel, by decide +kernel⟩
abbrev N_law_ahead : List Str := ["_law_wanted_here", "_law_places_here", "_law_j"]
theorem sc_law_ahead : FnScope N_law_ahead ["_law_wanted_here", "_law_places_here"] (defScope s_law_ahead) := ⟨rfl, rfl, rfl, by decide +kernel, rfl, by decide +kernel, by decide +kernel⟩
abbrev N_law_ring_bears : List Str := ["_law_wanted_here", "_law_places_here", "_law_size", "_law_ring", "_law_ahead_here", "_law_total", "_law_rounds", "_law_k", "_law_i", "_law_j"]
theorem sc_law_ring_bears : FnScope N_law_ring_bears ["_law_wanted_here", "_law_places_here", "_law_size", "_law_ring", "_law_ahead_here"] (defScope s_law_ring_bears) := ⟨rfl, rfl, rfl, by decide +kernel, rfl, by decide +kernel, by decide +kernel⟩
abbrev N_law_bears : List Str := ["_law_wanted_here", "_law_places_here", "_law_size", "_law_paper", "_law_ahead_here", "_law_i", "_law_j"]
theorem sc_law_bears : FnScope N_law_bears ["_law_wanted_here", "_law_places_here", "_law_size", "_law_paper", "_law_ahead_here"] (defScope s_law_bears) := ⟨rfl, rfl, rfl, by decide +kernel, rfl, by decide +kernel, by decide +kernel⟩
abbrev N_law_is_want : List Str := ["_law_k", "_law_many"]
theorem sc_law_is_want : FnScope N_law_is_want ["_law_k", "_law_many"] (defScope s_law_is_want) := ⟨rfl, rfl, rfl, by decide +kernel, rfl, by decide +kernel, by decide +kernel⟩
abbrev N_law_is_formed : List Str := ["_law_paper", "_law_many", "_law_deep", "_law_k"]
theorem sc_law_is_formed : FnScope N_law_is_formed ["_law_paper", "_law_many", "_law_deep"] (defScope s_law_is_formed) := ⟨rfl, rfl, rfl, by decide +kernel, rfl, by decide +kernel, by decide +kernel⟩
abbrev N_law_do : List Str := ["_law_wanted_here", "_law_places_here", "_law_size", "_law_begins", "_law_i", "_law_j", "_law_turns"]
theorem sc_law_do : FnScope N_law_do ["_law_wanted_here", "_law_places_here", "_law_size", "_law_begins"] (defScope s_law_do) := ⟨rfl, rfl, rfl, by decide +kernel, rfl, by decide +kernel, by decide +kernel⟩
abbrev N_law_are_begins : List Str := ["_law_begins", "_law_many", "_law_size", "_law_begin"]
theorem sc_law_are_begins : FnScope N_law_are_begins ["_law_begins", "_law_many", "_law_size"] (defScope s_law_are_begins) := ⟨rfl, rfl, rfl, by decide +kernel, rfl, by decide +kernel, by decide +kernel⟩
abbrev N_law : List Str := ["_law_script", "_law_places_here", "_law_ways_here", "_law_crossing", "_law_wanted_here", "_law_wants", "_law_one", "_law_handed", "_law_told", "_law_size", "_law_begins", "_law_again"]
theorem sc_law : FnScope N_law ["_law_script"] (defScope s_law) := ⟨rfl, rfl, rfl, by decide +kernel, rfl, by decide +kernel, by decide +kernel⟩
end Lw


set_option Elab.async false
set_option linter.all false
set_option maxRecDepth 100000
set_option maxHeartbeats 4000000
namespace Lw
open PySem PySem.Spec PyProof.Rows L2 Evl
/-! ### ways -/
structure WayD where
  sort : Nat
  name : Str
  start : Int
  end_ : Int
  off : Int
  near : Int
  least : Int
def kindS : Nat → Str
  | 0 => "car"
  | 1 => "foot"
  | _ => "tram"
def clsS : Nat → Str
  | 0 => "CarWay"
  | 1 => "FootWay"
  | _ => "TramWay"
def wayF0 (nm : Str) (s e o n l : Int) (kd : Str) : List (Str × V) := [("name", .str nm), ("start", .int s), ("end", .int e), ("off", .int o), ("near", .int n), ("least", .int l), ("kind", .str kd)]
def wayF (w : WayD) : List (Str × V) := wayF0 w.name w.start w.end_ w.off w.near w.least (kindS w.sort)
def wayFs : List Str := ["name", "start", "end", "off", "near", "least", "kind"]
theorem putF_ne {f g : Str} {v u : V} {r : List (Str × V)} (h : ¬ g = f) : putF f v ((g, u) :: r) = (g, u) :: putF f v r := by
  show (if g = f then _ else _) = _
  rw [if_neg h]
theorem putF_eq {f : Str} {v u : V} {r : List (Str × V)} : putF f v ((f, u) :: r) = (f, v) :: r := by
  show (if f = f then _ else _) = _
  rw [if_pos rfl]
theorem putF_nil {f : Str} {v : V} : putF f v [] = [(f, v)] := rfl
example (w : WayD) : (wayF w).lookup ("near" : Str) = some (.int w.near) := rfl
example (w : WayD) : (wayF w).lookup ("fade" : Str) = none := rfl
/-- all but p is kept -/
def ExB (p : Addr) (H H' : Hp) : Prop := ∀ b o, b ≠ p → H b = some o → H' b = some o
theorem ExB.of {p : Addr} {H H' : Hp} (e : Ex H H') : ExB p H H' := fun b o _ h => e b o h
theorem ExB.upd {p : Addr} {H H' : Hp} {o : HO} (e : ExB p H H') : ExB p H (L2.upd H' p o) := fun b u hb h => by
  rw [upd_ne hb]
  exact e b u hb h
theorem ExB.trans {p : Addr} {H H1 H2 : Hp} (a : ExB p H H1) (b : ExB p H1 H2) : ExB p H H2 := fun c o hc h => b c o hc (a c o hc h)
/-- made anew at p -/
theorem ExB.ex {p : Addr} {H H' : Hp} (e : ExB p H H') (hp : H p = none) : Ex H H' := fun b o h => e b o (ne_of_none h hp) h
def spWayInit (K : PySem.W.Frag) (kd : Str) : Sp := fun vs H Q _ => ∃ (p C dx : Addr) (nm : Str) (s e o n l : Int), vs = [.ref p, .str nm, .int s, .int e, .int o, .int n, .int l] ∧ H p = some (.ins C dx []) ∧ Cls K C ∧ (∀ f ∈ wayFs, NoAttr K C f) ∧
  ∀ H', H' p = some (.ins C dx (wayF0 nm s e o n l kd)) → ExB p H H' → Q .non H'
section
variable {P : Program} {w : World} {K : PySem.W.Frag} {mg : Str → Option Value} {base : Heap}
theorem ok_Way_init (T : TX K mg) : Fp P w K mg base 1 ("Way", some "__init__") ["self", "name", "start", "end", "off", "near", "least"] (spWayInit K "") := by
  refine Fp.of T.f_Way_init sc_Way_init (fun _ _ _ _ _ _ us hl => match us, hl with | [_, _, _, _, _, _, _], _ => rfl) (fun vs H Q E h => ?_) (fun cdv A outer s H vs Q E hr h => ?_)
  · obtain ⟨_, _, _, _, _, _, _, _, _, rfl, _⟩ := h; rfl
  · obtain ⟨p, C, dx, nm, s, e, o, n, l, rfl, hp, cl, na, k⟩ := h
    refine ⟨_, (pss_cons (ps_fld (pv 0) (pv 1) rfl)
  (pss_cons (ps_fld (pv 0) (pv 2) rfl)
  (pss_cons (ps_fld (pv 0) (pv 3) rfl)
  (pss_cons (ps_fld (pv 0) (pv 4) rfl)
  (pss_cons (ps_fld (pv 0) (pv 5) rfl)
  (pss_cons (ps_fld (pv 0) (pv 6) rfl)
  (pss_one (ps_fld (pv 0) pe_str rfl)))))))), ?_⟩
    refine q_fld (ev_var rfl) (ev_var rfl) hp cl (na _ (by decide +kernel)) (by decide) fun H1 e1 => ?_
    refine q_fld (ev_var rfl) (ev_var rfl) upd_same cl (na _ (by decide +kernel)) (show 1 < 1000 by decide) fun H2 e2 => ?_
    refine q_fld (ev_var rfl) (ev_var rfl) upd_same cl (na _ (by decide +kernel)) (show 2 < 1000 by decide) fun H3 e3 => ?_
    refine q_fld (ev_var rfl) (ev_var rfl) upd_same cl (na _ (by decide +kernel)) (show 3 < 1000 by decide) fun H4 e4 => ?_
    refine q_fld (ev_var rfl) (ev_var rfl) upd_same cl (na _ (by decide +kernel)) (show 4 < 1000 by decide) fun H5 e5 => ?_
    refine q_fld (ev_var rfl) (ev_var rfl) upd_same cl (na _ (by decide +kernel)) (show 5 < 1000 by decide) fun H6 e6 => ?_
    refine s_fld ev_c (ev_var rfl) upd_same cl (na _ (by decide +kernel)) (show 6 < 1000 by decide) fun H7 e7 => ?_
    refine k _ upd_same ?_
    exact ((((((((ExB.of e1).upd.trans (.of e2)).upd.trans (.of e3)).upd.trans (.of e4)).upd.trans (.of e5)).upd.trans (.of e6)).upd.trans (.of e7)).upd)
theorem ok_CarWay_init (T : TX K mg) : Fp P w K mg base 2 ("CarWay", some "__init__") ["self", "name", "start", "end", "off", "near", "least"] (spWayInit K "car") := by
  refine Fp.of T.f_CarWay_init sc_CarWay_init (fun _ _ _ _ _ _ us hl => match us, hl with | [_, _, _, _, _, _, _], _ => rfl) (fun vs H Q E h => ?_) (fun cdv A outer s H vs Q E hr h => ?_)
  · obtain ⟨_, _, _, _, _, _, _, _, _, rfl, _⟩ := h; rfl
  · obtain ⟨p, C, dx, nm, s, e, o, n, l, rfl, hp, cl, na, k⟩ := h
    refine ⟨_, (pss_cons (ps_expr (pe_cf T.way_cf T.g_Way (ok_Way_init T) (hr.mono (by decide)) (pa_cons (pv 0) (pa_cons (pv 1) (pa_cons (pv 2) (pa_cons (pv 3) (pa_cons (pv 4) (pa_cons (pv 5) (pa_cons (pv 6) pa_nil)))))))))
  (pss_one (ps_fld (pv 0) pe_str rfl))), ?_⟩
    refine q_dropCall (ea_cons (ev_var rfl) (ea_cons (ev_var rfl) (ea_cons (ev_var rfl) (ea_cons (ev_var rfl) (ea_cons (ev_var rfl) (ea_cons (ev_var rfl) (ea_cons (ev_var rfl) ea_nil))))))) fun H1 e1 => ⟨p, C, dx, nm, s, e, o, n, l, rfl, e1 _ _ hp, cl, na, fun H2 h2 x2 => ?_⟩
    refine s_fld ev_c (ev_var rfl) h2 cl (na _ (by decide +kernel)) (show 7 < 1000 by decide) fun H3 e3 => ?_
    exact k _ upd_same ((((ExB.of e1).trans x2).trans (.of e3)).upd)
theorem ok_FootWay_init (T : TX K mg) : Fp P w K mg base 2 ("FootWay", some "__init__") ["self", "name", "start", "end", "off", "near", "least"] (spWayInit K "foot") := by
  refine Fp.of T.f_FootWay_init sc_FootWay_init (fun _ _ _ _ _ _ us hl => match us, hl with | [_, _, _, _, _, _, _], _ => rfl) (fun vs H Q E h => ?_) (fun cdv A outer s H vs Q E hr h => ?_)
  · obtain ⟨_, _, _, _, _, _, _, _, _, rfl, _⟩ := h; rfl
  · obtain ⟨p, C, dx, nm, s, e, o, n, l, rfl, hp, cl, na, k⟩ := h
    refine ⟨_, (pss_cons (ps_expr (pe_cf T.way_cf T.g_Way (ok_Way_init T) (hr.mono (by decide)) (pa_cons (pv 0) (pa_cons (pv 1) (pa_cons (pv 2) (pa_cons (pv 3) (pa_cons (pv 4) (pa_cons (pv 5) (pa_cons (pv 6) pa_nil)))))))))
  (pss_one (ps_fld (pv 0) pe_str rfl))), ?_⟩
    refine q_dropCall (ea_cons (ev_var rfl) (ea_cons (ev_var rfl) (ea_cons (ev_var rfl) (ea_cons (ev_var rfl) (ea_cons (ev_var rfl) (ea_cons (ev_var rfl) (ea_cons (ev_var rfl) ea_nil))))))) fun H1 e1 => ⟨p, C, dx, nm, s, e, o, n, l, rfl, e1 _ _ hp, cl, na, fun H2 h2 x2 => ?_⟩
    refine s_fld ev_c (ev_var rfl) h2 cl (na _ (by decide +kernel)) (show 7 < 1000 by decide) fun H3 e3 => ?_
    exact k _ upd_same ((((ExB.of e1).trans x2).trans (.of e3)).upd)
theorem ok_TramWay_init (T : TX K mg) : Fp P w K mg base 2 ("TramWay", some "__init__") ["self", "name", "start", "end", "off", "near", "least"] (spWayInit K "tram") := by
  refine Fp.of T.f_TramWay_init sc_TramWay_init (fun _ _ _ _ _ _ us hl => match us, hl with | [_, _, _, _, _, _, _], _ => rfl) (fun vs H Q E h => ?_) (fun cdv A outer s H vs Q E hr h => ?_)
  · obtain ⟨_, _, _, _, _, _, _, _, _, rfl, _⟩ := h; rfl
  · obtain ⟨p, C, dx, nm, s, e, o, n, l, rfl, hp, cl, na, k⟩ := h
    refine ⟨_, (pss_cons (ps_expr (pe_cf T.way_cf T.g_Way (ok_Way_init T) (hr.mono (by decide)) (pa_cons (pv 0) (pa_cons (pv 1) (pa_cons (pv 2) (pa_cons (pv 3) (pa_cons (pv 4) (pa_cons (pv 5) (pa_cons (pv 6) pa_nil)))))))))
  (pss_one (ps_fld (pv 0) pe_str rfl))), ?_⟩
    refine q_dropCall (ea_cons (ev_var rfl) (ea_cons (ev_var rfl) (ea_cons (ev_var rfl) (ea_cons (ev_var rfl) (ea_cons (ev_var rfl) (ea_cons (ev_var rfl) (ea_cons (ev_var rfl) ea_nil))))))) fun H1 e1 => ⟨p, C, dx, nm, s, e, o, n, l, rfl, e1 _ _ hp, cl, na, fun H2 h2 x2 => ?_⟩
    refine s_fld ev_c (ev_var rfl) h2 cl (na _ (by decide +kernel)) (show 7 < 1000 by decide) fun H3 e3 => ?_
    exact k _ upd_same ((((ExB.of e1).trans x2).trans (.of e3)).upd)
def spConst (n : Int) : Sp := fun vs H Q _ => ∃ p : Addr, vs = [.ref p] ∧ Q (.int n) H
def spOff (K : PySem.W.Frag) : Sp := fun vs H Q _ => ∃ (p dx : Addr) (w : WayD), vs = [.ref p] ∧ H p = some (.ins (He.ga K "FootWay") dx (wayF w)) ∧ Q (.int w.off) H
theorem ok_Way_ready (T : TX K mg) : Fp P w K mg base 1 ("CarWay", some "ready") ["self"] (spConst 1) := by
  refine Fp.of T.f_Way_ready sc_Way_ready (fun _ _ _ _ _ _ us hl => match us, hl with | [_], _ => rfl) (fun vs H Q E h => ?_) (fun cdv A outer s H vs Q E hr h => ?_)
  · obtain ⟨_, rfl, _⟩ := h; rfl
  · obtain ⟨p, rfl, k⟩ := h
    exact ⟨_, (pss_one (ps_ret pe_int)), k⟩
theorem ok_Way_fade (T : TX K mg) : Fp P w K mg base 1 ("TramWay", some "fade") ["self"] (spConst 1) := by
  refine Fp.of T.f_Way_fade sc_Way_fade (fun _ _ _ _ _ _ us hl => match us, hl with | [_], _ => rfl) (fun vs H Q E h => ?_) (fun cdv A outer s H vs Q E hr h => ?_)
  · obtain ⟨_, rfl, _⟩ := h; rfl
  · obtain ⟨p, rfl, k⟩ := h
    exact ⟨_, (pss_one (ps_ret pe_int)), k⟩
theorem ok_CarWay_fade (T : TX K mg) : Fp P w K mg base 1 ("CarWay", some "fade") ["self"] (spConst 2) := by
  refine Fp.of T.f_CarWay_fade sc_CarWay_fade (fun _ _ _ _ _ _ us hl => match us, hl with | [_], _ => rfl) (fun vs H Q E h => ?_) (fun cdv A outer s H vs Q E hr h => ?_)
  · obtain ⟨_, rfl, _⟩ := h; rfl
  · obtain ⟨p, rfl, k⟩ := h
    exact ⟨_, (pss_one (ps_ret pe_int)), k⟩
theorem ok_FootWay_ready (T : TX K mg) : Fp P w K mg base 1 ("FootWay", some "ready") ["self"] (spConst 0) := by
  refine Fp.of T.f_FootWay_ready sc_FootWay_ready (fun _ _ _ _ _ _ us hl => match us, hl with | [_], _ => rfl) (fun vs H Q E h => ?_) (fun cdv A outer s H vs Q E hr h => ?_)
  · obtain ⟨_, rfl, _⟩ := h; rfl
  · obtain ⟨p, rfl, k⟩ := h
    exact ⟨_, (pss_one (ps_ret pe_int)), k⟩
theorem ok_TramWay_ready (T : TX K mg) : Fp P w K mg base 1 ("TramWay", some "ready") ["self"] (spConst 2) := by
  refine Fp.of T.f_TramWay_ready sc_TramWay_ready (fun _ _ _ _ _ _ us hl => match us, hl with | [_], _ => rfl) (fun vs H Q E h => ?_) (fun cdv A outer s H vs Q E hr h => ?_)
  · obtain ⟨_, rfl, _⟩ := h; rfl
  · obtain ⟨p, rfl, k⟩ := h
    exact ⟨_, (pss_one (ps_ret pe_int)), k⟩
theorem ok_FootWay_fade (T : TX K mg) : Fp P w K mg base 1 ("FootWay", some "fade") ["self"] (spOff K) := by
  refine Fp.of T.f_FootWay_fade sc_FootWay_fade (fun _ _ _ _ _ _ us hl => match us, hl with | [_], _ => rfl) (fun vs H Q E h => ?_) (fun cdv A outer s H vs Q E hr h => ?_)
  · obtain ⟨_, _, _, rfl, _⟩ := h; rfl
  · obtain ⟨p, dx, w, rfl, hp, k⟩ := h
    refine ⟨_, (pss_one (ps_ret (pe_fld (pv 0) rfl))), ?_⟩
    exact ⟨_, rfl, p, _, dx, _, _, rfl, hp, T.cl_FootWay, T.no_FootWay_off, rfl, k⟩
/-- a way stands at p -/
def WayAt (K : PySem.W.Frag) (w : WayD) (p : Addr) (H : Hp) : Prop := w.sort < 3 ∧ ∃ dx, H p = some (.ins (He.ga K (clsS w.sort)) dx (wayF w))
theorem WayAt.up {K : PySem.W.Frag} {w : WayD} {p : Addr} {H H' : Hp} (h : WayAt K w p H) (e : Ex H H') : WayAt K w p H' := ⟨h.1, let ⟨dx, h⟩ := h.2; ⟨dx, e _ _ h⟩⟩
/-- a class of ways -/
structure WayCls (K : PySem.W.Frag) (C : Addr) : Prop where
  cl : Cls K C
  na : ∀ f ∈ wayFs, NoAttr K C f
theorem allFs {Pq : Str → Prop} (h1 : Pq "name") (h2 : Pq "start") (h3 : Pq "end") (h4 : Pq "off") (h5 : Pq "near") (h6 : Pq "least") (h7 : Pq "kind") : ∀ f ∈ wayFs, Pq f := by
  intro f hf
  simp only [wayFs, List.mem_cons, List.not_mem_nil, or_false] at hf
  rcases hf with e | e | e | e | e | e | e <;> (subst e; assumption)
theorem TX.wcls (T : TX K mg) : ∀ n, n < 3 → WayCls K (He.ga K (clsS n))
  | 0, _ => ⟨T.cl_CarWay, allFs T.no_CarWay_name T.no_CarWay_start T.no_CarWay_end T.no_CarWay_off T.no_CarWay_near T.no_CarWay_least T.no_CarWay_kind⟩
  | 1, _ => ⟨T.cl_FootWay, allFs T.no_FootWay_name T.no_FootWay_start T.no_FootWay_end T.no_FootWay_off T.no_FootWay_near T.no_FootWay_least T.no_FootWay_kind⟩
  | 2, _ => ⟨T.cl_TramWay, allFs T.no_TramWay_name T.no_TramWay_start T.no_TramWay_end T.no_TramWay_off T.no_TramWay_near T.no_TramWay_least T.no_TramWay_kind⟩
/-- o.f of a way -/
theorem ev_wf (T : TX K mg) {σ : L2.St} {H : Hp} {ta : TE} {a : Addr} {wy : WayD} {f : Str} {v : V} (h : Ev ta σ H (.ref a)) (ho : WayAt K wy a H) (hf : f ∈ wayFs) (hl : (wayF wy).lookup f = some v) : Ev (tFld K ta f) σ H v := by
  obtain ⟨h3, dx, hp⟩ := ho
  have c := T.wcls _ h3
  exact ev_fld h hp c.cl (c.na f hf) hl
theorem ep_wmake {σ : L2.St} {H : Hp} {C : Addr} {kd nm : Str} {s e o n l : Int} {ta : TA} (cl : WayCls K C) (h : EvA ta σ H [.str nm, .int s, .int e, .int o, .int n, .int l]) :
    EvP (tMake C (spWayInit K kd) [] E0 ta) σ H (fun v H' => ∃ p dx, v = .ref p ∧ H' p = some (.ins C dx (wayF0 nm s e o n l kd))) := fun H1 e1 Q q => h H1 e1 _ fun H2 e2 => fun x dx nx nd ne =>
  ⟨x, C, dx, nm, s, e, o, n, l, rfl, upd_same, cl.cl, cl.na, fun H' hx ex => ⟨rfl, q _ H' (e2.trans fun b u hb => ex b u (ne_of_none hb nx) (by rw [upd_ne (ne_of_none hb nx), upd_ne (ne_of_none hb nd)]; exact hb)) ⟨x, dx, rfl, hx⟩⟩⟩
def spMade (K : PySem.W.Frag) : Sp := fun vs H Q _ => ∃ (a : Addr) (wy : WayD), vs = [.str (kindS wy.sort), .str wy.name, .ref a] ∧ wy.sort < 3 ∧ H a = some (.lst [.int wy.start, .int wy.end_, .int wy.off, .int wy.near, .int wy.least]) ∧ RetP (fun v H' => ∃ p, v = .ref p ∧ WayAt K wy p H') H Q
theorem ok_made_way (T : TX K mg) : Fp P w K mg base 4 ("made_way", none) ["sort", "name", "numbers"] (spMade K) := by
  refine Fp.of T.f_made_way sc_made_way (fun _ _ _ _ _ _ us hl => match us, hl with | [_, _, _], _ => rfl) (fun vs H Q E h => ?_) (fun cdv A outer s H vs Q E hr h => ?_)
  · obtain ⟨_, _, rfl, _⟩ := h; rfl
  · obtain ⟨a, wy, rfl, h3, ha, k⟩ := h
    refine ⟨_, (pss_cons (ps_if (pt_cmpR op_eq (pv 0) pe_str (nomark _)) (pss_one (ps_ret (pe_mk T.m_CarWay (ok_CarWay_init T) T.g_CarWay (hr.mono (by decide)) (pa_cons (pv 1) (pa_cons (pe_ix ix_list (pv 2) pe_int (fun _ _ => rfl)) (pa_cons (pe_ix ix_list (pv 2) pe_int (fun _ _ => rfl)) (pa_cons (pe_ix ix_list (pv 2) pe_int (fun _ _ => rfl)) (pa_cons (pe_ix ix_list (pv 2) pe_int (fun _ _ => rfl)) (pa_cons (pe_ix ix_list (pv 2) pe_int (fun _ _ => rfl)) pa_nil))))))))) pss_nil)
  (pss_cons (ps_if (pt_cmpR op_eq (pv 0) pe_str (nomark _)) (pss_one (ps_ret (pe_mk T.m_FootWay (ok_FootWay_init T) T.g_FootWay (hr.mono (by decide)) (pa_cons (pv 1) (pa_cons (pe_ix ix_list (pv 2) pe_int (fun _ _ => rfl)) (pa_cons (pe_ix ix_list (pv 2) pe_int (fun _ _ => rfl)) (pa_cons (pe_ix ix_list (pv 2) pe_int (fun _ _ => rfl)) (pa_cons (pe_ix ix_list (pv 2) pe_int (fun _ _ => rfl)) (pa_cons (pe_ix ix_list (pv 2) pe_int (fun _ _ => rfl)) pa_nil))))))))) pss_nil)
  (pss_one (ps_ret (pe_mk T.m_TramWay (ok_TramWay_init T) T.g_TramWay (hr.mono (by decide)) (pa_cons (pv 1) (pa_cons (pe_ix ix_list (pv 2) pe_int (fun _ _ => rfl)) (pa_cons (pe_ix ix_list (pv 2) pe_int (fun _ _ => rfl)) (pa_cons (pe_ix ix_list (pv 2) pe_int (fun _ _ => rfl)) (pa_cons (pe_ix ix_list (pv 2) pe_int (fun _ _ => rfl)) (pa_cons (pe_ix ix_list (pv 2) pe_int (fun _ _ => rfl)) pa_nil))))))))))), ?_⟩
    have hl : ∀ H1, Ex H H1 → SqL K H1 a [.int wy.start, .int wy.end_, .int wy.off, .int wy.near, .int wy.least] := fun H1 e1 => SqL.lst (e1 _ _ ha)
    refine q_when (et_test (ev_op (ev_var rfl) ev_c (rv_eq rfl))) (fun hb H1 e1 => ?_) (fun hb H1 e1 => ?_)
    · have e0 : wy.sort = 0 := by
        have : wy.sort = 0 ∨ wy.sort = 1 ∨ wy.sort = 2 := by omega
        rcases this with e | e | e
        · exact e
        · rw [e] at hb; exact absurd hb (by decide +kernel)
        · rw [e] at hb; exact absurd hb (by decide +kernel)
      refine s_retP (ep_wmake (T.wcls 0 (by decide)) (ea_cons (ev_var rfl) (ea_cons (ev_op (ev_var rfl) ev_c (rv_ixL (i := 0) (hl H1 e1) rfl)) (ea_cons (ev_op (ev_var rfl) ev_c (rv_ixL (i := 1) (hl H1 e1) rfl)) (ea_cons (ev_op (ev_var rfl) ev_c (rv_ixL (i := 2) (hl H1 e1) rfl)) (ea_cons (ev_op (ev_var rfl) ev_c (rv_ixL (i := 3) (hl H1 e1) rfl)) (ea_cons (ev_op (ev_var rfl) ev_c (rv_ixL (i := 4) (hl H1 e1) rfl)) ea_nil))))))) fun v H2 e2 r => ?_
      obtain ⟨p, dx, rfl, hp⟩ := r
      exact k _ _ (e1.trans e2) ⟨p, rfl, h3, dx, by unfold wayF; rw [e0]; exact hp⟩
    · have n0 : wy.sort ≠ 0 := fun e => by
        rw [e] at hb; exact absurd hb (by decide +kernel)
      refine q_when (et_test (ev_op (ev_var rfl) ev_c (rv_eq rfl))) (fun hb2 H2 e2 => ?_) (fun hb2 H2 e2 => ?_)
      · have e0 : wy.sort = 1 := by
          have : wy.sort = 1 ∨ wy.sort = 2 := by omega
          rcases this with e | e
          · exact e
          · rw [e] at hb2; exact absurd hb2 (by decide +kernel)
        refine s_retP (ep_wmake (T.wcls 1 (by decide)) (ea_cons (ev_var rfl) (ea_cons (ev_op (ev_var rfl) ev_c (rv_ixL (i := 0) (hl H2 (e1.trans e2)) rfl)) (ea_cons (ev_op (ev_var rfl) ev_c (rv_ixL (i := 1) (hl H2 (e1.trans e2)) rfl)) (ea_cons (ev_op (ev_var rfl) ev_c (rv_ixL (i := 2) (hl H2 (e1.trans e2)) rfl)) (ea_cons (ev_op (ev_var rfl) ev_c (rv_ixL (i := 3) (hl H2 (e1.trans e2)) rfl)) (ea_cons (ev_op (ev_var rfl) ev_c (rv_ixL (i := 4) (hl H2 (e1.trans e2)) rfl)) ea_nil))))))) fun v H3 e3 r => ?_
        obtain ⟨p, dx, rfl, hp⟩ := r
        exact k _ _ ((e1.trans e2).trans e3) ⟨p, rfl, h3, dx, by unfold wayF; rw [e0]; exact hp⟩
      · have e0 : wy.sort = 2 := by
          have n1 : wy.sort ≠ 1 := fun e => by
            rw [e] at hb2; exact absurd hb2 (by decide +kernel)
          omega
        refine s_retP (ep_wmake (T.wcls 2 (by decide)) (ea_cons (ev_var rfl) (ea_cons (ev_op (ev_var rfl) ev_c (rv_ixL (i := 0) (hl H2 (e1.trans e2)) rfl)) (ea_cons (ev_op (ev_var rfl) ev_c (rv_ixL (i := 1) (hl H2 (e1.trans e2)) rfl)) (ea_cons (ev_op (ev_var rfl) ev_c (rv_ixL (i := 2) (hl H2 (e1.trans e2)) rfl)) (ea_cons (ev_op (ev_var rfl) ev_c (rv_ixL (i := 3) (hl H2 (e1.trans e2)) rfl)) (ea_cons (ev_op (ev_var rfl) ev_c (rv_ixL (i := 4) (hl H2 (e1.trans e2)) rfl)) ea_nil))))))) fun v H3 e3 r => ?_
        obtain ⟨p, dx, rfl, hp⟩ := r
        exact k _ _ ((e1.trans e2).trans e3) ⟨p, rfl, h3, dx, by unfold wayF; rw [e0]; exact hp⟩
/-! ### crossings -/
def AllAt {α : Type} (R : α → Addr → Hp → Prop) (H : Hp) (as : List Addr) (xs : List α) : Prop := as.length = xs.length ∧ ∀ (i : Nat) (a : Addr) (x : α), as[i]? = some a → xs[i]? = some x → R x a H
theorem AllAt.get {α : Type} {R : α → Addr → Hp → Prop} {H : Hp} {as : List Addr} {xs : List α} (h : AllAt R H as xs) {i : Nat} {x : α} (hx : xs[i]? = some x) : ∃ a, as[i]? = some a ∧ R x a H := by
  have hi : i < as.length := by
    rw [h.1]
    exact (List.getElem?_eq_some_iff.mp hx).1
  exact ⟨as[i], List.getElem?_eq_getElem hi, h.2 i _ x (List.getElem?_eq_getElem hi) hx⟩
theorem AllAt.imp {α : Type} {R : α → Addr → Hp → Prop} {H H' : Hp} {as : List Addr} {xs : List α} (h : AllAt R H as xs) (f : ∀ x a, R x a H → R x a H') : AllAt R H' as xs := ⟨h.1, fun i a x ha hx => f x a (h.2 i a x ha hx)⟩
theorem AllAt.nil {α : Type} {R : α → Addr → Hp → Prop} {H : Hp} : AllAt R H [] ([] : List α) := ⟨rfl, fun i a x h => by cases h⟩
theorem AllAt.snoc {α : Type} {R : α → Addr → Hp → Prop} {H : Hp} {as : List Addr} {xs : List α} (h : AllAt R H as xs) {a : Addr} {x : α} (r : R x a H) : AllAt R H (as ++ [a]) (xs ++ [x]) := by
  refine ⟨by simp [h.1], fun i b y hb hy => ?_⟩
  by_cases hi : i < as.length
  · rw [List.getElem?_append_left hi] at hb
    rw [List.getElem?_append_left (by rw [← h.1]; exact hi)] at hy
    exact h.2 i b y hb hy
  · rw [List.getElem?_append_right (by omega)] at hb
    rw [List.getElem?_append_right (by rw [← h.1]; omega), ← h.1] at hy
    cases hk : i - as.length with
    | zero =>
      rw [hk] at hb hy
      have e1 : a = b := Option.some.inj hb
      have e2 : x = y := Option.some.inj hy
      rw [← e1, ← e2]
      exact r
    | succ n =>
      rw [hk] at hb
      cases hb
def crF (pl : Int) (l : Addr) : List (Str × V) := [("places", .int pl), ("own_ways", .ref l)]
def CrossAt (K : PySem.W.Frag) (pl : Int) (ws : List WayD) (p : Addr) (H : Hp) : Prop := ∃ (dx l : Addr) (as : List Addr), H p = some (.ins (He.ga K "Crossing") dx (crF pl l)) ∧ H l = some (.lst (as.map V.ref)) ∧ AllAt (WayAt K) H as ws
theorem CrossAt.up {K : PySem.W.Frag} {pl : Int} {ws : List WayD} {p : Addr} {H H' : Hp} (h : CrossAt K pl ws p H) (e : Ex H H') : CrossAt K pl ws p H' := by
  obtain ⟨dx, l, as, h1, h2, h3⟩ := h
  exact ⟨dx, l, as, e _ _ h1, e _ _ h2, h3.imp fun _ _ z => z.up e⟩
def spCrossInit (K : PySem.W.Frag) : Sp := fun vs H Q _ => ∃ (p dx a : Addr) (pl : Int) (as : List Addr), vs = [.ref p, .int pl, .ref a] ∧ H p = some (.ins (He.ga K "Crossing") dx []) ∧ H a = some (.lst (as.map V.ref)) ∧
  ∀ H' l, H' p = some (.ins (He.ga K "Crossing") dx (crF pl l)) → H' l = some (.lst (as.map V.ref)) → ExB p H H' → Q .non H'
theorem ok_Crossing_init (T : TX K mg) : Fp P w K mg base 1 ("Crossing", some "__init__") ["self", "places", "ways"] (spCrossInit K) := by
  refine Fp.of T.f_Crossing_init sc_Crossing_init (fun _ _ _ _ _ _ us hl => match us, hl with | [_, _, _], _ => rfl) (fun vs H Q E h => ?_) (fun cdv A outer s H vs Q E hr h => ?_)
  · obtain ⟨_, _, _, _, _, rfl, _⟩ := h; rfl
  · obtain ⟨p, dx, a, pl, as, rfl, hp, ha, k⟩ := h
    refine ⟨_, (pss_cons (ps_fld (pv 0) (pv 1) rfl)
  (pss_one (ps_fld (pv 0) (pe_callTy call_list_of (by rfl) T.free_list (by decide +kernel) (pa_cons (pv 2) pa_nil)) rfl))), ?_⟩
    have nap : a ≠ p := ne_of ha hp (by intro z; cases z)
    refine q_fld (ev_var rfl) (ev_var rfl) hp T.cl_Crossing T.no_Crossing_places (by decide) fun H1 e1 => ?_
    have ha1 : (upd H1 p (.ins (He.ga K "Crossing") dx (putF "places" (.int pl) []))) a = some (.lst (as.map V.ref)) := by
      rw [upd_ne nap]
      exact e1 _ _ ha
    refine s_fldP (ep_l (el_list (ev_var rfl) (SqL.lst ha1))) (ev_var rfl) upd_same T.cl_Crossing T.no_Crossing_own_ways (show 1 < 1000 by decide) fun v H2 e2 r => ?_
    obtain ⟨H0, f1, f2, l, rfl, hl, hl0⟩ := r
    have npl : l ≠ p := fun z => by
      subst z
      rw [upd_same] at hl
      cases hl
    exact k _ l upd_same (by rw [upd_ne npl]; exact f2 _ _ hl0) (((ExB.of e1).upd.trans (.of e2)).upd)
def spNumber (K : PySem.W.Frag) : Sp := fun vs H Q _ => ∃ (p : Addr) (pl : Int) (ws : List WayD) (wy : WayD) (i : Nat), vs = [.ref p, .str wy.name] ∧ CrossAt K pl ws p H ∧ ws[i]? = some wy ∧ (∀ (j : Nat) (v : WayD), j < i → ws[j]? = some v → v.name ≠ wy.name) ∧ RetV (.int (i : Int)) H Q
theorem ok_Crossing_number (T : TX K mg) : Fp P w K mg base 1 ("Crossing", some "number") ["self", "name"] (spNumber K) := by
  refine Fp.of T.f_Crossing_number sc_Crossing_number (fun _ _ _ _ _ _ us hl => match us, hl with | [_, _], _ => rfl) (fun vs H Q E h => ?_) (fun cdv A outer s H vs Q E hr h => ?_)
  · obtain ⟨_, _, _, _, _, rfl, _⟩ := h; rfl
  · obtain ⟨p, pl, ws, wy, i, rfl, ⟨dx, l, as, h1, h2, h3⟩, hi, hno, k⟩ := h
    refine ⟨_, (pss_cons (ps_for PassesOwn.never rfl (pi_enum (by rfl) T.free_enumerate (pa_cons (pe_fld (pv 0) rfl) pa_nil)) (pg_tup rfl (pgs_cons (pg_name (i := 2) sc_Crossing_number.nd rfl (Or.inl rfl)) (pgs_cons (pg_name (i := 3) sc_Crossing_number.nd rfl (Or.inl rfl)) pgs_nil))) (pss_one (ps_if (pt_cmpR op_eq (pe_fld (pv 3) rfl) (pv 1) (nomark _)) (pss_one (ps_ret (pv 2))) pss_nil)))
  (pss_one ps_never)), ?_⟩
    refine q_forE (ea_cons (ev_fld (ev_var rfl) h1 T.cl_Crossing T.no_Crossing_own_ways rfl) ea_nil) (SqL.lst h2) (fun n σ' H' => n ≤ i ∧ Ex H H' ∧ ∃ x y, σ' = [some (.ref p), some (.str wy.name), x, y])
      (fun H1 e1 => ⟨Nat.zero_le _, e1, none, none, rfl⟩) (fun n σ' H' _ hp => SqL.lst (hp.2.1 _ _ h2)) (fun n x σ' H' hx hP H1 e1 => ?_) (fun σ' H' hP => ?_)
    · obtain ⟨hn, e0, x0, y0, rfl⟩ := hP
      rw [List.getElem?_map] at hx
      obtain ⟨a, ha, rfl⟩ := Option.map_eq_some_iff.mp hx
      have hnw : n < ws.length := by
        rw [← h3.1]
        exact (List.getElem?_eq_some_iff.mp ha).1
      have hw : WayAt K ws[n] a H1 := (h3.2 n a _ ha (List.getElem?_eq_getElem hnw)).up (e0.trans e1)
      refine s_when (et_test (ev_op (ev_wf T (ev_var rfl) hw (by decide +kernel) rfl) (ev_var rfl) (rv_eq rfl))) (fun hb H2 e2 => ?_) (fun hb H2 e2 => ?_)
      · have en : n = i := by
          by_cases hlt : n < i
          · have e := V.str.inj (of_decide_eq_true hb)
            exact absurd e (hno n _ hlt (List.getElem?_eq_getElem hnw))
          · omega
        subst en
        refine s_ret (ev_var rfl) fun H3 e3 => ?_
        exact k _ (((e0.trans e1).trans e2).trans e3)
      · refine ⟨?_, (e0.trans e1).trans e2, _, _, rfl⟩
        have hne : n ≠ i := fun z => by
          subst z
          rw [List.getElem?_eq_getElem hnw] at hi
          have := Option.some.inj hi
          rw [this] at hb
          exact absurd (decide_eq_true rfl) (by rw [hb]; decide)
        omega
    · exfalso
      obtain ⟨hn, _⟩ := hP
      rw [List.length_map, h3.1] at hn
      have := (List.getElem?_eq_some_iff.mp hi).1
      omega
def spCalled (K : PySem.W.Frag) : Sp := fun vs H Q _ => ∃ (p : Addr) (pl : Int) (ws : List WayD) (wy : WayD) (i : Nat), vs = [.ref p, .str wy.name] ∧ CrossAt K pl ws p H ∧ ws[i]? = some wy ∧ (∀ (j : Nat) (v : WayD), j < i → ws[j]? = some v → v.name ≠ wy.name) ∧ RetP (fun v H' => ∃ a, v = .ref a ∧ WayAt K wy a H') H Q
theorem sp_number {p : Addr} {pl : Int} {ws : List WayD} {wy : WayD} {i : Nat} {H : Hp} (h : CrossAt K pl ws p H) (hi : ws[i]? = some wy) (hno : ∀ (j : Nat) (v : WayD), j < i → ws[j]? = some v → v.name ≠ wy.name) : SpV (spNumber K) [.ref p, .str wy.name] H (.int (i : Int)) :=
  fun H1 e Q q _ => ⟨p, pl, ws, wy, i, rfl, h.up e, hi, hno, q⟩
/-- o.m(..) as a value, of an object that stands -/
theorem ev_meth {C a dx : Addr} {m : Str} {sp : Sp} {fs : List (Str × V)} {σ : L2.St} {H : Hp} {to : TE} {ta : TA} {vs : List V} {E : XK} {z : V} (ho : Ev to σ H (.ref a)) (ha : H a = some (.ins C dx fs)) (hm : fs.lookup m = none) (h : EvA ta σ H vs) (hs : SpV sp (.ref a :: vs) H z) :
    Ev (tMeth C m sp [] E to ta) σ H z := fun H1 e Q q => ho H1 e _ fun H2 e2 => ⟨a, dx, fs, rfl, e2 _ _ (e _ _ ha), hm, h H2 (e.trans e2) _ fun H3 e3 => by
    show sp (.ref a :: (vs ++ [])) H3 Q E
    rw [List.append_nil]
    exact hs H3 ((e.trans e2).trans e3) Q (fun H4 e4 => q H4 ((e2.trans e3).trans e4)) E⟩
theorem ep_meth {C a dx : Addr} {m : Str} {sp : Sp} {fs : List (Str × V)} {σ : L2.St} {H : Hp} {to : TE} {ta : TA} {vs : List V} {E : XK} {R : V → Hp → Prop} (ho : Ev to σ H (.ref a)) (ha : H a = some (.ins C dx fs)) (hm : fs.lookup m = none) (h : EvA ta σ H vs) (hs : SpP sp (.ref a :: vs) H R) :
    EvP (tMeth C m sp [] E to ta) σ H R := fun H1 e Q q => ho H1 e _ fun H2 e2 => ⟨a, dx, fs, rfl, e2 _ _ (e _ _ ha), hm, h H2 (e.trans e2) _ fun H3 e3 => by
    show sp (.ref a :: (vs ++ [])) H3 Q E
    rw [List.append_nil]
    exact hs H3 ((e.trans e2).trans e3) Q (fun v H4 e4 r => q v H4 ((e2.trans e3).trans e4) r) E⟩
theorem ok_Crossing_called (T : TX K mg) : Fp P w K mg base 2 ("Crossing", some "called") ["self", "name"] (spCalled K) := by
  refine Fp.of T.f_Crossing_called sc_Crossing_called (fun _ _ _ _ _ _ us hl => match us, hl with | [_, _], _ => rfl) (fun vs H Q E h => ?_) (fun cdv A outer s H vs Q E hr h => ?_)
  · obtain ⟨_, _, _, _, _, rfl, _⟩ := h; rfl
  · obtain ⟨p, pl, ws, wy, i, rfl, hc, hi, hno, k⟩ := h
    refine ⟨_, (pss_one (ps_ret (pe_ix ix_list (pe_fld (pv 0) rfl) (pe_mt (c := "Crossing") (pv 0) T.cl_Crossing T.me_Crossing_number (ok_Crossing_number T) (hr.mono (by decide)) (pa_cons (pv 1) pa_nil)) (fun _ _ => rfl)))), ?_⟩
    obtain ⟨dx, l, as, h1, h2, h3⟩ := id hc
    obtain ⟨a, ha, hw⟩ := h3.get hi
    have hix : (as.map V.ref)[i]? = some (.ref a) := by rw [List.getElem?_map, ha]; rfl
    refine s_ret (ev_op (ev_fld (ev_var rfl) h1 T.cl_Crossing T.no_Crossing_own_ways rfl) (ev_meth (ev_var rfl) h1 rfl (ea_cons (ev_var rfl) ea_nil) (sp_number hc hi hno)) (rv_ixL (SqL.lst h2) (atI_nat hix))) fun H1 e1 => ?_
    exact k _ _ e1 ⟨a, rfl, hw.up e1⟩
theorem sp_called {p : Addr} {pl : Int} {ws : List WayD} {wy : WayD} {i : Nat} {H : Hp} (h : CrossAt K pl ws p H) (hi : ws[i]? = some wy) (hno : ∀ (j : Nat) (v : WayD), j < i → ws[j]? = some v → v.name ≠ wy.name) : SpP (spCalled K) [.ref p, .str wy.name] H (fun v H' => ∃ a, v = .ref a ∧ WayAt K wy a H') :=
  fun H1 e Q q _ => ⟨p, pl, ws, wy, i, rfl, h.up e, hi, hno, q⟩
end
end Lw


set_option Elab.async false
set_option linter.all false
set_option maxRecDepth 100000
set_option maxHeartbeats 4000000
namespace Lw
open PySem PySem.Spec PyProof.Rows L2 Evl
/-! ### who meets whom -/
theorem inV_int (x : Int) (ns : List Int) : inV (.int x) (ns.map V.int) = decide (x ∈ ns) := by
  unfold inV
  rw [List.any_map]
  have : ((fun y => eqV y (V.int x)) ∘ V.int) = fun y => y == x := by
    funext y
    rfl
  rw [this]
  by_cases h : x ∈ ns
  · rw [decide_eq_true h]
    exact List.any_eq_true.mpr ⟨x, h, beq_self_eq_true x⟩
  · rw [decide_eq_false h]
    refine Bool.eq_false_iff.mpr fun z => h ?_
    obtain ⟨y, hy, e⟩ := List.any_eq_true.mp z
    have := eq_of_beq e
    exact this ▸ hy
theorem flat_int (ns : List Int) : (ns.map V.int).all flatV = true := by
  rw [List.all_map]
  exact List.all_eq_true.mpr fun _ _ => rfl
def farOf (pl : Int) (a : WayD) (x : Int) : Int := (x - a.start) % pl
/-- the law's own reading -/
def isMet (pl : Int) (a b : WayD) : Bool :=
  if a.end_ = b.end_ then true
  else if (a.start = b.start ∨ a.start = b.end_) ∨ a.end_ = b.start then false
  else decide (farOf pl a b.start < farOf pl a a.end_) != decide (farOf pl a b.end_ < farOf pl a a.end_)
/-- a way upon its ring -/
structure WayOk (pl : Int) (a : WayD) : Prop where
  s0 : 0 ≤ a.start
  s1 : a.start < pl
  e0 : 0 ≤ a.end_
  e1 : a.end_ < pl
  ne : a.start ≠ a.end_
theorem em (pl x y : Int) (hx0 : 0 ≤ x) (hx1 : x < pl) (hy0 : 0 ≤ y) (hy1 : y < pl) : (x - y) % pl = if y ≤ x then x - y else x - y + pl := by
  by_cases h : y ≤ x
  · rw [if_pos h, Int.emod_eq_of_lt (by omega) (by omega)]
  · rw [if_neg h]
    have : (x - y) % pl = (x - y + pl) % pl := by simp
    rw [this, Int.emod_eq_of_lt (by omega) (by omega)]
theorem dd {A B C D : Prop} [Decidable A] [Decidable B] [Decidable C] [Decidable D] (h : (A ↔ B) ↔ (C ↔ D)) : (decide A != decide B) = (decide C != decide D) := by
  by_cases a : A <;> by_cases b : B <;> by_cases c : C <;> by_cases d : D <;> simp_all
theorem isMet_swap {pl : Int} {a b : WayD} (ha : WayOk pl a) (hb : WayOk pl b) : isMet pl a b = isMet pl b a := by
  obtain ⟨a1, a2, a3, a4, a5⟩ := ha
  obtain ⟨b1, b2, b3, b4, b5⟩ := hb
  unfold isMet farOf
  rw [em pl b.start a.start (by omega) (by omega) (by omega) (by omega), em pl a.end_ a.start (by omega) (by omega) (by omega) (by omega), em pl b.end_ a.start (by omega) (by omega) (by omega) (by omega),
    em pl a.start b.start (by omega) (by omega) (by omega) (by omega), em pl b.end_ b.start (by omega) (by omega) (by omega) (by omega), em pl a.end_ b.start (by omega) (by omega) (by omega) (by omega)]
  generalize a.start = p at *
  generalize a.end_ = q at *
  generalize b.start = r at *
  generalize b.end_ = s at *
  by_cases e1 : q = s
  · rw [if_pos e1, if_pos e1.symm]
  · rw [if_neg e1, if_neg (Ne.symm e1)]
    by_cases e2 : (p = r ∨ p = s) ∨ q = r
    · have e3 : (r = p ∨ r = q) ∨ s = p := by omega
      rw [if_pos e2, if_pos e3]
    · have e3 : ¬ ((r = p ∨ r = q) ∨ s = p) := by omega
      rw [if_neg e2, if_neg e3]
      refine dd ?_
      by_cases h1 : p ≤ q <;> by_cases h2 : p ≤ r <;> by_cases h3 : p ≤ s <;> by_cases h4 : r ≤ s <;>
        (simp only [h1, h2, h3, h4, if_true, if_false]; split <;> split <;> omega)
/-- the places strictly between -/
def bowN (pl : Int) (a : WayD) : Nat := (farOf pl a a.end_).toNat - 1
def bowL (pl : Int) (a : WayD) (k : Nat) : List Int := (List.range k).map fun m : Nat => (a.start + 1 + (m : Int)) % pl
theorem bow_far {pl : Int} {a : WayD} (ha : WayOk pl a) : 1 ≤ farOf pl a a.end_ ∧ farOf pl a a.end_ < pl := by
  obtain ⟨a1, a2, a3, a4, a5⟩ := ha
  unfold farOf
  rw [em pl a.end_ a.start (by omega) (by omega) (by omega) (by omega)]
  split <;> omega
theorem bow_at {pl : Int} {a : WayD} (ha : WayOk pl a) {k : Nat} (hk : (k : Int) + 1 ≤ farOf pl a a.end_) {x : Int} (hx0 : 0 ≤ x) (hx1 : x < pl) : (a.start + 1 + (k : Int)) % pl = x ↔ farOf pl a x = (k : Int) + 1 := by
  have hf := bow_far ha
  obtain ⟨a1, a2, a3, a4, a5⟩ := ha
  unfold farOf at *
  rw [em pl a.end_ a.start (by omega) (by omega) (by omega) (by omega)] at hk hf
  rw [em pl x a.start (by omega) (by omega) (by omega) (by omega)]
  have e : (a.start + 1 + (k : Int)) % pl = if a.start + 1 + (k : Int) < pl then a.start + 1 + (k : Int) else a.start + 1 + (k : Int) - pl := by
    by_cases h : a.start + 1 + (k : Int) < pl
    · rw [if_pos h, Int.emod_eq_of_lt (by omega) (by omega)]
    · rw [if_neg h]
      have : (a.start + 1 + (k : Int)) % pl = (a.start + 1 + (k : Int) - pl) % pl := by simp
      rw [this, Int.emod_eq_of_lt]
      · omega
      · split at hk <;> omega
  rw [e]
  split at hk <;> split <;> split <;> omega
theorem bow_mem {pl : Int} {a : WayD} (ha : WayOk pl a) {x : Int} (hx0 : 0 ≤ x) (hx1 : x < pl) (hne : x ≠ a.start) : decide (x ∈ bowL pl a (bowN pl a)) = decide (farOf pl a x < farOf pl a a.end_) := by
  have hf := bow_far ha
  rw [decide_eq_decide]
  unfold bowL
  rw [List.mem_map]
  constructor
  · rintro ⟨m, hm, e⟩
    rw [List.mem_range] at hm
    unfold bowN at hm
    have := (bow_at ha (k := m) (by omega) hx0 hx1).mp e
    omega
  · intro h
    have hx : 1 ≤ farOf pl a x := by
      unfold farOf
      obtain ⟨a1, a2, a3, a4, a5⟩ := ha
      rw [em pl x a.start (by omega) (by omega) (by omega) (by omega)]
      split <;> omega
    refine ⟨(farOf pl a x).toNat - 1, ?_, (bow_at ha (by omega) hx0 hx1).mpr (by omega)⟩
    rw [List.mem_range]
    unfold bowN
    omega
section
variable {P : Program} {w : World} {K : PySem.W.Frag} {mg : Str → Option Value} {base : Heap}
def spBow (K : PySem.W.Frag) : Sp := fun vs H Q _ => ∃ (p : Addr) (a : WayD) (pl : Int), vs = [.ref p, .int pl] ∧ WayAt K a p H ∧ WayOk pl a ∧ pl ≤ 1000 ∧ RetL ((bowL pl a (bowN pl a)).map V.int) H Q
theorem ok_bow (T : TX K mg) : Fp P w K mg base 1 ("bow", none) ["way", "places"] (spBow K) := by
  refine Fp.of T.f_bow sc_bow (fun _ _ _ _ _ _ us hl => match us, hl with | [_, _], _ => rfl) (fun vs H Q E h => ?_) (fun cdv A outer s H vs Q E hr h => ?_)
  · obtain ⟨_, _, _, rfl, _⟩ := h; rfl
  · obtain ⟨p, a, pl, rfl, hw, ok, hpl, k⟩ := h
    have hf := bow_far ok
    have hp0 : pl ≠ 0 := by have := ok.s0; have := ok.s1; omega
    refine ⟨_, (pss_cons (ps_set (i := 2) sc_bow.nd rfl (Or.inl rfl) (pe_lst pa_nil))
  (pss_cons (ps_set (i := 3) sc_bow.nd rfl (Or.inl rfl) (pe_op op_modN (pe_op op_add (pe_fld (pv 0) rfl) pe_int) (pv 1)))
  (pss_cons (ps_while PassesOwn.never (pt_cmpR op_ne (pv 3) (pe_fld (pv 0) rfl) (nomark _)) (pss_cons (ps_expr (pe_bm PySem.F.plainAttrs_list PySem.F.slot_list_append PySem.F.type_list_append mt_append (pv 2) (pa_cons (pv 3) pa_nil)))
  (pss_one (ps_set (i := 3) sc_bow.nd rfl (Or.inl rfl) (pe_op op_modN (pe_op op_add (pv 3) pe_int) (pv 1))))))
  (pss_one (ps_ret (pv 2)))))), ?_⟩
    refine q_asgL (el_lst ea_nil (Nat.zero_le _)) fun l H1 hl e1 hl1 => ?_
    refine q_asg (ev_op (ev_op (ev_wf T (ev_var rfl) (hw.up e1) (by decide +kernel) rfl) ev_c rv_I0) (ev_var rfl) (rv_mod hp0)) fun H2 e2 => ?_
    refine q_while (fun m σ' H' => ∃ c : Nat, m = bowN pl a - c ∧ c ≤ bowN pl a ∧ Ex H H' ∧ H' l = some (.lst ((bowL pl a c).map V.int)) ∧ σ' = [some (.ref p), some (.int pl), some (.ref l), some (.int ((a.start + 1 + (c : Int)) % pl))]) (bowN pl a)
      ⟨0, rfl, Nat.zero_le _, e1.trans e2, e2 _ _ hl1, by
        rw [Int.fmod_eq_emod_of_nonneg _ (by have := ok.s0; have := ok.s1; omega), show a.start + 1 + ((0 : Nat) : Int) = a.start + 1 by omega]
        rfl⟩ fun m σ' H' hW => ?_
    obtain ⟨c, rfl, hc, e0, hl0, rfl⟩ := hW
    refine ⟨_, et_test (ev_op (ev_var rfl) (ev_wf T (ev_var rfl) (hw.up e0) (by decide +kernel) rfl) (rv_ne rfl)), fun hb H3 e3 => ?_, fun hb H3 e3 => ?_⟩
    · have hlt : c < bowN pl a := by
        by_cases h : c < bowN pl a
        · exact h
        · exfalso
          have : (a.start + 1 + (c : Int)) % pl = a.end_ := (bow_at ok (k := c) (by unfold bowN at hc; omega) ok.e0 ok.e1).mpr (by unfold bowN at *; omega)
          rw [this] at hb
          simp at hb
      refine ⟨_, fun σ2 H2 h => h, ?_⟩
      refine q_app (e3 _ _ hl0) (ev_var rfl) (ev_var rfl) (by simp [bowL]; unfold bowN at *; omega) fun H4 e4 => ?_
      refine s_asg (ev_op (ev_op (ev_var rfl) ev_c rv_I0) (ev_var rfl) (rv_mod hp0)) fun H5 e5 => ?_
      refine ⟨bowN pl a - (c + 1), by omega, c + 1, rfl, hlt, ?_, ?_, ?_⟩
      · exact (Ex.mut ((e0.trans e3).trans e4) hl).trans e5
      · rw [e5 _ _ upd_same]
        unfold bowL
        rw [List.range_succ, List.map_append, List.map_append]
        rfl
      · have : ((a.start + 1 + (c : Int)) % pl + 1).fmod pl = (a.start + 1 + ((c + 1 : Nat) : Int)) % pl := by
          rw [Int.fmod_eq_emod_of_nonneg _ (by have := ok.s0; have := ok.s1; omega), Int.emod_add_emod]
          congr 1
          omega
        rw [← this]
        rfl
    · have hce : c = bowN pl a := by
        by_cases h : c < bowN pl a
        · exfalso
          have he : (a.start + 1 + (c : Int)) % pl = a.end_ := by
            have : decide (V.int ((a.start + 1 + (c : Int)) % pl) = V.int a.end_) = true := by
              cases hq : decide (V.int ((a.start + 1 + (c : Int)) % pl) = V.int a.end_) with
              | true => rfl
              | false => rw [hq] at hb; cases hb
            exact V.int.inj (of_decide_eq_true this)
          have := (bow_at ok (k := c) (by unfold bowN at hc; omega) ok.e0 ok.e1).mp he
          unfold bowN at h
          omega
        · omega
      subst hce
      refine s_ret (ev_var rfl) fun H4 e4 => ?_
      exact k l H4 hl ((e0.trans e3).trans e4) (e4 _ _ (e3 _ _ hl0))
def spMeets (K : PySem.W.Frag) : Sp := fun vs H Q _ => ∃ (p q : Addr) (a b : WayD) (pl : Int), vs = [.ref p, .ref q, .int pl] ∧ WayAt K a p H ∧ WayAt K b q H ∧ WayOk pl a ∧ WayOk pl b ∧ pl ≤ 1000 ∧ RetV (.bl (isMet pl a b)) H Q
theorem ok_ways_meet (T : TX K mg) : Fp P w K mg base 2 ("ways_meet", none) ["way", "other", "places"] (spMeets K) := by
  refine Fp.of T.f_ways_meet sc_ways_meet (fun _ _ _ _ _ _ us hl => match us, hl with | [_, _, _], _ => rfl) (fun vs H Q E h => ?_) (fun cdv A outer s H vs Q E hr h => ?_)
  · obtain ⟨_, _, _, _, _, rfl, _⟩ := h; rfl
  · obtain ⟨p, q, a, b, pl, rfl, ha, hb, oka, okb, hpl, k⟩ := h
    refine ⟨_, (pss_cons (ps_if (pt_cmpR op_eq (pe_fld (pv 0) rfl) (pe_fld (pv 1) rfl) (nomark _)) (pss_one (ps_ret pe_bl)) pss_nil)
  (pss_cons (ps_if (PW.pt (pw_or (pt_cmpR op_in_seq (pe_fld (pv 0) rfl) (pe_tup (pa_cons (pe_fld (pv 1) rfl) (pa_cons (pe_fld (pv 1) rfl) pa_nil))) rfl) (pw_or1 (pt_cmpR op_eq (pe_fld (pv 0) rfl) (pe_fld (pv 1) rfl) (nomark _))))) (pss_one (ps_ret pe_bl)) pss_nil)
  (pss_cons (ps_set (i := 3) sc_ways_meet.nd rfl (Or.inl rfl) (pe_f (ok_bow T) T.g_bow (hr.mono (by decide)) (pa_cons (pv 0) (pa_cons (pv 2) pa_nil))))
  (pss_one (ps_ret (pe_cmpR op_ne (pe_cmpR op_in_seq (pe_fld (pv 1) rfl) (pv 3) rfl) (pe_cmpR op_in_seq (pe_fld (pv 1) rfl) (pv 3) rfl) (nomark _))))))), ?_⟩
    refine q_when (et_test (ev_op (ev_wf T (ev_var rfl) ha (by decide +kernel) rfl) (ev_wf T (ev_var rfl) hb (by decide +kernel) rfl) (rv_eq rfl))) (fun hc H1 e1 => ?_) (fun hc H1 e1 => ?_)
    · have e : a.end_ = b.end_ := V.int.inj (of_decide_eq_true hc)
      have r : isMet pl a b = true := by unfold isMet; rw [if_pos e]
      rw [r] at k
      exact s_ret ev_c fun H2 e2 => k _ (e1.trans e2)
    · have n1 : a.end_ ≠ b.end_ := fun e => by rw [e] at hc; simp at hc
      have ha1 := ha.up e1
      have hb1 := hb.up e1
      refine q_when (et_or (et_test (ev_inU (ev_wf T (ev_var rfl) ha1 (by decide +kernel) rfl) (eu_tup (ea_cons (ev_wf T (ev_var rfl) hb1 (by decide +kernel) rfl) (ea_cons (ev_wf T (ev_var rfl) hb1 (by decide +kernel) rfl) ea_nil)) (show 2 ≤ 100000 by decide)) rfl rfl))
        (fun _ => et_test (ev_op (ev_wf T (ev_var rfl) ha1 (by decide +kernel) rfl) (ev_wf T (ev_var rfl) hb1 (by decide +kernel) rfl) (rv_eq rfl)))) (fun hc2 H2 e2 => ?_) (fun hc2 H2 e2 => ?_)
      · have e : (a.start = b.start ∨ a.start = b.end_) ∨ a.end_ = b.start := by
          rcases Bool.or_eq_true_iff.mp hc2 with z | z
          · left
            have z2 : inV (.int a.start) ([b.start, b.end_].map V.int) = true := z
            rw [inV_int, decide_eq_true_eq] at z2
            simpa using z2
          · right
            exact V.int.inj (of_decide_eq_true z)
        have r : isMet pl a b = false := by unfold isMet; rw [if_neg n1, if_pos e]
        rw [r] at k
        exact s_ret ev_c fun H3 e3 => k _ ((e1.trans e2).trans e3)
      · have e : ¬ ((a.start = b.start ∨ a.start = b.end_) ∨ a.end_ = b.start) := by
          obtain ⟨z1, z2⟩ := Bool.or_eq_false_iff.mp hc2
          rintro (z | z)
          · have z3 : inV (.int a.start) ([b.start, b.end_].map V.int) = false := z1
            rw [inV_int, decide_eq_false_iff_not] at z3
            exact z3 (by simpa using z)
          · rw [z] at z2
            simp at z2
        have e12 := e1.trans e2
        refine q_asgL (el_call (ea_cons (ev_var rfl) (ea_cons (ev_var rfl) ea_nil)) (fun H3 e3 Q q _ => ⟨p, a, pl, rfl, (ha.up e12).up e3, oka, hpl, q⟩ : SpL (spBow K) _ H2 ((bowL pl a (bowN pl a)).map V.int))) fun l H3 _ e3 hl => ?_
        have e13 := e12.trans e3
        have m1 := bow_mem oka okb.s0 okb.s1 (fun z => e (by omega))
        have m2 := bow_mem oka okb.e0 okb.e1 (fun z => e (by omega))
        have r : isMet pl a b = (inV (.int b.start) ((bowL pl a (bowN pl a)).map V.int) != inV (.int b.end_) ((bowL pl a (bowN pl a)).map V.int)) := by
          unfold isMet
          rw [if_neg n1, if_neg e, inV_int, inV_int, m1, m2]
        refine s_ret (ev_is (ev_op (ev_op (ev_wf T (ev_var rfl) (hb.up e13) (by decide +kernel) rfl) (ev_var rfl) (rv_isL (SqL.lst hl) rfl (flat_int _))) (ev_op (ev_wf T (ev_var rfl) (hb.up e13) (by decide +kernel) rfl) (ev_var rfl) (rv_isL (SqL.lst hl) rfl (flat_int _))) (rv_ne rfl)) ?_) fun H4 e4 => k _ (e13.trans e4)
        rw [r]
        congr 1
        cases inV (.int b.start) ((bowL pl a (bowN pl a)).map V.int) <;> cases inV (.int b.end_) ((bowL pl a (bowN pl a)).map V.int) <;> rfl
/-- a want's way is at its place in the crossing, the first of its name -/
def IsWay (ws : List WayD) (wy : WayD) : Prop := ∃ i, ws[i]? = some wy ∧ ∀ (j : Nat) (v : WayD), j < i → ws[j]? = some v → v.name ≠ wy.name
def spMeet (K : PySem.W.Frag) : Sp := fun vs H Q _ => ∃ (c : Addr) (a b : WayD) (pl : Int) (ws : List WayD), vs = [.ref c, .str a.name, .str b.name] ∧ CrossAt K pl ws c H ∧ IsWay ws a ∧ IsWay ws b ∧ WayOk pl a ∧ WayOk pl b ∧ pl ≤ 1000 ∧ RetV (.bl (isMet pl a b)) H Q
theorem sp_meets {p q : Addr} {a b : WayD} {pl : Int} {H : Hp} (ha : WayAt K a p H) (hb : WayAt K b q H) (oka : WayOk pl a) (okb : WayOk pl b) (hpl : pl ≤ 1000) : SpV (spMeets K) [.ref p, .ref q, .int pl] H (.bl (isMet pl a b)) :=
  fun H1 e Q q' _ => ⟨p, q, a, b, pl, rfl, ha.up e, hb.up e, oka, okb, hpl, q'⟩
theorem up_way {wy : WayD} : Up1 (fun v H' => ∃ a, v = V.ref a ∧ WayAt K wy a H') := fun v H H' e ⟨a, h1, h2⟩ => ⟨a, h1, h2.up e⟩
theorem ep_called {c : Addr} {pl : Int} {ws : List WayD} {wy : WayD} {σ : L2.St} {H : Hp} {to : TE} {ta : TA} (ho : Ev to σ H (.ref c)) (hc : CrossAt K pl ws c H) (hw : IsWay ws wy) (h : EvA ta σ H [.str wy.name]) :
    EvP (tMeth (He.ga K "Crossing") "called" (spCalled K) [] E0 to ta) σ H (fun v H' => ∃ a, v = .ref a ∧ WayAt K wy a H') := by
  obtain ⟨i, h1, h2⟩ := hw
  obtain ⟨dx, l, as, g1, g2, g3⟩ := id hc
  exact ep_meth ho g1 rfl h (sp_called hc h1 h2)
theorem ok_meet (T : TX K mg) : Fp P w K mg base 3 ("meet", none) ["crossing", "one", "other"] (spMeet K) := by
  refine Fp.of T.f_meet sc_meet (fun _ _ _ _ _ _ us hl => match us, hl with | [_, _, _], _ => rfl) (fun vs H Q E h => ?_) (fun cdv A outer s H vs Q E hr h => ?_)
  · obtain ⟨_, _, _, _, _, rfl, _⟩ := h; rfl
  · obtain ⟨c, a, b, pl, ws, rfl, hc, wa, wb, oka, okb, hpl, k⟩ := h
    refine ⟨_, (pss_one (ps_ret (pe_f (ok_ways_meet T) T.g_ways_meet (hr.mono (by decide)) (pa_cons (pe_mt (c := "Crossing") (pv 0) T.cl_Crossing T.me_Crossing_called (ok_Crossing_called T) (hr.mono (by decide)) (pa_cons (pv 1) pa_nil)) (pa_cons (pe_mt (c := "Crossing") (pv 0) T.cl_Crossing T.me_Crossing_called (ok_Crossing_called T) (hr.mono (by decide)) (pa_cons (pv 2) pa_nil)) (pa_cons (pe_fld (pv 0) rfl) pa_nil)))))), ?_⟩
    obtain ⟨dx, l, as, g1, g2, g3⟩ := id hc
    refine s_ret (ev_ep (ep_callP (ap_cons (ep_called (ev_var rfl) hc wa (ea_cons (ev_var rfl) ea_nil)) up_way (ap_cons (ep_called (ev_var rfl) hc wb (ea_cons (ev_var rfl) ea_nil)) up_way (ap_ev (ea_cons (ev_fld (ev_var rfl) g1 T.cl_Crossing T.no_Crossing_places rfl) ea_nil)))) ?_)) fun H1 e1 => k _ e1
    rintro vs H1 e1 ⟨v1, r1, rfl, ⟨p, rfl, hp⟩, v2, r2, rfl, ⟨q, rfl, hq⟩, rfl⟩
    exact fun H2 e2 Q z E => sp_meets hp hq oka okb hpl H2 e2 Q (fun H3 e3 => z _ H3 e3 rfl) E
def gapOf (a b : WayD) : Int := if a.off - b.near > 0 then a.off - b.near else 0
def spGap (K : PySem.W.Frag) : Sp := fun vs H Q _ => ∃ (c : Addr) (a b : WayD) (pl : Int) (ws : List WayD), vs = [.ref c, .str a.name, .str b.name] ∧ CrossAt K pl ws c H ∧ IsWay ws a ∧ IsWay ws b ∧ RetV (.int (gapOf a b)) H Q
theorem ok_gap (T : TX K mg) : Fp P w K mg base 3 ("gap", none) ["crossing", "one", "other"] (spGap K) := by
  refine Fp.of T.f_gap sc_gap (fun _ _ _ _ _ _ us hl => match us, hl with | [_, _, _], _ => rfl) (fun vs H Q E h => ?_) (fun cdv A outer s H vs Q E hr h => ?_)
  · obtain ⟨_, _, _, _, _, rfl, _⟩ := h; rfl
  · obtain ⟨c, a, b, pl, ws, rfl, hc, wa, wb, k⟩ := h
    refine ⟨_, (pss_cons (ps_set (i := 3) sc_gap.nd rfl (Or.inl rfl) (pe_mt (c := "Crossing") (pv 0) T.cl_Crossing T.me_Crossing_called (ok_Crossing_called T) (hr.mono (by decide)) (pa_cons (pv 1) pa_nil)))
  (pss_one (ps_ret (pe_callB (call_max2 rfl) (by rfl) T.free_max (by decide +kernel) (pa_cons pe_int (pa_cons (pe_op op_sub (pe_fld (pv 3) rfl) (pe_fld (pe_mt (c := "Crossing") (pv 0) T.cl_Crossing T.me_Crossing_called (ok_Crossing_called T) (hr.mono (by decide)) (pa_cons (pv 2) pa_nil)) rfl)) pa_nil)))))), ?_⟩
    refine q_asgP (ep_called (ev_var rfl) hc wa (ea_cons (ev_var rfl) ea_nil)) fun v H1 e1 r1 => ?_
    obtain ⟨p, rfl, hp⟩ := r1
    refine s_ret (ev_max2 ev_c (ev_ep (ep_op (ep_ev (ev_wf T (ev_var rfl) hp (by decide +kernel) rfl)) (fun _ _ _ _ h => h) (R1 := fun v _ => v = .int b.near) ?_ ?_))) fun H2 e2 => k _ (e1.trans e2)
    · intro H2 e2 Q z
      refine ep_called (ev_var rfl) (hc.up e1) wb (ea_cons (ev_var rfl) ea_nil) H2 e2 _ fun v H3 e3 r3 => ?_
      obtain ⟨q, rfl, hq⟩ := r3
      obtain ⟨h3, dx, hd⟩ := hq
      have cc := T.wcls _ h3
      exact ⟨q, _, dx, _, _, rfl, hd, cc.cl, cc.na _ (by decide +kernel), rfl, z _ H3 e3 rfl⟩
    · rintro x y H2 e2 rfl rfl Q z
      exact ⟨_, _, rfl, rfl, z _ H2 (Ex.refl _) rfl⟩
end
end Lw


set_option Elab.async false
set_option linter.all false
set_option maxRecDepth 100000
set_option maxHeartbeats 4000000
namespace Lw
open PySem PySem.Spec PyProof.Rows L2 Evl
/-! ### what wants need -/
abbrev WD := List (WayD × Int)
def fadeOf (a : WayD) : Int := if a.sort = 0 then 2 else if a.sort = 1 then a.off else 1
def readyOf (a : WayD) : Int := if a.sort = 0 then 1 else if a.sort = 1 then 0 else 2
def aloneOf (x : WayD × Int) : Int := x.2 + fadeOf x.1 + readyOf x.1
def beh (pl : Int) (wd : WD) (i j : Nat) : Option Int := match wd[i]?, wd[j]? with
  | some x, some y => if i = j then none else if isMet pl x.1 y.1 then some (x.2 + gapOf x.1 y.1) else none
  | _, _ => none
def rowOf (pl : Int) (wd : WD) (i : Nat) : List (Option Int) := (List.range wd.length).map fun j => beh pl wd i j
def tabOf (pl : Int) (wd : WD) : Tab := (List.range wd.length).map fun i => rowOf pl wd i
structure WantsOk (pl : Int) (ws : List WayD) (wd : WD) : Prop where
  pm : pl ≤ 1000
  way : ∀ x ∈ wd, IsWay ws x.1 ∧ WayOk pl x.1
  dist : ∀ (i j : Nat) x y, i ≠ j → wd[i]? = some x → wd[j]? = some y → x.1.name ≠ y.1.name
  len : wd.length ≤ 5
def optV : Option Int → V
  | none => .non
  | some t => .int t
def WantAt (x : WayD × Int) (t : Addr) (H : Hp) : Prop := H t = some (.tup [.str x.1.name, .int x.2])
def WantsAt (wd : WD) (a : Addr) (H : Hp) : Prop := ∃ ts : List Addr, H a = some (.lst (ts.map V.ref)) ∧ AllAt WantAt H ts wd
def RowAt (row : List (Option Int)) (a : Addr) (H : Hp) : Prop := H a = some (.lst (row.map optV))
def ndF (la lb : Addr) : List (Str × V) := [("alone", .ref la), ("behind", .ref lb)]
def NeedsAt (K : PySem.W.Frag) (al : List Int) (B : Tab) (p : Addr) (H : Hp) : Prop := ∃ (dx la lb : Addr) (rs : List Addr), H p = some (.ins (He.ga K "Needs") dx (ndF la lb)) ∧ H la = some (.lst (al.map V.int)) ∧ H lb = some (.lst (rs.map V.ref)) ∧ AllAt RowAt H rs B
theorem NeedsAt.up {K : PySem.W.Frag} {al : List Int} {B : Tab} {p : Addr} {H H' : Hp} (h : NeedsAt K al B p H) (e : Ex H H') : NeedsAt K al B p H' := by
  obtain ⟨dx, la, lb, rs, h1, h2, h3, h4⟩ := h
  exact ⟨dx, la, lb, rs, e _ _ h1, e _ _ h2, e _ _ h3, h4.imp fun _ _ z => e _ _ z⟩
theorem WantsAt.up {wd : WD} {a : Addr} {H H' : Hp} (h : WantsAt wd a H) (e : Ex H H') : WantsAt wd a H' := by
  obtain ⟨ts, h1, h2⟩ := h
  exact ⟨ts, e _ _ h1, h2.imp fun _ _ z => e _ _ z⟩
/-- an instance without attributes changes -/
theorem CrossAt.exb {K : PySem.W.Frag} {pl : Int} {ws : List WayD} {c p C dx : Addr} {H H' : Hp} (h : CrossAt K pl ws c H) (hp : H p = some (.ins C dx [])) (e : ExB p H H') : CrossAt K pl ws c H' := by
  obtain ⟨d, l, as, h1, h2, h3⟩ := h
  exact ⟨d, l, as, e _ _ (ne_of h1 hp (by intro z; cases z)) h1, e _ _ (ne_of h2 hp (by intro z; cases z)) h2, h3.imp fun _ _ z => ⟨z.1, let ⟨d2, z2⟩ := z.2; ⟨d2, e _ _ (ne_of z2 hp (by intro z; cases z)) z2⟩⟩⟩
theorem WantsAt.exb {wd : WD} {a p C dx : Addr} {H H' : Hp} (h : WantsAt wd a H) (hp : H p = some (.ins C dx [])) (e : ExB p H H') : WantsAt wd a H' := by
  obtain ⟨ts, h1, h2⟩ := h
  exact ⟨ts, e _ _ (ne_of h1 hp (by intro z; cases z)) h1, h2.imp fun _ _ z => e _ _ (ne_of (show _ = _ from z) hp (by intro z; cases z)) z⟩
theorem ExB.mut {p q : Addr} {H H' : Hp} {o : HO} (e : ExB p H H') (hq : H q = none) : ExB p H (L2.upd H' q o) := fun b u hb h => by
  rw [upd_ne (ne_of_none h hq)]
  exact e b u hb h
theorem range_map {α β : Type} (xs : List α) (f : α → β) (d : β) : (List.range xs.length).map (fun i => (xs[i]?.map f).getD d) = xs.map f := by
  refine List.ext_getElem (by simp) fun i h1 h2 => ?_
  have h3 : i < xs.length := by simpa using h1
  simp [List.getElem?_eq_getElem h3]
theorem given_all (n : Nat) (v : Nat → V) : given n (fun _ => true) v = (List.range n).map v := by
  unfold given
  rw [List.filter_eq_self.mpr fun _ _ => rfl]
theorem et_yes {σ : L2.St} {H : Hp} : EvT tYes σ H true := fun H1 _ _ q => q H1 (Ex.refl H1)
theorem take_snoc {α : Type} {xs : List α} {n : Nat} {x : α} (h : xs[n]? = some x) : xs.take (n + 1) = xs.take n ++ [x] := by
  rw [List.take_add_one, h]; rfl
section
variable {P : Program} {w : World} {K : PySem.W.Frag} {mg : Str → Option Value} {base : Heap}
/-- o.m() of a way, whichever -/
theorem ev_way0 (T : TX K mg) {σ : L2.St} {H : Hp} {to : TE} {a : Addr} {wy : WayD} {m : Str} {sp0 sp1 sp2 : Sp} {z : V} (ho : Ev to σ H (.ref a)) (hw : WayAt K wy a H) (hm : (wayF wy).lookup m = none)
    (h0 : wy.sort = 0 → SpV sp0 [.ref a] H z) (h1 : wy.sort = 1 → SpV sp1 [.ref a] H z) (h2 : wy.sort = 2 → SpV sp2 [.ref a] H z) :
    Ev (fun σ H Q => tMeth (He.ga K "CarWay") m sp0 [] E0 to tNil σ H Q ∨ tMeth (He.ga K "FootWay") m sp1 [] E0 to tNil σ H Q ∨ tMeth (He.ga K "TramWay") m sp2 [] E0 to tNil σ H Q) σ H z := by
  obtain ⟨h3, dx, hp⟩ := hw
  have hc : wy.sort = 0 ∨ wy.sort = 1 ∨ wy.sort = 2 := by omega
  intro H1 e1 Q q
  rcases hc with e | e | e
  · rw [e] at hp
    exact .inl (ev_meth ho hp hm ea_nil (h0 e) H1 e1 Q q)
  · rw [e] at hp
    exact .inr (.inl (ev_meth ho hp hm ea_nil (h1 e) H1 e1 Q q))
  · rw [e] at hp
    exact .inr (.inr (ev_meth ho hp hm ea_nil (h2 e) H1 e1 Q q))
theorem ev_fade (T : TX K mg) {σ : L2.St} {H : Hp} {to : TE} {a : Addr} {wy : WayD} (ho : Ev to σ H (.ref a)) (hw : WayAt K wy a H) :
    Ev (fun σ H Q => tMeth (He.ga K "CarWay") "fade" (spConst 2) [] E0 to tNil σ H Q ∨ tMeth (He.ga K "FootWay") "fade" (spOff K) [] E0 to tNil σ H Q ∨ tMeth (He.ga K "TramWay") "fade" (spConst 1) [] E0 to tNil σ H Q) σ H (.int (fadeOf wy)) := by
  refine ev_way0 T ho hw rfl (fun e H1 e1 Q q _ => ⟨a, rfl, ?_⟩) (fun e H1 e1 Q q _ => ?_) (fun e H1 e1 Q q _ => ⟨a, rfl, ?_⟩)
  · have : fadeOf wy = 2 := by unfold fadeOf; rw [if_pos e]
    rw [← this]; exact q _ (Ex.refl _)
  · have : fadeOf wy = wy.off := by unfold fadeOf; rw [if_neg (by omega), if_pos e]
    rw [this] at q
    obtain ⟨h3, dx, hp⟩ := hw
    rw [e] at hp
    exact ⟨a, dx, wy, rfl, e1 _ _ hp, q _ (Ex.refl _)⟩
  · have : fadeOf wy = 1 := by unfold fadeOf; rw [if_neg (by omega), if_neg (by omega)]
    rw [← this]; exact q _ (Ex.refl _)
theorem ev_ready (T : TX K mg) {σ : L2.St} {H : Hp} {to : TE} {a : Addr} {wy : WayD} (ho : Ev to σ H (.ref a)) (hw : WayAt K wy a H) :
    Ev (fun σ H Q => tMeth (He.ga K "CarWay") "ready" (spConst 1) [] E0 to tNil σ H Q ∨ tMeth (He.ga K "FootWay") "ready" (spConst 0) [] E0 to tNil σ H Q ∨ tMeth (He.ga K "TramWay") "ready" (spConst 2) [] E0 to tNil σ H Q) σ H (.int (readyOf wy)) := by
  refine ev_way0 T ho hw rfl (fun e H1 e1 Q q _ => ⟨a, rfl, ?_⟩) (fun e H1 e1 Q q _ => ⟨a, rfl, ?_⟩) (fun e H1 e1 Q q _ => ⟨a, rfl, ?_⟩)
  · have : readyOf wy = 1 := by unfold readyOf; rw [if_pos e]
    rw [← this]; exact q _ (Ex.refl _)
  · have : readyOf wy = 0 := by unfold readyOf; rw [if_neg (by omega), if_pos e]
    rw [← this]; exact q _ (Ex.refl _)
  · have : readyOf wy = 2 := by unfold readyOf; rw [if_neg (by omega), if_neg (by omega)]
    rw [← this]; exact q _ (Ex.refl _)
theorem sp_meet {c : Addr} {a b : WayD} {pl : Int} {ws : List WayD} {H : Hp} (hc : CrossAt K pl ws c H) (wa : IsWay ws a) (wb : IsWay ws b) (oka : WayOk pl a) (okb : WayOk pl b) (hpl : pl ≤ 1000) : SpV (spMeet K) [.ref c, .str a.name, .str b.name] H (.bl (isMet pl a b)) :=
  fun H1 e Q q _ => ⟨c, a, b, pl, ws, rfl, hc.up e, wa, wb, oka, okb, hpl, q⟩
theorem sp_gap {c : Addr} {a b : WayD} {pl : Int} {ws : List WayD} {H : Hp} (hc : CrossAt K pl ws c H) (wa : IsWay ws a) (wb : IsWay ws b) : SpV (spGap K) [.ref c, .str a.name, .str b.name] H (.int (gapOf a b)) :=
  fun H1 e Q q _ => ⟨c, a, b, pl, ws, rfl, hc.up e, wa, wb, q⟩
def spNeeds (K : PySem.W.Frag) : Sp := fun vs H Q _ => ∃ (p dx c a : Addr) (pl : Int) (ws : List WayD) (wd : WD), vs = [.ref p, .ref c, .ref a] ∧ H p = some (.ins (He.ga K "Needs") dx []) ∧ CrossAt K pl ws c H ∧ WantsAt wd a H ∧ WantsOk pl ws wd ∧
  ∀ H', NeedsAt K (wd.map aloneOf) (tabOf pl wd) p H' → ExB p H H' → Q .non H'
theorem ok_Needs_init (T : TX K mg) : Fp P w K mg base 4 ("Needs", some "__init__") ["self", "crossing", "wants"] (spNeeds K) := by
  refine Fp.of T.f_Needs_init sc_Needs_init (fun _ _ _ _ _ _ us hl => match us, hl with | [_, _, _], _ => rfl) (fun vs H Q E h => ?_) (fun cdv A outer s H vs Q E hr h => ?_)
  · obtain ⟨_, _, _, _, _, _, _, rfl, _⟩ := h; rfl
  · obtain ⟨p, dx, c, a, pl, ws, wd, rfl, hp, hc, ha, ok, k⟩ := h
    refine ⟨_, (pss_cons (ps_fld (pv 0) (pe_lst pa_nil) rfl)
  (pss_cons (ps_fld (pv 0) (pe_lst pa_nil) rfl)
  (pss_cons (ps_for PassesOwn.never rfl (pi_list (pv 2)) (pg_tup rfl (pgs_cons (pg_name (i := 3) sc_Needs_init.nd rfl (Or.inl rfl)) (pgs_cons (pg_name (i := 4) sc_Needs_init.nd rfl (Or.inl rfl)) pgs_nil))) (pss_cons (ps_set (i := 5) sc_Needs_init.nd rfl (Or.inl rfl) (pe_mt (c := "Crossing") (pv 1) T.cl_Crossing T.me_Crossing_called (ok_Crossing_called T) (hr.mono (by decide)) (pa_cons (pv 3) pa_nil)))
  (pss_one (ps_expr (pe_bm PySem.F.plainAttrs_list PySem.F.slot_list_append PySem.F.type_list_append mt_append (pe_fld (pv 0) rfl) (pa_cons (pe_op op_add (pe_op op_add (pv 4) (PE.or3 (pe_mt0 (c := "CarWay") (pv 5) T.cl_CarWay T.me_CarWay_fade (ok_CarWay_fade T) (hr.mono (by decide))) (pe_mt0 (c := "FootWay") (pv 5) T.cl_FootWay T.me_FootWay_fade (ok_FootWay_fade T) (hr.mono (by decide))) (pe_mt0 (c := "TramWay") (pv 5) T.cl_TramWay T.me_TramWay_fade (ok_Way_fade T) (hr.mono (by decide))))) (PE.or3 (pe_mt0 (c := "CarWay") (pv 5) T.cl_CarWay T.me_CarWay_ready (ok_Way_ready T) (hr.mono (by decide))) (pe_mt0 (c := "FootWay") (pv 5) T.cl_FootWay T.me_FootWay_ready (ok_FootWay_ready T) (hr.mono (by decide))) (pe_mt0 (c := "TramWay") (pv 5) T.cl_TramWay T.me_TramWay_ready (ok_TramWay_ready T) (hr.mono (by decide))))) pa_nil))))))
  (pss_cons (ps_setLc (i := 6) (own := [("want", 7)]) (g := gName 7) rfl sc_Needs_init.nd rfl rfl (sw_true rfl rfl rfl (by decide +kernel)) (pi_list (pv 2)) (blkOk_by (own := [("want", 7)]) (N := N_Needs_init) (sc := defScope s_Needs_init) (by decide +kernel)) (fun _ _ _ _ _ => pg_name (i := 7) sc_Needs_init.nd rfl (Or.inl rfl)) (fun _ _ _ _ _ => pts_nil) (fun _ _ _ _ _ => (pe_ix (r := rIxT K) ix_tup (pv 7) pe_int (fun _ _ => rfl))))
  (pss_one (ps_for PassesOwn.never rfl (pi_list (pv 2)) (pg_tup rfl (pgs_cons (pg_name (i := 3) sc_Needs_init.nd rfl (Or.inl rfl)) (pgs_cons (pg_name (i := 4) sc_Needs_init.nd rfl (Or.inl rfl)) pgs_nil))) (pss_cons (ps_set (i := 8) sc_Needs_init.nd rfl (Or.inl rfl) (pe_lst pa_nil))
  (pss_cons (ps_for PassesOwn.never rfl (pi_list (pv 6)) (pg_name (i := 9) sc_Needs_init.nd rfl (Or.inl rfl)) (pss_one (ps_if (PW.pt (pw_and (pt_cmpR op_ne (pv 9) (pv 3) (nomark _)) (pw_and1 (pt_val (pe_f (ok_meet T) T.g_meet (hr.mono (by decide)) (pa_cons (pv 1) (pa_cons (pv 3) (pa_cons (pv 9) pa_nil)))))))) (pss_one (ps_expr (pe_bm PySem.F.plainAttrs_list PySem.F.slot_list_append PySem.F.type_list_append mt_append (pv 8) (pa_cons (pe_op op_add (pv 4) (pe_f (ok_gap T) T.g_gap (hr.mono (by decide)) (pa_cons (pv 1) (pa_cons (pv 3) (pa_cons (pv 9) pa_nil))))) pa_nil)))) (pss_one (ps_expr (pe_bm PySem.F.plainAttrs_list PySem.F.slot_list_append PySem.F.type_list_append mt_append (pv 8) (pa_cons pe_non pa_nil)))))))
  (pss_one (ps_expr (pe_bm PySem.F.plainAttrs_list PySem.F.slot_list_append PySem.F.type_list_append mt_append (pe_fld (pv 0) rfl) (pa_cons (pv 8) pa_nil)))))))))))), ?_⟩
    obtain ⟨ts, ha1, ha2⟩ := id ha
    have hts : ts.length = wd.length := ha2.1
    have nap : a ≠ p := ne_of ha1 hp (by intro z; cases z)
    -- self.alone = []
    refine q_fldP (ep_l (el_lst ea_nil (Nat.zero_le _))) (ev_var rfl) hp T.cl_Needs T.no_Needs_alone (by decide) fun v H1 e1 r1 => ?_
    obtain ⟨H0, f1, f2, la, rfl, hla, hla0⟩ := r1
    have npa : la ≠ p := fun z => by
      subst z
      rw [hp] at hla
      cases hla
    have x1 : ExB p H (upd H1 p (.ins (He.ga K "Needs") dx (putF "alone" (.ref la) []))) := (ExB.of e1).upd
    have la1 : (upd H1 p (.ins (He.ga K "Needs") dx (putF "alone" (.ref la) []))) la = some (.lst []) := by rw [upd_ne npa]; exact f2 _ _ hla0
    -- self.behind = []
    refine q_fldP (ep_l (el_lst ea_nil (Nat.zero_le _))) (ev_var rfl) upd_same T.cl_Needs T.no_Needs_behind (show 1 < 1000 by decide) fun v H2 e2 r2 => ?_
    obtain ⟨H0b, g1, g2, lb, rfl, hlb, hlb0⟩ := r2
    have npb : lb ≠ p := fun z => by
      subst z
      rw [upd_same] at hlb
      cases hlb
    have nab : la ≠ lb := ne_of_none la1 hlb
    have hlbH : H lb = none := by
      cases q : H lb with
      | none => rfl
      | some o =>
        rw [x1 lb o npb q] at hlb
        cases hlb
    have x2 : ExB p H (upd H2 p (.ins (He.ga K "Needs") dx (putF "behind" (.ref lb) (putF "alone" (.ref la) [])))) := (x1.trans (.of e2)).upd
    have la2 : (upd H2 p (.ins (He.ga K "Needs") dx (putF "behind" (.ref lb) (putF "alone" (.ref la) [])))) la = some (.lst []) := by rw [upd_ne npa]; exact e2 _ _ la1
    have lb2 : (upd H2 p (.ins (He.ga K "Needs") dx (putF "behind" (.ref lb) (putF "alone" (.ref la) [])))) lb = some (.lst []) := by rw [upd_ne npb]; exact g2 _ _ hlb0
    have hxs : ∀ H', ExB p H H' → SqL K H' a (ts.map V.ref) := fun H' x => SqL.lst (x _ _ nap ha1)
    have hgetw : ∀ (n : Nat) (x : V), (ts.map V.ref)[n]? = some x → ∃ (t : Addr) (y : WayD × Int), x = .ref t ∧ wd[n]? = some y ∧ ∀ H', ExB p H H' → SqT K H' t [.str y.1.name, .int y.2] := by
      intro n x hx
      rw [List.getElem?_map] at hx
      obtain ⟨t, ht, rfl⟩ := Option.map_eq_some_iff.mp hx
      have hn : n < wd.length := by rw [← hts]; exact (List.getElem?_eq_some_iff.mp ht).1
      have hw := ha2.2 n t _ ht (List.getElem?_eq_getElem hn)
      exact ⟨t, wd[n], rfl, List.getElem?_eq_getElem hn, fun H' x => SqT.tup (x _ _ (ne_of (show H t = _ from hw) hp (by intro z; cases z)) hw)⟩
    -- the first loop
    refine q_forPr (ev_var rfl) (hxs _ x2) (fun n σ' H' => ExB p H H' ∧ H' p = some (.ins (He.ga K "Needs") dx (ndF la lb)) ∧ H' la = some (.lst (((wd.take n).map aloneOf).map V.int)) ∧ H' lb = some (.lst []) ∧ ∃ y3 y4 y5, σ' = [some (.ref p), some (.ref c), some (.ref a), y3, y4, y5, none, none, none, none])
      (fun H3 e3 => ⟨x2.trans (.of e3), e3 _ _ upd_same, e3 _ _ la2, e3 _ _ lb2, none, none, none, rfl⟩) (fun n σ' H' _ hP => hxs _ hP.1) (fun n x σ' H' hx hP => ?_) (fun σ' H' hP => ?_)
    · obtain ⟨x3, hp3, la3, lb3, y3, y4, y5, rfl⟩ := hP
      obtain ⟨t, y, rfl, hy, ht⟩ := hgetw n x hx
      refine ⟨t, _, _, rfl, ht _ x3, ?_⟩
      obtain ⟨wy, okw⟩ := ok.way y (List.mem_of_getElem? hy)
      refine q_asgP (ep_called (ev_var rfl) (hc.exb hp x3) wy (ea_cons (ev_var rfl) ea_nil)) fun v H4 e4 r4 => ?_
      obtain ⟨wa, rfl, hwa⟩ := r4
      refine s_app (e4 _ _ la3) (ev_fld (ev_var rfl) (e4 _ _ hp3) T.cl_Needs T.no_Needs_alone rfl) (ev_op (ev_op (ev_var rfl) (ev_fade T (ev_var rfl) hwa) rv_I0) (ev_ready T (ev_var rfl) hwa) rv_I0) (by
        rw [List.length_map, List.length_map, List.length_take]
        have := ok.len
        omega) fun H5 e5 => ?_
      refine ⟨((x3.trans (.of e4)).trans (.of e5)).mut hla, ?_, ?_, ?_, _, _, _, rfl⟩
      · rw [upd_ne npa.symm]; exact e5 _ _ (e4 _ _ hp3)
      · rw [upd_same, take_snoc hy, List.map_append, List.map_append]; rfl
      · rw [upd_ne nab.symm]; exact e5 _ _ (e4 _ _ lb3)
    · obtain ⟨x3, hp3, la3, lb3, y3, y4, y5, rfl⟩ := hP
      rw [List.length_map, hts, List.take_length] at la3
      -- names
      refine q_asgL (el_lcL (fun _ => true) (fun i => (wd[i]?.map fun y => V.str y.1.name).getD .non) (ev_var rfl) (hxs _ x3) (by rw [List.length_map, hts]; have := ok.len; omega) (fun x => rfl)
        (fun i x H4 e4 hx => et_yes) (fun i x H4 e4 hx _ => ?_)) fun ln H4 hln e4 hln4 => ?_
      · obtain ⟨t, y, rfl, hy, ht⟩ := hgetw i x hx
        rw [hy]
        exact ev_op (ev_var rfl) ev_c (rv_ixT (ht _ (x3.trans (.of e4))) rfl)
      rw [given_all, List.length_map, hts, range_map] at hln4
      have x4 := x3.trans (.of e4)
      have nln : ∀ H', Ex H4 H' → SqL K H' ln (wd.map fun y => V.str y.1.name) := fun H' e => SqL.lst (e _ _ hln4)
      -- the second loop
      refine s_forPr (ev_var rfl) (hxs _ x4) (fun n σ' H' => ExB p H H' ∧ H' p = some (.ins (He.ga K "Needs") dx (ndF la lb)) ∧ H' la = some (.lst ((wd.map aloneOf).map V.int)) ∧ H' ln = some (.lst (wd.map fun y => V.str y.1.name)) ∧
          (∃ rs : List Addr, H' lb = some (.lst (rs.map V.ref)) ∧ AllAt RowAt H' rs ((tabOf pl wd).take n) ∧ lb ∉ rs) ∧ ∃ y3 y4 y5 y7 y8 y9, σ' = [some (.ref p), some (.ref c), some (.ref a), y3, y4, y5, some (.ref ln), y7, y8, y9])
        (fun H5 e5 => ⟨x4.trans (.of e5), e5 _ _ (e4 _ _ hp3), e5 _ _ (e4 _ _ la3), e5 _ _ hln4, ⟨[], e5 _ _ (e4 _ _ lb3), AllAt.nil, by simp⟩, _, _, _, _, _, _, rfl⟩) (fun n σ' H' _ hP => hxs _ hP.1) (fun n x σ' H' hx hP => ?_) (fun σ' H' hP => ?_)
      · obtain ⟨x5, hp5, la5, ln5, ⟨rs, lb5, hrs, nlb⟩, z3, z4, z5, z7, z8, z9, rfl⟩ := hP
        obtain ⟨t, y, rfl, hy, ht⟩ := hgetw n x hx
        obtain ⟨wy, okw⟩ := ok.way y (List.mem_of_getElem? hy)
        have hnw : n < wd.length := (List.getElem?_eq_some_iff.mp hy).1
        refine ⟨t, _, _, rfl, ht _ x5, ?_⟩
        refine q_asgL (el_lst ea_nil (Nat.zero_le _)) fun r H6 hr6 e6 hl6 => ?_
        -- the row
        refine q_forLn (ev_var rfl) (SqL.lst (e6 _ _ ln5)) (fun m σ' H'' => Ex H' H'' ∧ H'' r = some (.lst (((rowOf pl wd n).take m).map optV)) ∧ ∃ y9, σ' = [some (.ref p), some (.ref c), some (.ref a), some (.str y.1.name), some (.int y.2), z5, some (.ref ln), z7, some (.ref r), y9])
          (fun H7 e7 => ⟨e6.trans e7, e7 _ _ hl6, _, rfl⟩) (fun m σ' H'' _ hP => SqL.lst (hP.1 _ _ ln5)) (fun m x σ' H'' hx hP => ?_) (fun σ' H'' hP => ?_)
        · obtain ⟨e7, hl7, y9, rfl⟩ := hP
          rw [List.getElem?_map] at hx
          obtain ⟨u, hu, rfl⟩ := Option.map_eq_some_iff.mp hx
          obtain ⟨wu, oku⟩ := ok.way u (List.mem_of_getElem? hu)
          have hmw : m < wd.length := (List.getElem?_eq_some_iff.mp hu).1
          have hrow : (rowOf pl wd n)[m]? = some (beh pl wd n m) := by
            unfold rowOf
            rw [List.getElem?_map, List.getElem?_range hmw]; rfl
          have hlen : (((rowOf pl wd n).take m).map optV).length < 100000 := by
            rw [List.length_map, List.length_take]
            have := ok.len
            omega
          have hne : decide (V.str u.1.name = V.str y.1.name) = decide (m = n) := by
            by_cases e : m = n
            · subst e
              rw [hu] at hy
              cases hy
              simp
            · rw [decide_eq_false e]
              exact decide_eq_false fun z => ok.dist m n u y e hu hy (V.str.inj z)
          have hcc := (hc.exb hp x5).up e7
          have hb : beh pl wd n m = if n = m then none else if isMet pl y.1 u.1 then some (y.2 + gapOf y.1 u.1) else none := by
            unfold beh
            rw [hy, hu]
          refine s_if (b := !decide (V.str u.1.name = V.str y.1.name) && isMet pl y.1 u.1) (et_and (et_test (ev_op (ev_var rfl) (ev_var rfl) (rv_ne rfl))) (fun _ => et_B (ev_callV (ea_cons (ev_var rfl) (ea_cons (ev_var rfl) (ea_cons (ev_var rfl) ea_nil))) (sp_meet hcc wy wu okw oku ok.pm)))) (fun hc8 H8 e8 => ?_) (fun hc8 H8 e8 => ?_)
          · obtain ⟨c1, c2⟩ := Bool.and_eq_true_iff.mp hc8
            rw [hne] at c1
            have hnm : n ≠ m := fun z => by rw [z] at c1; simp at c1
            rw [if_neg hnm, if_pos c2] at hb
            refine s_app (e8 _ _ hl7) (ev_var rfl) (ev_op (ev_var rfl) (ev_callV (ea_cons (ev_var rfl) (ea_cons (ev_var rfl) (ea_cons (ev_var rfl) ea_nil))) (sp_gap (hcc.up e8) wy wu)) rv_I0) hlen fun H9 e9 => ?_
            refine ⟨Ex.mut ((e7.trans e8).trans e9) hr6, ?_, _, rfl⟩
            rw [upd_same, take_snoc hrow, List.map_append, hb]; rfl
          · have hb2 : beh pl wd n m = none := by
              rw [hb]
              by_cases e : n = m
              · rw [if_pos e]
              · rw [if_neg e]
                rcases Bool.and_eq_false_iff.mp hc8 with z | z
                · rw [hne, decide_eq_false (Ne.symm e)] at z
                  cases z
                · rw [z]; rfl
            refine s_app (e8 _ _ hl7) (ev_var rfl) ev_c hlen fun H9 e9 => ?_
            refine ⟨Ex.mut ((e7.trans e8).trans e9) hr6, ?_, _, rfl⟩
            rw [upd_same, take_snoc hrow, List.map_append, hb2]; rfl
        · obtain ⟨e7, hl7, y9, rfl⟩ := hP
          have hfull : (rowOf pl wd n).take (wd.map fun y => V.str y.1.name).length = rowOf pl wd n := by
            rw [List.length_map]
            exact List.take_of_length_le (by unfold rowOf; simp)
          rw [hfull] at hl7
          have hrl : rs.length ≤ 5 := by
            rw [hrs.1, List.length_take]
            have := ok.len
            omega
          refine s_app (e7 _ _ lb5) (ev_fld (ev_var rfl) (e7 _ _ hp5) T.cl_Needs T.no_Needs_behind rfl) (ev_var rfl) (by rw [List.length_map]; omega) fun H8 e8 => ?_
          have nrlb : r ≠ lb := fun z => by
            subst z
            rw [hr6] at lb5
            cases lb5
          have e78 := e7.trans e8
          have htab : (tabOf pl wd)[n]? = some (rowOf pl wd n) := by
            unfold tabOf
            rw [List.getElem?_map, List.getElem?_range hnw]; rfl
          refine ⟨(x5.trans (.of e78)).mut hlbH, ?_, ?_, ?_, ⟨rs ++ [r], ?_, ?_, ?_⟩, _, _, _, _, _, _, rfl⟩
          · rw [upd_ne npb.symm]; exact e78 _ _ hp5
          · rw [upd_ne nab]; exact e78 _ _ la5
          · have : ln ≠ lb := fun z => by
              rw [z] at hln
              rw [hln] at lb3
              cases lb3
            rw [upd_ne this]; exact e78 _ _ ln5
          · rw [upd_same, List.map_append]; rfl
          · rw [take_snoc htab]
            refine AllAt.snoc ⟨hrs.1, fun i b x hb hx => ?_⟩ ?_
            · show (upd H8 lb _) b = _
              rw [upd_ne (show b ≠ lb from fun z => nlb (z ▸ List.mem_of_getElem? hb))]
              exact e78 _ _ (hrs.2 i b x hb hx)
            · show (upd H8 lb _) r = _
              rw [upd_ne nrlb]
              exact e8 _ _ hl7
          · intro z
            rcases List.mem_append.mp z with q | q
            · exact nlb q
            · exact nrlb (List.mem_singleton.mp q).symm
      · obtain ⟨x5, hp5, la5, ln5, ⟨rs, lb5, hrs, nlb⟩, z3, z4, z5, z7, z8, z9, rfl⟩ := hP
        have hfull : (tabOf pl wd).take (ts.map V.ref).length = tabOf pl wd := List.take_of_length_le (by unfold tabOf; simp [hts])
        rw [hfull] at hrs
        exact k _ ⟨dx, la, lb, rs, hp5, la5, lb5, hrs⟩ x5
end
end Lw


set_option Elab.async false
set_option linter.all false
set_option maxRecDepth 100000
set_option maxHeartbeats 4000000
namespace Lw
open PySem PySem.Spec PyProof.Rows L2 Evl
/-! ### orders -/
def keyP (p : Nat × Nat) : List Key := [Sum.inl (p.1 : Int), Sum.inl (p.2 : Int)]
theorem keyP_inj {p q : Nat × Nat} (h : keyP p = keyP q) : p = q := by
  obtain ⟨a, b⟩ := p
  obtain ⟨c, d⟩ := q
  unfold keyP at h
  injection h with h1 h2
  injection h2 with h2 _
  have e1 : (a : Int) = c := Sum.inl.inj h1
  have e2 : (b : Int) = d := Sum.inl.inj h2
  have e3 : a = c := by omega
  have e4 : b = d := by omega
  rw [e3, e4]
def ordK (o : Ord) : List (List Key × V) := o.map fun p => (keyP p, V.bl true)
def OrdAt (o : Ord) (d : Addr) (H : Hp) : Prop := H d = some (.dT (ordK o))
theorem valV_ord (p : Nat × Nat) : ∀ o : Ord, (valV (ordK o) (keyP p)).isSome = o.contains p
  | [] => rfl
  | q :: o => by
    show (valV ((keyP q, V.bl true) :: ordK o) (keyP p)).isSome = _
    by_cases h : q = p
    · subst h
      rw [valV_pos rfl]
      simp
    · rw [valV_neg fun e => h (keyP_inj e), valV_ord p o]
      rw [List.contains_cons]
      have : (p == q) = false := beq_eq_false_iff_ne.mpr (Ne.symm h)
      rw [this, Bool.false_or]
theorem put_ord {p : Nat × Nat} {o : Ord} (h : p ∉ o) : putK (ordK o) (keyP p) (.bl true) = ordK (o ++ [p]) := by
  have e : valV (ordK o) (keyP p) = none := by
    have q := valV_ord p o
    have : o.contains p = false := by
      rw [List.contains_eq_mem]
      exact decide_eq_false h
    rw [this] at q
    cases z : valV (ordK o) (keyP p) with
    | none => rfl
    | some v => rw [z] at q; cases q
  rw [putK_new _ e]
  unfold ordK
  rw [List.map_append]
  rfl
def hp2 (i j : Int) : Int := reduceHash (Builtin.Tuple.tupleHashOf [hashInt i, hashInt j])
theorem hash_keyP (w : World) (P : Program) (p : Nat × Nat) : (tupleKind (mixKind P w)).hash (keyP p) = hp2 p.1 p.2 := rfl
theorem hp2_all : ((List.range 25).all fun x => (List.range 25).all fun y => (x == y) || !(hp2 ((x / 5 : Nat) : Int) ((x % 5 : Nat) : Int) == hp2 ((y / 5 : Nat) : Int) ((y % 5 : Nat) : Int))) = true := by decide +kernel
theorem hp2_inj (a : Nat) (ha : a < 5) (b : Nat) (hb : b < 5) (c : Nat) (hc : c < 5) (d : Nat) (hd : d < 5) (h : hp2 (a : Int) (b : Int) = hp2 (c : Int) (d : Int)) : a = c ∧ b = d := by
  have q := List.all_eq_true.mp (List.all_eq_true.mp hp2_all (a * 5 + b) (List.mem_range.mpr (by omega))) (c * 5 + d) (List.mem_range.mpr (by omega))
  have e1 : (a * 5 + b) / 5 = a := by omega
  have e2 : (a * 5 + b) % 5 = b := by omega
  have e3 : (c * 5 + d) / 5 = c := by omega
  have e4 : (c * 5 + d) % 5 = d := by omega
  rw [e1, e2, e3, e4, h] at q
  have : a * 5 + b = c * 5 + d := by simpa using q
  omega
theorem hashes_nodup {w : World} {P : Program} {o : Ord} (hn : o.Nodup) (hl : ∀ p ∈ o, p.1 < 5 ∧ p.2 < 5) : (keyHs w P (ordK o)).Nodup := by
  have e : keyHs w P (ordK o) = o.map fun p => hp2 p.1 p.2 := by
    unfold keyHs ordK
    rw [List.map_map]
    rfl
  rw [e]
  unfold List.Nodup at *
  rw [List.pairwise_map]
  refine hn.imp_of_mem fun {a b} ha hb hab z => hab ?_
  obtain ⟨a1, a2⟩ := hl a ha
  obtain ⟨b1, b2⟩ := hl b hb
  obtain ⟨e1, e2⟩ := hp2_inj a.1 a1 a.2 a2 b.1 b1 b.2 b2 z
  exact Prod.ext e1 e2
section
variable {K : PySem.W.Frag} {σ : L2.St} {H H' : Hp} {td ty tv ta tb te : TE} {D : Ends} {tz : TS} {d : Addr} {o : Ord} {p : Nat × Nat}
theorem ep_dnew : EvP tDNewT σ H (fun v H' => ∃ d, v = .ref d ∧ H d = none ∧ H' d = some (.dT [])) := fun H1 e Q q => fun d hd => q _ _ (Ex.new hd) ⟨d, rfl, fresh_back e hd, upd_same⟩
theorem s_dputT {i j : Int} (hd : OrdAt o d H) (ho : Ev td σ H (.ref d)) (hk : EvU ty σ H [.int i, .int j]) (hi : i = (p.1 : Int)) (hj : j = (p.2 : Int)) (hv : Ev tv σ H (.bl true)) (hp : p ∉ o) (hl : o.length < 100000)
    (k : ∀ H1, Ex H H1 → D.nx σ (upd H1 d (.dT (ordK (o ++ [p]))))) : sDPut td ty tv D σ H := by
  subst hi hj
  refine hv H (Ex.refl H) _ fun H1 e1 => ho H1 e1 _ fun H2 e2 => hk H2 (e1.trans e2) _ fun b H3 _ e3 hb => ⟨d, _, rfl, DPut.t (k := keyP p) (e3 _ _ (e2 _ _ (e1 _ _ hd))) hb (sz_lt (by unfold ordK; rw [List.length_map]; exact hl)), ?_⟩
  rw [put_ord hp]
  exact k H3 ((e1.trans e2).trans e3)
theorem ev_din {i j : Int} (hd : OrdAt o d H) (hk : EvU ty σ H [.int i, .int j]) (hi : i = (p.1 : Int)) (hj : j = (p.2 : Int)) (ho : Ev td σ H (.ref d)) : Ev (tDIn ty td) σ H (.bl (o.contains p)) := by
  subst hi hj
  refine fun H1 e1 Q q => hk H1 e1 _ fun b H2 _ e2 hb => ho H2 (e1.trans e2) _ fun H3 e3 => ⟨d, _, rfl, DGet.t (k := keyP p) (e3 _ _ (e2 _ _ (e1 _ _ hd))) (e3 _ _ hb), ?_⟩
  rw [valV_ord]
  exact q H3 (e2.trans e3)
theorem ep_dcopy {P : Program} {w : World} (hd : OrdAt o d H) (ho : Ev ta σ H (.ref d)) (hn : o.Nodup) (hl : ∀ p ∈ o, p.1 < 5 ∧ p.2 < 5) : EvP (tCB (rDictT P w) (tCons ta tNil)) σ H (fun v H' => ∃ q, v = .ref q ∧ H q = none ∧ OrdAt o q H') := fun H1 e1 Q q =>
  ho H1 e1 _ fun H2 e2 => ⟨d, ordK o, rfl, e2 _ _ (e1 _ _ hd), hashes_nodup hn hl, fun r hr => q _ _ (e2.trans (Ex.new hr)) ⟨r, rfl, fresh_back (e1.trans e2) hr, upd_same⟩⟩
theorem ev_lenT {a : Addr} {xs : List V} (ha : Ev ta σ H (.ref a)) (h : SqT K H a xs) : Ev (tCB (rLenS K) (tCons ta tNil)) σ H (.int (xs.length : Int)) := fun H1 e Q q =>
  ha H1 e _ fun H2 e2 => ⟨a, xs, rfl, Or.inr (ex_t (e.trans e2) h), q H2 e2⟩
end
def natV (ring : List Nat) : List V := ring.map fun k : Nat => V.int (k : Int)
theorem natV_len (ring : List Nat) : (natV ring).length = ring.length := by simp [natV]
theorem natV_get {ring : List Nat} {k : Nat} (h : k < ring.length) : (natV ring)[k]? = some (.int (ring.getD k 0 : Nat)) := by
  unfold natV
  rw [List.getElem?_map, List.getElem?_eq_getElem h, List.getD_eq_getElem?_getD, List.getElem?_eq_getElem h]; rfl
theorem fmod_nat (a b : Nat) (hb : 0 < b) : ((a : Int)).fmod (b : Int) = ((a % b : Nat) : Int) := by
  rw [Int.fmod_eq_emod_of_nonneg _ (by omega)]; rfl
section
variable {K : PySem.W.Frag} {σ : L2.St} {H H' : Hp} {ta tb te ti tj tp : TE} {mg : Str → Option Value}
/-- ring[(k + 1) % len(ring)] -/
theorem ev_nxt {t : Addr} {ring : List Nat} {k : Nat} (ht : SqT K H t (natV ring)) (hk : k < ring.length) (h1 : Ev ta σ H (.ref t)) (h2 : Ev tb σ H (.int (k : Int))) :
    Ev (tOp (rIxT K) ta (tOp (rI (fun _ j => j ≠ 0) fun i j => .int (i.fmod j)) (tOp (rI0 fun i j => .int (i + j)) tb (tC (.int 1))) (tCB (rLenS K) (tCons ta tNil)))) σ H (.int (nxt ring k : Nat)) := by
  refine ev_op h1 (ev_op (ev_op h2 ev_c rv_I0) (ev_lenT h1 ht) (rv_mod (by rw [natV_len]; omega))) (rv_ixT ht ?_)
  rw [natV_len]
  have e : ((k : Int) + 1).fmod (ring.length : Int) = (((k + 1) % ring.length : Nat) : Int) := by
    rw [← fmod_nat _ _ (by omega)]; rfl
  rw [e]
  have hlt : (k + 1) % ring.length < ring.length := Nat.mod_lt _ (by omega)
  exact atI_nat (natV_get hlt)
theorem bh_get {B : Tab} {i j : Nat} {row : List (Option Int)} {x : Option Int} (h1 : B[i]? = some row) (h2 : row[j]? = some x) : bh B i j = x := by
  unfold bh
  rw [List.getD_eq_getElem?_getD (l := B), h1, Option.getD_some, List.getD_eq_getElem?_getD, h2]; rfl
/-- needs.behind[i] -/
theorem ep_row (T : TX K mg) {al : List Int} {B : Tab} {p : Addr} {i : Nat} {row : List (Option Int)} (hn : NeedsAt K al B p H) (hi : B[i]? = some row) (h1 : Ev tp σ H (.ref p)) (h2 : Ev ti σ H (.int (i : Int))) :
    ∃ r, RowAt row r H ∧ Ev (tOp (rIxL K) (tFld K tp "behind") ti) σ H (.ref r) := by
  obtain ⟨dx, la, lb, rs, g1, g2, g3, g4⟩ := hn
  obtain ⟨r, hr, hrow⟩ := g4.get hi
  exact ⟨r, hrow, ev_op (ev_fld h1 g1 T.cl_Needs T.no_Needs_behind rfl) h2 (rv_ixL (SqL.lst g3) (atI_nat (by rw [List.getElem?_map, hr]; rfl)))⟩
/-- needs.behind[i][j] -/
theorem ev_beh (T : TX K mg) {al : List Int} {B : Tab} {p : Addr} {i j : Nat} {row : List (Option Int)} {x : Option Int} (hn : NeedsAt K al B p H) (hi : B[i]? = some row) (hj : row[j]? = some x) (h1 : Ev tp σ H (.ref p)) (h2 : Ev ti σ H (.int (i : Int))) (h3 : Ev tj σ H (.int (j : Int))) :
    Ev (tOp (rIxL K) (tOp (rIxL K) (tFld K tp "behind") ti) tj) σ H (optV (bh B i j)) := by
  obtain ⟨r, hrow, hr⟩ := ep_row T hn hi h1 h2
  rw [bh_get hi hj]
  exact ev_op hr h3 (rv_ixL (SqL.lst hrow) (atI_nat (by rw [List.getElem?_map, hj]; rfl)))
end
/-- the shape of a table -/
structure TabOk (n : Nat) (B : Tab) : Prop where
  len : B.length = n
  row : ∀ r ∈ B, r.length = n
theorem TabOk.get {n : Nat} {B : Tab} (h : TabOk n B) {i j : Nat} (hi : i < n) (hj : j < n) : ∃ row x, B[i]? = some row ∧ row[j]? = some x := by
  have h1 : i < B.length := by rw [h.len]; exact hi
  refine ⟨B[i], (B[i])[j]'(by rw [h.row _ (List.getElem_mem h1)]; exact hj), List.getElem?_eq_getElem h1, List.getElem?_eq_getElem _⟩
section
variable {P : Program} {w : World} {K : PySem.W.Frag} {mg : Str → Option Value} {base : Heap}
theorem firstN_snoc (B : Tab) (c : Nat) : firstN B (c + 1) = firstN B c ++ (if (bh B 0 c).isSome then [(0, c)] else []) := by
  unfold firstN
  rw [List.range_succ, List.filter_append, List.map_append, List.filter_cons]
  split <;> rfl
theorem firstN_new (B : Tab) (c : Nat) : (0, c) ∉ firstN B c := by
  intro h
  have := (mem_first (B := B)).mp h
  omega
theorem firstN_len (B : Tab) (c : Nat) : (firstN B c).length ≤ c := by
  unfold firstN
  rw [List.length_map]
  exact Nat.le_trans (List.length_filter_le _ _) (by simp)
def spFirst (K : PySem.W.Frag) : Sp := fun vs H Q _ => ∃ (p : Addr) (al : List Int) (B : Tab) (n : Nat), vs = [.ref p] ∧ NeedsAt K al B p H ∧ TabOk n B ∧ 0 < n ∧ n ≤ 5 ∧ RetP (fun v H' => ∃ d, v = .ref d ∧ OrdAt (firstN B n) d H') H Q
theorem ok_first_order (T : TX K mg) : Fp P w K mg base 1 ("first_order", none) ["needs"] (spFirst K) := by
  refine Fp.of T.f_first_order sc_first_order (fun _ _ _ _ _ _ us hl => match us, hl with | [_], _ => rfl) (fun vs H Q E h => ?_) (fun cdv A outer s H vs Q E hr h => ?_)
  · obtain ⟨_, _, _, _, rfl, _⟩ := h; rfl
  · obtain ⟨p, al, B, n, rfl, hn, tab, h0, h5, k⟩ := h
    refine ⟨_, (pss_cons (ps_set (i := 1) sc_first_order.nd rfl (Or.inl rfl) pe_dnewT)
  (pss_cons (ps_for PassesOwn.never rfl (pi_enum (by rfl) T.free_enumerate (pa_cons (pe_ix ix_list (pe_fld (pv 0) rfl) pe_int (fun _ _ => rfl)) pa_nil)) (pg_tup rfl (pgs_cons (pg_name (i := 2) sc_first_order.nd rfl (Or.inl rfl)) (pgs_cons (pg_name (i := 3) sc_first_order.nd rfl (Or.inl rfl)) pgs_nil))) (pss_one (ps_if (pt_cmpR op_notN (pv 3) pe_non (nomark _)) (pss_one (ps_dput (hu_of hr) (pv 1) (pe_tup (pa_cons pe_int (pa_cons (pv 2) pa_nil))) pe_bl rfl)) pss_nil)))
  (pss_one (ps_ret (pv 1))))), ?_⟩
    refine q_asgP ep_dnew fun v H1 e1 r1 => ?_
    obtain ⟨d, rfl, hd, hd1⟩ := r1
    obtain ⟨row, x0, hrow, _⟩ := tab.get h0 h0
    have hlen : row.length = n := tab.row _ (List.mem_of_getElem? hrow)
    obtain ⟨r, hr1, hrv⟩ := ep_row (σ := [some (.ref p), some (.ref d), none, none]) (tp := tVar 0) (ti := tC (.int 0)) (i := 0) T (hn.up e1) hrow (ev_var rfl) ev_c
    refine q_forE (ea_cons hrv ea_nil) (SqL.lst hr1) (fun m σ' H' => Ex H H' ∧ RowAt row r H' ∧ OrdAt (firstN B m) d H' ∧ ∃ x y, σ' = [some (.ref p), some (.ref d), x, y])
      (fun H2 e2 => ⟨e1.trans e2, e2 _ _ hr1, e2 _ _ hd1, none, none, rfl⟩) (fun m σ' H' _ hP => SqL.lst hP.2.1) (fun m x σ' H' hx hP H2 e2 => ?_) (fun σ' H' hP => ?_)
    · obtain ⟨e0, hr0, hd0, x2, x3, rfl⟩ := hP
      rw [List.getElem?_map] at hx
      obtain ⟨y, hy, rfl⟩ := Option.map_eq_some_iff.mp hx
      have hb : bh B 0 m = y := bh_get hrow hy
      have hm : m < n := by rw [← hlen]; exact (List.getElem?_eq_some_iff.mp hy).1
      refine s_when (et_test (ev_op (ev_var rfl) ev_c (fun H3 _ Q q => ⟨rfl, q H3 (Ex.refl _)⟩))) (fun hc H3 e3 => ?_) (fun hc H3 e3 => ?_)
      · have hs : (bh B 0 m).isSome = true := by
          rw [hb]
          cases y with
          | none => cases hc
          | some z => rfl
        refine s_dputT (p := (0, m)) (e3 _ _ (e2 _ _ hd0)) (ev_var rfl) (eu_tup (ea_cons ev_c (ea_cons (ev_var rfl) ea_nil)) (show 2 ≤ 100000 by decide)) rfl rfl ev_c (firstN_new B m) (by have := firstN_len B m; omega) fun H4 e4 => ?_
        refine ⟨Ex.mut ((e0.trans (e2.trans e3)).trans e4) hd, ?_, ?_, _, _, rfl⟩
        · show (upd H4 d _) r = _
          have hrd : r ≠ d := ne_of hr0 hd0 (by intro z; cases z)
          rw [upd_ne hrd]
          exact e4 _ _ (e3 _ _ (e2 _ _ hr0))
        · show (upd H4 d _) d = _
          rw [upd_same, firstN_snoc, if_pos hs]
      · have hs : ¬ (bh B 0 m).isSome = true := by
          rw [hb]
          cases y with
          | none => decide
          | some z => cases hc
        refine ⟨e0.trans (e2.trans e3), e3 _ _ (e2 _ _ hr0), ?_, _, _, rfl⟩
        rw [firstN_snoc, if_neg hs, List.append_nil]
        exact e3 _ _ (e2 _ _ hd0)
    · obtain ⟨e0, hr0, hd0, x2, x3, rfl⟩ := hP
      rw [List.length_map, hlen] at hd0
      exact s_ret (ev_var rfl) fun H2 e2 => k _ _ (e0.trans e2) ⟨d, rfl, e2 _ _ hd0⟩
def spOrdered : Sp := fun vs H Q _ => ∃ (d : Addr) (o : Ord) (i j : Nat), vs = [.ref d, .int (i : Int), .int (j : Int)] ∧ OrdAt o d H ∧ o.Nodup ∧ (∀ p ∈ o, p.1 < 5 ∧ p.2 < 5) ∧ o.length ≤ 100 ∧ (i, j) ∉ o ∧ RetP (fun v H' => ∃ q, v = .ref q ∧ OrdAt (o ++ [(i, j)]) q H') H Q
theorem ok_ordered (T : TX K mg) : Fp P w K mg base 1 ("ordered", none) ["order", "i", "j"] spOrdered := by
  refine Fp.of T.f_ordered sc_ordered (fun _ _ _ _ _ _ us hl => match us, hl with | [_, _, _], _ => rfl) (fun vs H Q E h => ?_) (fun cdv A outer s H vs Q E hr h => ?_)
  · obtain ⟨_, _, _, _, rfl, _⟩ := h; rfl
  · obtain ⟨d, o, i, j, rfl, hd, hn, hl, h100, hp, k⟩ := h
    refine ⟨_, (pss_cons (ps_set (i := 3) sc_ordered.nd rfl (Or.inl rfl) (pe_callTy (call_dictT (hu5 hr)) (by rfl) T.free_dict (by decide +kernel) (pa_cons (pv 0) pa_nil)))
  (pss_cons (ps_dput (hu_of hr) (pv 3) (pe_tup (pa_cons (pv 1) (pa_cons (pv 2) pa_nil))) pe_bl rfl)
  (pss_one (ps_ret (pv 3))))), ?_⟩
    refine q_asgP (ep_dcopy hd (ev_var rfl) hn hl) fun v H1 e1 r1 => ?_
    obtain ⟨q, rfl, hq, hq1⟩ := r1
    refine s_dputT (p := (i, j)) (D := { nx := _, rt := _ }) hq1 (ev_var rfl) (eu_tup (ea_cons (ev_var rfl) (ea_cons (ev_var rfl) ea_nil)) (show 2 ≤ 100000 by decide)) rfl rfl ev_c hp (by omega) fun H2 e2 => ?_
    exact s_ret (ev_var rfl) fun H3 e3 => k _ _ ((Ex.mut (e1.trans e2) hq).trans e3) ⟨q, rfl, e3 _ _ upd_same⟩
def spIsOrd : Sp := fun vs H Q _ => ∃ (d : Addr) (o : Ord) (i j : Nat), vs = [.ref d, .int (i : Int), .int (j : Int)] ∧ OrdAt o d H ∧ RetV (.bl (o.contains (i, j) || o.contains (j, i))) H Q
theorem ok_is_ordered (T : TX K mg) : Fp P w K mg base 1 ("is_ordered", none) ["order", "i", "j"] spIsOrd := by
  refine Fp.of T.f_is_ordered sc_is_ordered (fun _ _ _ _ _ _ us hl => match us, hl with | [_, _, _], _ => rfl) (fun vs H Q E h => ?_) (fun cdv A outer s H vs Q E hr h => ?_)
  · obtain ⟨_, _, _, _, rfl, _⟩ := h; rfl
  · obtain ⟨d, o, i, j, rfl, hd, k⟩ := h
    refine ⟨_, (pss_one (ps_ret (pe_or (pe_cmp (pc_din (hu_of hr) (pe_tup (pa_cons (pv 1) (pa_cons (pv 2) pa_nil))) (pv 0))) (pe_one (pe_cmp (pc_din (hu_of hr) (pe_tup (pa_cons (pv 2) (pa_cons (pv 1) pa_nil))) (pv 0))))))), ?_⟩
    exact s_ret (ev_orV (ev_din (p := (i, j)) hd (eu_tup (ea_cons (ev_var rfl) (ea_cons (ev_var rfl) ea_nil)) (show 2 ≤ 100000 by decide)) rfl rfl (ev_var rfl)) fun _ => ev_din (p := (j, i)) hd (eu_tup (ea_cons (ev_var rfl) (ea_cons (ev_var rfl) ea_nil)) (show 2 ≤ 100000 by decide)) rfl rfl (ev_var rfl)) fun H1 e1 => k _ e1
def spTurns (K : PySem.W.Frag) : Sp := fun vs H Q _ => ∃ (p t : Addr) (al : List Int) (B : Tab) (n : Nat) (ring : List Nat), vs = [.ref p, .ref t] ∧ NeedsAt K al B p H ∧ TabOk n B ∧ SqT K H t (natV ring) ∧ (∀ k, k < ring.length → adj B (ring.getD k 0) (nxt ring k) ∧ ring.getD k 0 < n ∧ nxt ring k < n) ∧ RetV (.int (ringTurns B ring)) H Q
theorem ok_ring_turns (T : TX K mg) : Fp P w K mg base 1 ("ring_turns", none) ["needs", "ring"] (spTurns K) := by
  refine Fp.of T.f_ring_turns sc_ring_turns (fun _ _ _ _ _ _ us hl => match us, hl with | [_, _], _ => rfl) (fun vs H Q E h => ?_) (fun cdv A outer s H vs Q E hr h => ?_)
  · obtain ⟨_, _, _, _, _, _, rfl, _⟩ := h; rfl
  · obtain ⟨p, t, al, B, n, ring, rfl, hn, tab, ht, hring, k⟩ := h
    refine ⟨_, (pss_cons (ps_set (i := 2) sc_ring_turns.nd rfl (Or.inl rfl) pe_int)
  (pss_cons (ps_for PassesOwn.never rfl (pi_enumT (by rfl) T.free_enumerate (pa_cons (pv 1) pa_nil)) (pg_tup rfl (pgs_cons (pg_name (i := 3) sc_ring_turns.nd rfl (Or.inl rfl)) (pgs_cons (pg_name (i := 4) sc_ring_turns.nd rfl (Or.inl rfl)) pgs_nil))) (pss_one (ps_set (i := 2) sc_ring_turns.nd rfl (Or.inl rfl) (pe_op op_add (pv 2) (pe_ix ix_list (pe_ix ix_list (pe_fld (pv 0) rfl) (pv 4) (fun _ _ => rfl)) (pe_ix ix_tup (pv 1) (pe_op op_modN (pe_op op_add (pv 3) pe_int) (pe_callB call_len_seq (by rfl) T.free_len PySem.boot_len (pa_cons (pv 1) pa_nil))) (fun _ _ => rfl)) (fun _ _ => rfl))))))
  (pss_one (ps_ret (pv 2))))), ?_⟩
    refine q_asg ev_c fun H1 e1 => ?_
    refine q_forET (ea_cons (ev_var rfl) ea_nil) (ex_t e1 ht) (fun m σ' H' => Ex H H' ∧ ∃ x y, σ' = [some (.ref p), some (.ref t), some (.int (rtF B ring m)), x, y])
      (fun H2 e2 => ⟨e1.trans e2, none, none, rfl⟩) (fun m σ' H' _ hP => ex_t hP.1 ht) (fun m x σ' H' hx hP H2 e2 => ?_) (fun σ' H' hP => ?_)
    · obtain ⟨e0, x3, x4, rfl⟩ := hP
      have hm : m < ring.length := by
        have := (List.getElem?_eq_some_iff.mp hx).1
        rw [natV_len] at this
        exact this
      rw [natV_get hm] at hx
      cases hx
      obtain ⟨ha, h1, h2⟩ := hring m hm
      obtain ⟨row, y, hrow, hy⟩ := tab.get h1 h2
      have e02 := e0.trans e2
      refine s_asg (ev_op (ev_var rfl) (ev_is (w := .int (bi B (ring.getD m 0) (nxt ring m))) (ev_beh T (hn.up e02) hrow hy (ev_var rfl) (ev_var rfl) (ev_nxt (ex_t e02 ht) hm (ev_var rfl) (ev_var rfl))) (by rw [adj_bi ha]; rfl)) rv_I0) fun H3 e3 => ?_
      exact ⟨e02.trans e3, _, _, rfl⟩
    · obtain ⟨e0, x3, x4, rfl⟩ := hP
      rw [natV_len]
      exact s_ret (ev_var rfl) fun H2 e2 => k _ (e0.trans e2)
def rdV : Option Nat → V
  | none => .non
  | some r => .int (r : Int)
def spRounds (K : PySem.W.Frag) : Sp := fun vs H Q _ => ∃ (d t : Addr) (o : Ord) (ring : List Nat), vs = [.ref d, .ref t] ∧ OrdAt o d H ∧ SqT K H t (natV ring) ∧ RetV (rdV (ringRounds o ring)) H Q
theorem rr_none {o : Ord} {ring : List Nat} {m : Nat} (h : rrF o ring m = none) : ∀ d, rrF o ring (m + d) = none
  | 0 => h
  | d + 1 => by
    show (match rrF o ring (m + d) with | none => none | some r => _) = _
    rw [rr_none h d]
theorem ok_ring_rounds (T : TX K mg) : Fp P w K mg base 1 ("ring_rounds", none) ["order", "ring"] (spRounds K) := by
  refine Fp.of T.f_ring_rounds sc_ring_rounds (fun _ _ _ _ _ _ us hl => match us, hl with | [_, _], _ => rfl) (fun vs H Q E h => ?_) (fun cdv A outer s H vs Q E hr h => ?_)
  · obtain ⟨_, _, _, _, rfl, _⟩ := h; rfl
  · obtain ⟨d, t, o, ring, rfl, hd, ht, k⟩ := h
    refine ⟨_, (pss_cons (ps_set (i := 2) sc_ring_rounds.nd rfl (Or.inl rfl) pe_int)
  (pss_cons (ps_for PassesOwn.never rfl (pi_enumT (by rfl) T.free_enumerate (pa_cons (pv 1) pa_nil)) (pg_tup rfl (pgs_cons (pg_name (i := 3) sc_ring_rounds.nd rfl (Or.inl rfl)) (pgs_cons (pg_name (i := 4) sc_ring_rounds.nd rfl (Or.inl rfl)) pgs_nil))) (pss_cons (ps_set (i := 5) sc_ring_rounds.nd rfl (Or.inl rfl) (pe_ix ix_tup (pv 1) (pe_op op_modN (pe_op op_add (pv 3) pe_int) (pe_callB call_len_seq (by rfl) T.free_len PySem.boot_len (pa_cons (pv 1) pa_nil))) (fun _ _ => rfl)))
  (pss_one (ps_if (pt_cmp (pc_din (hu_of hr) (pe_tup (pa_cons (pv 5) (pa_cons (pv 4) pa_nil))) (pv 0))) (pss_one (ps_set (i := 2) sc_ring_rounds.nd rfl (Or.inl rfl) (pe_op op_add (pv 2) pe_int))) (pss_one (ps_if (pt_cmp (pc_dnotin (hu_of hr) (pe_tup (pa_cons (pv 4) (pa_cons (pv 5) pa_nil))) (pv 0))) (pss_one (ps_ret pe_non)) pss_nil))))))
  (pss_one (ps_ret (pv 2))))), ?_⟩
    refine q_asg ev_c fun H1 e1 => ?_
    refine q_forET (ea_cons (ev_var rfl) ea_nil) (ex_t e1 ht) (fun m σ' H' => Ex H H' ∧ ∃ r : Nat, rrF o ring m = some r ∧ ∃ x y z, σ' = [some (.ref d), some (.ref t), some (.int (r : Int)), x, y, z])
      (fun H2 e2 => ⟨e1.trans e2, 0, rfl, none, none, none, rfl⟩) (fun m σ' H' _ hP => ex_t hP.1 ht) (fun m x σ' H' hx hP H2 e2 => ?_) (fun σ' H' hP => ?_)
    · obtain ⟨e0, r, er, x3, x4, x5, rfl⟩ := hP
      have hm : m < ring.length := by
        have := (List.getElem?_eq_some_iff.mp hx).1
        rw [natV_len] at this
        exact this
      rw [natV_get hm] at hx
      cases hx
      have e02 := e0.trans e2
      have hs : rrF o ring (m + 1) = if (nxt ring m, ring.getD m 0) ∈ o then some (r + 1) else if (ring.getD m 0, nxt ring m) ∈ o then some r else none := by
        show (match rrF o ring m with | none => none | some r => _) = _
        rw [er]
      refine q_asg (ev_nxt (ex_t e02 ht) hm (ev_var rfl) (ev_var rfl)) fun H3 e3 => ?_
      have e03 := e02.trans e3
      refine s_if (et_B (ev_din (p := (nxt ring m, ring.getD m 0)) (e03 _ _ hd) (eu_tup (ea_cons (ev_var rfl) (ea_cons (ev_var rfl) ea_nil)) (show 2 ≤ 100000 by decide)) rfl rfl (ev_var rfl))) (fun hc H4 e4 => ?_) (fun hc H4 e4 => ?_)
      · have hin : (nxt ring m, ring.getD m 0) ∈ o := by simpa using hc
        rw [if_pos hin] at hs
        refine s_asg (ev_op (ev_var rfl) ev_c rv_I0) fun H5 e5 => ?_
        exact ⟨(e03.trans e4).trans e5, r + 1, hs, _, _, _, rfl⟩
      · have hin : (nxt ring m, ring.getD m 0) ∉ o := by simpa using hc
        rw [if_neg hin] at hs
        refine s_when (et_B (?_ : Ev (tDNotIn _ _) _ H4 (.bl (!o.contains (ring.getD m 0, nxt ring m))))) (fun hc2 H5 e5 => ?_) (fun hc2 H5 e5 => ?_)
        · intro H6 e6 Q q
          refine (eu_tup (ea_cons (ev_var rfl) (ea_cons (ev_var rfl) ea_nil)) (show 2 ≤ 100000 by decide) : EvU _ _ H4 [.int ((ring.getD m 0 : Nat) : Int), .int ((nxt ring m : Nat) : Int)]) H6 e6 _ fun b H7 _ e7 hb => (ev_var rfl : Ev (tVar 0) _ H4 (.ref d)) H7 (e6.trans e7) _ fun H8 e8 => ⟨d, _, rfl, DGet.t (k := keyP (ring.getD m 0, nxt ring m)) (e8 _ _ (e7 _ _ (e6 _ _ (e4 _ _ (e03 _ _ hd))))) (e8 _ _ hb), ?_⟩
          rw [valV_ord]
          exact q H8 (e7.trans e8)
        · have hin2 : (ring.getD m 0, nxt ring m) ∉ o := by simpa using hc2
          rw [if_neg hin2] at hs
          have hno : ringRounds o ring = none := by
            have := rr_none hs (ring.length - (m + 1))
            rw [show m + 1 + (ring.length - (m + 1)) = ring.length by omega] at this
            exact this
          rw [hno] at k
          exact s_ret ev_c fun H6 e6 => k _ (((e03.trans e4).trans e5).trans e6)
        · have hin2 : (ring.getD m 0, nxt ring m) ∈ o := by simpa using hc2
          rw [if_pos hin2] at hs
          exact ⟨(e03.trans e4).trans e5, r, hs, _, _, _, rfl⟩
    · obtain ⟨e0, r, er, x3, x4, x5, rfl⟩ := hP
      rw [natV_len] at er
      have : ringRounds o ring = some r := er
      rw [this] at k
      exact s_ret (ev_var rfl) fun H2 e2 => k _ (e0.trans e2)
end
end Lw


set_option Elab.async false
set_option linter.all false
set_option maxRecDepth 100000
set_option maxHeartbeats 4000000
namespace Lw
open PySem PySem.Spec PyProof.Rows L2 Evl
/-! ### comprehensions whose items are made -/
/-- what the turns keep: the list at Dl holds acc, of which Acc is told -/
def CwG (Acc : Nat → List V → Addr → Hp → Prop) (H : Hp) (Dl : Addr) (i : Nat) (H' : Hp) : Prop := H Dl = none ∧ Ex H H' ∧ ∃ acc, H' Dl = some (.lst acc) ∧ Acc i acc Dl H'
structure AccOk (Acc : Nat → List V → Addr → Hp → Prop) (f : Nat → Bool) : Prop where
  zero : ∀ Dl H1, Acc 0 [] Dl H1
  up : ∀ i acc Dl H1 H2, Ex H1 H2 → Acc i acc Dl H1 → Acc i acc Dl H2
  no : ∀ i acc Dl H1, f i = false → Acc i acc Dl H1 → Acc (i + 1) acc Dl H1
  len : ∀ i acc Dl H1, Acc i acc Dl H1 → acc.length ≤ i
section
variable {K : PySem.W.Frag} {σ : L2.St} {H H' : Hp} {te : TE} {t : TT} {Acc : Nat → List V → Addr → Hp → Prop} {f : Nat → Bool}
theorem cwg_turn {Dl : Addr} {i : Nat} {σ2 : L2.St} (ok : AccOk Acc f) (p : CwG Acc H Dl i H') (hi : i < 50000) (ht : EvT t σ2 H (f i))
    (he : f i = true → ∀ acc H1, Ex H H1 → H1 Dl = some (.lst acc) → Acc i acc Dl H1 → EvP te σ2 H1 (fun v H2 => Acc (i + 1) (acc ++ [v]) Dl (upd H2 Dl (.lst (acc ++ [v]))))) :
    t σ2 H' fun b H3 => if b = true then te σ2 H3 fun y H4 => ∃ acc, H4 Dl = some (.lst acc) ∧ acc.length < sizeLine ∧ CwG Acc H Dl (i + 1) (upd H4 Dl (.lst (acc ++ [y]))) else CwG Acc H Dl (i + 1) H3 := by
  obtain ⟨p1, p2, acc, p3, p4⟩ := p
  refine ht H' p2 _ fun H3 e3 => ?_
  cases hf : f i with
  | true =>
    show te σ2 H3 fun y H4 => ∃ acc, H4 Dl = some (.lst acc) ∧ acc.length < sizeLine ∧ CwG Acc H Dl (i + 1) (upd H4 Dl (.lst (acc ++ [y])))
    refine he hf acc H3 (p2.trans e3) (e3 _ _ p3) (ok.up _ _ _ _ _ e3 p4) H3 (Ex.refl H3) _ fun y H4 e4 r => ⟨acc, e4 Dl _ (e3 Dl _ p3), sz_lt (by have := ok.len _ _ _ _ p4; omega), p1, Ex.mut ((p2.trans e3).trans e4) p1, _, upd_same, r⟩
  | false =>
    show CwG Acc H Dl (i + 1) H3
    exact ⟨p1, p2.trans e3, acc, e3 Dl _ p3, ok.no _ _ _ _ hf (ok.up _ _ _ _ _ e3 p4)⟩
abbrev Lcd (Acc : Nat → List V → Addr → Hp → Prop) (H : Hp) (n : Nat) : V → Hp → Prop := fun v H' => ∃ Dl acc, v = .ref Dl ∧ H Dl = none ∧ H' Dl = some (.lst acc) ∧ Acc n acc Dl H'
theorem ep_lcR1 {ta : TA} {j : Nat} {vs : List Nat} {n : Int} (Acc : Nat → List V → Addr → Hp → Prop) (f : Nat → Bool) (ok : AccOk Acc f) (h : EvA ta σ H [.int n]) (hn : 0 ≤ n ∧ n ≤ 40000) (hw : ∀ x, wipe ((wipe σ vs).set j (some x)) vs = wipe σ vs)
    (ht : ∀ (i : Nat) H1, Ex H H1 → (i : Int) < n → EvT t ((wipe σ vs).set j (some (.int (i : Int)))) H1 (f i))
    (he : ∀ (i : Nat) H0, Ex H H0 → (i : Int) < n → f i = true → ∀ acc Dl H1, Ex H0 H1 → H1 Dl = some (.lst acc) → Acc i acc Dl H1 → EvP te ((wipe σ vs).set j (some (.int (i : Int)))) H1 (fun v H2 => Acc (i + 1) (acc ++ [v]) Dl (upd H2 Dl (.lst (acc ++ [v]))))) :
    EvP (tLc (iRng1 ta) (gName j) t te vs) σ H (Lcd Acc H n.toNat) := fun H0 e Q q => h H0 e _ fun H1 e1 => ⟨n, rfl, by omega, by omega, fun Dl hD =>
  lc_range (lo := 0) (n := n.toNat) (CwG Acc H1 Dl) ⟨hD, Ex.new hD, [], upd_same, ok.zero _ _⟩ (fun i H' hi p => by
    have e0 : (0 : Int) + (i : Int) = (i : Int) := Int.zero_add _
    show wipe ((wipe σ vs).set j (some (.int ((0 : Int) + (i : Int))))) vs = wipe σ vs ∧ t ((wipe σ vs).set j (some (.int ((0 : Int) + (i : Int))))) H' fun b H3 => if b = true then te ((wipe σ vs).set j (some (.int ((0 : Int) + (i : Int))))) H3 fun y H4 => ∃ acc, H4 Dl = some (.lst acc) ∧ acc.length < sizeLine ∧ CwG Acc H1 Dl (i + 1) (upd H4 Dl (.lst (acc ++ [y]))) else CwG Acc H1 Dl (i + 1) H3
    rw [e0]
    exact ⟨hw _, cwg_turn ok p (by omega) (ht i H1 (e.trans e1) (by omega)) (fun hf acc H2 e2 h2 a2 => he i H1 (e.trans e1) (by omega) hf acc Dl H2 e2 h2 a2)⟩) (fun H' p => by
      obtain ⟨p1, p2, acc, p3, p4⟩ := p
      exact q _ H' (e1.trans p2) ⟨Dl, acc, rfl, fresh_back (e.trans e1) p1, p3, p4⟩)⟩
theorem ep_lcR2 {ta : TA} {j : Nat} {vs : List Nat} {lo n : Int} (Acc : Nat → List V → Addr → Hp → Prop) (f : Nat → Bool) (ok : AccOk Acc f) (h : EvA ta σ H [.int lo, .int n]) (hn : 0 ≤ lo ∧ lo ≤ 40000 ∧ -40000 ≤ n ∧ n ≤ 40000) (hw : ∀ x, wipe ((wipe σ vs).set j (some x)) vs = wipe σ vs)
    (ht : ∀ (i : Nat) H1, Ex H H1 → lo + (i : Int) < n → EvT t ((wipe σ vs).set j (some (.int (lo + (i : Int))))) H1 (f i))
    (he : ∀ (i : Nat) H0, Ex H H0 → lo + (i : Int) < n → f i = true → ∀ acc Dl H1, Ex H0 H1 → H1 Dl = some (.lst acc) → Acc i acc Dl H1 → EvP te ((wipe σ vs).set j (some (.int (lo + (i : Int))))) H1 (fun v H2 => Acc (i + 1) (acc ++ [v]) Dl (upd H2 Dl (.lst (acc ++ [v]))))) :
    EvP (tLc (iRng2 ta) (gName j) t te vs) σ H (Lcd Acc H (n - lo).toNat) := fun H0 e Q q => h H0 e _ fun H1 e1 => ⟨lo, n, rfl, ⟨by omega, by omega, by omega, by omega⟩, fun Dl hD =>
  lc_range (lo := lo) (n := (n - lo).toNat) (CwG Acc H1 Dl) ⟨hD, Ex.new hD, [], upd_same, ok.zero _ _⟩ (fun i H' hi p =>
    ⟨hw _, cwg_turn ok p (by omega) (ht i H1 (e.trans e1) (by omega)) (fun hf acc H2 e2 h2 a2 => he i H1 (e.trans e1) (by omega) hf acc Dl H2 e2 h2 a2)⟩) (fun H' p => by
      obtain ⟨p1, p2, acc, p3, p4⟩ := p
      exact q _ H' (e1.trans p2) ⟨Dl, acc, rfl, fresh_back (e.trans e1) p1, p3, p4⟩)⟩
theorem ep_lcL {xs : List V} {tl : TE} {j : Nat} {vs : List Nat} (Acc : Nat → List V → Addr → Hp → Prop) (f : Nat → Bool) (ok : AccOk Acc f) (h : EvP tl σ H (fun v H' => ∃ a, v = .ref a ∧ SqL K H' a xs)) (hz : xs.length ≤ 40000) (hw : ∀ x, wipe ((wipe σ vs).set j (some x)) vs = wipe σ vs)
    (ht : ∀ (i : Nat) (x : V) H1, Ex H H1 → xs[i]? = some x → EvT t ((wipe σ vs).set j (some x)) H1 (f i))
    (he : ∀ (i : Nat) (x : V) H0, Ex H H0 → xs[i]? = some x → f i = true → ∀ acc Dl H1, Ex H0 H1 → H1 Dl = some (.lst acc) → Acc i acc Dl H1 → EvP te ((wipe σ vs).set j (some x)) H1 (fun v H2 => Acc (i + 1) (acc ++ [v]) Dl (upd H2 Dl (.lst (acc ++ [v]))))) :
    EvP (tLc (iList K tl) (gName j) t te vs) σ H (Lcd Acc H xs.length) := fun H0 e Q q => h H0 e _ fun w H1 e1 r => by
  obtain ⟨a, rfl, hx⟩ := r
  exact ⟨a, rfl, ⟨xs, hx⟩, fun Dl hD =>
    lc_list (xs := xs) (CwG Acc H1 Dl) ⟨hD, Ex.new hD, [], upd_same, ok.zero _ _⟩ (fun i H' _ p => ex_l p.2.1 hx) (fun i x H' hi p =>
      ⟨hw x, cwg_turn ok p (by have := (List.getElem?_eq_some_iff.mp hi).1; omega) (ht i x H1 (e.trans e1) hi) (fun hf acc H2 e2 h2 a2 => he i x H1 (e.trans e1) hi hf acc Dl H2 e2 h2 a2)⟩) (fun H' p => by
        obtain ⟨p1, p2, acc, p3, p4⟩ := p
        exact q _ H' (e1.trans p2) ⟨Dl, acc, rfl, fresh_back (e.trans e1) p1, p3, p4⟩)⟩
theorem ep_lcT {xs : List V} {tl : TE} {j : Nat} {vs : List Nat} (Acc : Nat → List V → Addr → Hp → Prop) (f : Nat → Bool) (ok : AccOk Acc f) (h : EvP tl σ H (fun v H' => ∃ a, v = .ref a ∧ SqT K H' a xs)) (hz : xs.length ≤ 40000) (hw : ∀ x, wipe ((wipe σ vs).set j (some x)) vs = wipe σ vs)
    (ht : ∀ (i : Nat) (x : V) H1, Ex H H1 → xs[i]? = some x → EvT t ((wipe σ vs).set j (some x)) H1 (f i))
    (he : ∀ (i : Nat) (x : V) H0, Ex H H0 → xs[i]? = some x → f i = true → ∀ acc Dl H1, Ex H0 H1 → H1 Dl = some (.lst acc) → Acc i acc Dl H1 → EvP te ((wipe σ vs).set j (some x)) H1 (fun v H2 => Acc (i + 1) (acc ++ [v]) Dl (upd H2 Dl (.lst (acc ++ [v]))))) :
    EvP (tLc (iTup K tl) (gName j) t te vs) σ H (Lcd Acc H xs.length) := fun H0 e Q q => h H0 e _ fun w H1 e1 r => by
  obtain ⟨a, rfl, hx⟩ := r
  exact ⟨a, rfl, ⟨xs, hx⟩, fun Dl hD =>
    lc_tup (xs := xs) (CwG Acc H1 Dl) ⟨hD, Ex.new hD, [], upd_same, ok.zero _ _⟩ (fun i H' _ p => ex_t p.2.1 hx) (fun i x H' hi p =>
      ⟨hw x, cwg_turn ok p (by have := (List.getElem?_eq_some_iff.mp hi).1; omega) (ht i x H1 (e.trans e1) hi) (fun hf acc H2 e2 h2 a2 => he i x H1 (e.trans e1) hi hf acc Dl H2 e2 h2 a2)⟩) (fun H' p => by
        obtain ⟨p1, p2, acc, p3, p4⟩ := p
        exact q _ H' (e1.trans p2) ⟨Dl, acc, rfl, fresh_back (e.trans e1) p1, p3, p4⟩)⟩
/-- a tuple and one more tuple -/
theorem eu_cat {ta tb : TE} {a : Addr} {xs ys : List V} (ha : Ev ta σ H (.ref a)) (hx : SqT K H a xs) (hb : EvU tb σ H ys) (h1 : xs ≠ []) (h2 : ys ≠ []) (hl : xs.length + ys.length ≤ 100000) : EvU (tOp (rCatT K) ta tb) σ H (xs ++ ys) := fun H1 e1 Q q =>
  ha H1 e1 _ fun H2 e2 => hb H2 (e1.trans e2) _ fun b H3 hb3 e3 h3 => ⟨a, b, xs, ys, rfl, rfl, ex_t ((e1.trans e2).trans e3) hx, st_of h3, h1, sz_of hl, fun z => absurd z h2, fun _ p hp => q p _ (fresh_back (e2.trans e3) hp) ((e2.trans e3).trans (Ex.new hp)) upd_same⟩
end
section
variable {K : PySem.W.Frag} {σ : L2.St} {H H' : Hp} {ta tb : TE}
/-- a tuple that is known to have no dict -/
def KnT (xs : List V) (a : Addr) (H : Hp) : Prop := ∃ o : Obj, o.dict = none ∧ H a = some (.frz o (.tup xs))
theorem KnT.sq {xs : List V} {a : Addr} (h : KnT xs a H) : SqT K H a xs := let ⟨o, _, h⟩ := h; .inl (.inr ⟨o, h⟩)
theorem KnT.up {xs : List V} {a : Addr} (h : KnT xs a H) (e : Ex H H') : KnT xs a H' := let ⟨o, h1, h2⟩ := h; ⟨o, h1, e _ _ h2⟩
theorem ep_tupF {ta : TA} {vs : List V} (h : EvA ta σ H vs) (hl : vs.length ≤ 100000) : EvP (tTupF ta) σ H (fun w H' => ∃ p, w = .ref p ∧ KnT vs p H') := fun H1 e Q q =>
  h H1 e _ fun H2 e2 => ⟨sz_of hl, fun p o hp ho => q _ _ (e2.trans (Ex.new hp)) ⟨p, rfl, o, ho, upd_same⟩⟩
theorem ep_catF {a : Addr} {xs ys : List V} (ha : Ev ta σ H (.ref a)) (hx : SqT K H a xs) (hb : EvU tb σ H ys) (h1 : xs ≠ []) (h2 : ys ≠ []) (hl : xs.length + ys.length ≤ 100000) : EvP (tOp (rCatTF K) ta tb) σ H (fun w H' => ∃ p, w = .ref p ∧ KnT (xs ++ ys) p H') := fun H1 e1 Q q =>
  ha H1 e1 _ fun H2 e2 => hb H2 (e1.trans e2) _ fun b H3 hb3 e3 h3 => ⟨a, b, xs, ys, rfl, rfl, ex_t ((e1.trans e2).trans e3) hx, st_of h3, h1, h2, sz_of hl, fun p o hp ho => q _ _ ((e2.trans e3).trans (Ex.new hp)) ⟨p, rfl, o, ho, upd_same⟩⟩
end
/-- a row of numbers, a tuple -/
def NatAt (row : List Nat) (a : Addr) (H : Hp) : Prop := KnT (natV row) a H
theorem NatAt.sq {row : List Nat} {a : Addr} {K : PySem.W.Frag} {H : Hp} (h : NatAt row a H) : SqT K H a (natV row) := KnT.sq h
theorem NatAt.up {row : List Nat} {a : Addr} {H H' : Hp} (h : NatAt row a H) (e : Ex H H') : NatAt row a H' := KnT.up h e
def tupO : HO → Prop
  | .tup _ => True
  | .frz _ (.tup _) => True
  | _ => False
/-- of tuples: a list's change leaves it -/
def TupR {α : Type} (R : α → Addr → Hp → Prop) : Prop := ∀ x a H H', (∀ b u, tupO u → H b = some u → H' b = some u) → R x a H → R x a H'
theorem tups_upd {H : Hp} {l : Addr} {xs : List V} {o : HO} (hl : H l = some (.lst xs)) : ∀ b u, tupO u → H b = some u → (upd H l o) b = some u := fun b u hu h => by
  rw [upd_ne (ne_of h hl (by intro z; subst z; exact hu))]
  exact h
theorem NatAt.tup : TupR NatAt := fun _ _ _ _ h r => let ⟨o, h1, h2⟩ := r; ⟨o, h1, h _ _ trivial h2⟩
theorem AllAt.tups {α : Type} {R : α → Addr → Hp → Prop} (hR : TupR R) {H H' : Hp} {as : List Addr} {xs : List α} (h : AllAt R H as xs) (k : ∀ b u, tupO u → H b = some u → H' b = some u) : AllAt R H' as xs := h.imp fun x a r => hR x a H H' k r
theorem TupR.up {α : Type} {R : α → Addr → Hp → Prop} (hR : TupR R) {x : α} {a : Addr} {H H' : Hp} (e : Ex H H') (r : R x a H) : R x a H' := hR x a H H' (fun b u _ h => e b _ h) r
def RingAt (x : List Nat × Int) (a : Addr) (H : Hp) : Prop := ∃ t, H a = some (.tup [.ref t, .int x.2]) ∧ NatAt x.1 t H
theorem RingAt.tup : TupR RingAt := fun _ _ _ _ h r => let ⟨t, r1, r2⟩ := r; ⟨t, h _ _ trivial r1, NatAt.tup _ _ _ _ h r2⟩
def RingsAt (rs : List (List Nat × Int)) (a : Addr) (H : Hp) : Prop := ∃ as : List Addr, H a = some (.lst (as.map V.ref)) ∧ AllAt RingAt H as rs
theorem RingsAt.up {rs : List (List Nat × Int)} {a : Addr} {H H' : Hp} (h : RingsAt rs a H) (e : Ex H H') : RingsAt rs a H' := let ⟨as, h1, h2⟩ := h; ⟨as, e _ _ h1, h2.imp fun _ _ r => RingAt.tup.up e r⟩
theorem extN_snoc (B : Tab) (row : List Nat) (c : Nat) : extN B row (c + 1) = extN B row c ++ (if extOk B row (row.getD 0 0 + 1 + c) then [row ++ [row.getD 0 0 + 1 + c]] else []) := by
  unfold extN
  rw [List.range_succ, List.map_append, List.filter_append, List.map_append, List.map_singleton, List.filter_cons]
  split <;> rfl
theorem inV_nat (x : Nat) (row : List Nat) : inV (.int (x : Int)) (natV row) = row.contains x := by
  have : natV row = (row.map fun k : Nat => (k : Int)).map V.int := by
    unfold natV
    rw [List.map_map]; rfl
  rw [this, inV_int, List.contains_eq_mem]
  rw [decide_eq_decide, List.mem_map]
  constructor
  · rintro ⟨y, hy, e⟩
    have : y = x := by omega
    exact this ▸ hy
  · intro h
    exact ⟨x, h, rfl⟩
theorem flat_nat (row : List Nat) : (natV row).all flatV = true := by
  unfold natV
  rw [List.all_map]
  exact List.all_eq_true.mpr fun _ _ => rfl
theorem bw_small {B : Tab} {n m : Nat} (h5 : n ≤ 5) (hr : Run B n m) : m + meas B n m ≤ 2000 := by
  induction m with
  | zero =>
    unfold meas
    rw [List.drop_zero]
    have e := pot_const n (wtp (n - 1)) (bw B n 0) fun r hr => by
      obtain ⟨k, _, rfl⟩ := List.mem_map.mp (show r ∈ (List.range n).map fun k => [k] from hr)
      rfl
    rw [e]
    have hl : (bw B n 0).length = n := by
      show ((List.range n).map fun k => [k]).length = n
      simp
    rw [hl]
    have : n = 0 ∨ n = 1 ∨ n = 2 ∨ n = 3 ∨ n = 4 ∨ n = 5 := by omega
    rcases this with rfl | rfl | rfl | rfl | rfl | rfl <;> decide
  | succ m ih =>
    have h1 := ih fun k hk => hr k (by omega)
    have h2 := meas_step h5 (fun k hk => hr k (by omega)) (hr m (by omega))
    omega
theorem pot_len (n : Nat) : ∀ l : List (List Nat), l.length ≤ pot n l
  | [] => Nat.zero_le _
  | r :: l => by
    have := pot_len n l
    have := wtp_pos (n - r.length)
    show l.length + 1 ≤ wtp (n - r.length) + pot n l
    omega
theorem bw_len {B : Tab} {n m : Nat} (h5 : n ≤ 5) (hr : Run B n m) : (bw B n m).length ≤ 4000 := by
  have h1 := bw_small h5 hr
  have h2 := pot_len n ((bw B n m).drop m)
  rw [List.length_drop] at h2
  unfold meas at h1
  omega
theorem rg_len {B : Tab} {n : Nat} : ∀ m, (rg B n m).length ≤ m
  | 0 => Nat.le_refl _
  | m + 1 => by
    have := rg_len (B := B) (n := n) m
    show (rg B n m ++ _).length ≤ m + 1
    rw [List.length_append]
    split <;> simp <;> omega
section
variable {P : Program} {w : World} {K : PySem.W.Frag} {mg : Str → Option Value} {base : Heap}
theorem ep_row0 (T : TX K mg) {al : List Int} {B : Tab} {p : Addr} {i : Nat} {row : List (Option Int)} {H : Hp} (hn : NeedsAt K al B p H) (hi : B[i]? = some row) :
    ∃ r, RowAt row r H ∧ ∀ (σ : L2.St) (H' : Hp) (tp ti : TE), Ex H H' → Ev tp σ H' (.ref p) → Ev ti σ H' (.int (i : Int)) → Ev (tOp (rIxL K) (tFld K tp "behind") ti) σ H' (.ref r) := by
  obtain ⟨dx, la, lb, rs, g1, g2, g3, g4⟩ := hn
  obtain ⟨r, hr, hrow⟩ := g4.get hi
  exact ⟨r, hrow, fun σ H' tp ti e h1 h2 => ev_op (ev_fld h1 (e _ _ g1) T.cl_Needs T.no_Needs_behind rfl) h2 (rv_ixL (SqL.lst (e _ _ g3)) (atI_nat (by rw [List.getElem?_map, hr]; rfl)))⟩
theorem sp_turns {p t : Addr} {al : List Int} {B : Tab} {n : Nat} {ring : List Nat} {H : Hp} (hn : NeedsAt K al B p H) (tab : TabOk n B) (ht : SqT K H t (natV ring)) (hr : ∀ k, k < ring.length → adj B (ring.getD k 0) (nxt ring k) ∧ ring.getD k 0 < n ∧ nxt ring k < n) :
    SpV (spTurns K) [.ref p, .ref t] H (.int (ringTurns B ring)) := fun H1 e Q q _ => ⟨p, t, al, B, n, ring, rfl, hn.up e, tab, ex_t e ht, hr, q⟩
def spRings (K : PySem.W.Frag) : Sp := fun vs H Q _ => ∃ (p : Addr) (al : List Int) (B : Tab) (n : Nat), vs = [.ref p] ∧ NeedsAt K al B p H ∧ Good n al B ∧ RetP (fun v H' => ∃ q m, v = .ref q ∧ IsEnd B n m ∧ RingsAt (rg B n m) q H') H Q
theorem Good.tab {n : Nat} {al : List Int} {B : Tab} (g : Good n al B) : TabOk n B := ⟨g.blen, g.brow⟩
theorem ok_rings_of (T : TX K mg) : Fp P w K mg base 2 ("rings_of", none) ["needs"] (spRings K) := by
  refine Fp.of T.f_rings_of sc_rings_of (fun _ _ _ _ _ _ us hl => match us, hl with | [_], _ => rfl) (fun vs H Q E h => ?_) (fun cdv A outer s H vs Q E hr h => ?_)
  · obtain ⟨_, _, _, _, rfl, _⟩ := h; rfl
  · obtain ⟨p, al, B, n, rfl, hn, g, k⟩ := h
    refine ⟨_, (pss_cons (ps_set (i := 1) sc_rings_of.nd rfl (Or.inl rfl) (pe_callB call_len_seq (by rfl) T.free_len PySem.boot_len (pa_cons (pe_fld (pv 0) rfl) pa_nil)))
  (pss_cons (ps_set (i := 2) sc_rings_of.nd rfl (Or.inl rfl) (pe_lst pa_nil))
  (pss_cons (ps_setLc (i := 3) (own := [("k", 4)]) (g := gName 4) rfl sc_rings_of.nd rfl rfl (sw_true rfl rfl rfl (by decide +kernel)) (pi_range1 (by rfl) T.free_range (pa_cons (pv 1) pa_nil)) (blkOk_by (own := [("k", 4)]) (N := N_rings_of) (sc := defScope s_rings_of) (by decide +kernel)) (fun _ _ _ _ _ => pg_name (i := 4) sc_rings_of.nd rfl (Or.inl rfl)) (fun _ _ _ _ _ => pts_nil) (fun _ _ _ _ _ => (pe_tupF (pa_cons (pv 4) pa_nil))))
  (pss_cons (ps_set (i := 5) sc_rings_of.nd rfl (Or.inl rfl) pe_int)
  (pss_cons (ps_while PassesOwn.never (pt_cmpR op_lt (pv 5) (pe_callB call_len_seq (by rfl) T.free_len PySem.boot_len (pa_cons (pv 3) pa_nil)) (nomark _)) (pss_cons (ps_set (i := 6) sc_rings_of.nd rfl (Or.inl rfl) (pe_ix ix_list (pv 3) (pv 5) (fun _ _ => rfl)))
  (pss_cons (ps_set (i := 7) sc_rings_of.nd rfl (Or.inl rfl) (pe_ix ix_list (pe_fld (pv 0) rfl) (pe_ix ix_tup (pv 6) (pe_un un_neg pe_int) (fun _ _ => rfl)) (fun _ _ => rfl)))
  (pss_cons (ps_if (PW.pt (pw_and (pt_cmpR op_gt (pe_callB call_len_seq (by rfl) T.free_len PySem.boot_len (pa_cons (pv 6) pa_nil)) pe_int (nomark _)) (pw_and1 (pt_cmpR op_notN (pe_ix ix_list (pv 7) (pe_ix ix_tup (pv 6) pe_int (fun _ _ => rfl)) (fun _ _ => rfl)) pe_non (nomark _))))) (pss_one (ps_expr (pe_bm PySem.F.plainAttrs_list PySem.F.slot_list_append PySem.F.type_list_append mt_append (pv 2) (pa_cons (pe_tup (pa_cons (pv 6) (pa_cons (pe_f (ok_ring_turns T) T.g_ring_turns (hr.mono (by decide)) (pa_cons (pv 0) (pa_cons (pv 6) pa_nil))) pa_nil))) pa_nil)))) pss_nil)
  (pss_cons (ps_for PassesOwn.never rfl (pi_range2 (by rfl) T.free_range (pa_cons (pe_op op_add (pe_ix ix_tup (pv 6) pe_int (fun _ _ => rfl)) pe_int) (pa_cons (pv 1) pa_nil))) (pg_name (i := 4) sc_rings_of.nd rfl (Or.inl rfl)) (pss_one (ps_if (PW.pt (pw_and (pt_cmpR op_notIn_seq (pv 4) (pv 6) rfl) (pw_and1 (pt_cmpR op_notN (pe_ix ix_list (pv 7) (pv 4) (fun _ _ => rfl)) pe_non (nomark _))))) (pss_one (ps_expr (pe_bm PySem.F.plainAttrs_list PySem.F.slot_list_append PySem.F.type_list_append mt_append (pv 3) (pa_cons (pe_op op_catTF (pv 6) (pe_tup (pa_cons (pv 4) pa_nil))) pa_nil)))) pss_nil)))
  (pss_one (ps_set (i := 5) sc_rings_of.nd rfl (Or.inl rfl) (pe_op op_add (pv 5) pe_int))))))))
  (pss_one (ps_ret (pv 2)))))))), ?_⟩
    obtain ⟨dx, la, lb, rs, g1, g2, g3, g4⟩ := id hn
    have h5 := g.n5
    refine q_asg (ev_len (ev_fld (ev_var rfl) g1 T.cl_Needs T.no_Needs_alone rfl) (SqL.lst g2)) fun H1 e1 => ?_
    rw [List.length_map, g.alen]
    refine q_asgL (el_lst ea_nil (Nat.zero_le _)) fun l1 H2 hl1 e2 hl1' => ?_
    -- ways
    refine q_asgP (ep_lcR1 (fun i acc Dl H' => ∃ as : List Addr, acc = as.map V.ref ∧ AllAt NatAt H' as ((List.range i).map fun k => [k])) (fun _ => true)
      ⟨fun Dl H1 => ⟨[], rfl, AllAt.nil⟩, fun i acc Dl H1 H2 e ⟨as, h1, h2⟩ => ⟨as, h1, h2.imp fun _ _ r => NatAt.tup.up e r⟩, fun i acc Dl H1 h _ => (by cases h), fun i acc Dl H1 ⟨as, h1, h2⟩ => (by
        rw [h1, List.length_map, h2.1]; simp)⟩ (ea_cons (ev_var rfl) ea_nil) (by omega) (fun _ => rfl) (fun i H3 e3 hi => et_yes) (fun i H3 e3 hi _ acc Dl H4 e4 hD ⟨as, h1, h2⟩ => ?_)) fun v H3 e3 r3 => ?_
    · intro H5 e5 Q q
      refine (ep_tupF (ea_cons (ev_var rfl) ea_nil) (show 1 ≤ 100000 by decide) : EvP _ _ H4 (fun w H' => ∃ p, w = .ref p ∧ KnT [.int (i : Int)] p H')) H5 e5 _ fun v H6 e6 r => ?_
      obtain ⟨b, rfl, h6⟩ := r
      refine q _ H6 e6 ⟨as ++ [b], by rw [h1, List.map_append]; rfl, ?_⟩
      rw [List.range_succ, List.map_append]
      have hD6 : H6 Dl = some (.lst acc) := e6 _ _ (e5 _ _ hD)
      exact ((h2.imp fun _ _ r => NatAt.tup.up (e5.trans e6) r).snoc (x := [i]) h6).tups NatAt.tup (tups_upd hD6)
    obtain ⟨l2, acc, rfl, hl2, hl2', as, rfl, has⟩ := r3
    rw [Int.toNat_natCast] at has
    have nl12 : l1 ≠ l2 := fun z => by
      subst z
      rw [hl1'] at hl2
      cases hl2
    have hl2H : H l2 = none := fresh_back (e1.trans e2) hl2
    have hl1H : H l1 = none := fresh_back e1 hl1
    refine q_asg ev_c fun H4 e4 => ?_
    have e14 := ((e1.trans e2).trans e3).trans e4
    -- the while
    refine q_while (fun M σ' H' => ∃ m : Nat, M = meas B n m ∧ Run B n m ∧ Ex H H' ∧ (∃ as : List Addr, H' l2 = some (.lst (as.map V.ref)) ∧ AllAt NatAt H' as (bw B n m)) ∧ (∃ bs : List Addr, H' l1 = some (.lst (bs.map V.ref)) ∧ AllAt RingAt H' bs (rg B n m)) ∧
        ∃ x4 x6 x7, σ' = [some (.ref p), some (.int (n : Int)), some (.ref l1), some (.ref l2), x4, some (.int (m : Int)), x6, x7]) (meas B n 0)
      ⟨0, rfl, fun k hk => by omega, e14, ⟨as, e4 _ _ hl2', has.imp fun _ _ r => NatAt.tup.up e4 r⟩, ⟨[], e4 _ _ (e3 _ _ hl1'), AllAt.nil⟩, _, _, _, rfl⟩ fun M σ' H' hW => ?_
    obtain ⟨m, rfl, run, e0, ⟨as, ha1, ha2⟩, ⟨bs, hb1, hb2⟩, x4, x6, x7, rfl⟩ := hW
    have hal : as.length = (bw B n m).length := ha2.1
    refine ⟨_, et_test (ev_op (ev_var rfl) (ev_len (ev_var rfl) (SqL.lst ha1)) rv_I0), fun hc H5 e5 => ?_, fun hc H5 e5 => ?_⟩
    · have hm : m < (bw B n m).length := by
        have := of_decide_eq_true hc
        rw [List.length_map] at this
        omega
      refine ⟨_, fun σ2 H2 h => h, ?_⟩
      obtain ⟨a, r, ea, ok⟩ := bw_ok m run _ (List.getElem_mem hm)
      have erow : (bw B n m)[m]? = some (a :: r) := by rw [List.getElem?_eq_getElem hm, ea]
      have egD : (bw B n m).getD m [] = a :: r := by rw [List.getD_eq_getElem?_getD, erow]; rfl
      obtain ⟨t, ht, hrow⟩ := ha2.get erow
      have hrowT : ∀ H', Ex H5 H' → SqT K H' t (natV (a :: r)) := fun H' e => ((hrow.up e5).up e).sq
      -- row = ways[at]
      refine q_asg (ev_op (ev_var rfl) (ev_var rfl) (rv_ixL (SqL.lst (e5 _ _ ha1)) (atI_nat (by rw [List.getElem?_map, ht]; rfl)))) fun H6 e6 => ?_
      -- last
      obtain ⟨pp, hpp⟩ := lastD_cons a r
      have hlastmem : lastD (a :: r) ∈ a :: r := by
        have : lastD (a :: r) ∈ pp ++ [lastD (a :: r)] := by simp
        rw [← hpp] at this
        exact this
      have hlastn : lastD (a :: r) < n := ok.lt _ hlastmem
      obtain ⟨lrow, _, hlrow, _⟩ := g.tab.get hlastn hlastn
      have hlrl : lrow.length = n := g.brow _ (List.mem_of_getElem? hlrow)
      have hidx : atI (natV (a :: r)) (-1) = some (.int (lastD (a :: r) : Nat)) := by
        have : natV (a :: r) = natV pp ++ [.int (lastD (a :: r) : Nat)] := by
          conv => lhs; rw [hpp]
          unfold natV
          rw [List.map_append]; rfl
        rw [this]
        exact atI_last _ _
      have e06 := (e0.trans e5).trans e6
      obtain ⟨lr, hlr0, hlrv⟩ := ep_row0 T hn hlrow
      have hlr := e06 _ _ hlr0
      have nlr1 : lr ≠ l1 := ne_of_none hlr0 hl1H
      have nlr2 : lr ≠ l2 := ne_of_none hlr0 hl2H
      refine q_asg (hlrv _ H6 _ _ e06 (ev_var rfl) (ev_op (ev_var rfl) (ev_un ev_c ru_neg) (rv_ixT (hrowT H6 e6) hidx))) fun H7 e7 => ?_
      have hlrT : ∀ H', Ex H7 H' → SqL K H' lr (lrow.map optV) := fun H' e => SqL.lst (e _ _ (e7 _ _ hlr))
      have hget : ∀ j, j < n → (lrow.map optV)[j]? = some (optV (bh B (lastD (a :: r)) j)) := fun j hj => by
        have h1 : lrow[j]? = some lrow[j] := List.getElem?_eq_getElem (by omega)
        rw [List.getElem?_map, h1, bh_get hlrow h1]; rfl
      have han : a < n := ok.lt a (by simp)
      have htn : ∀ H', Ex H7 H' → SqT K H' t (natV (a :: r)) := fun H' e => hrowT H' ((e6.trans e7).trans e)
      -- the ring
      have hisr : (decide (((natV (a :: r)).length : Int) > 1) && !decide (optV (bh B (lastD (a :: r)) a) = .non)) = isRing B (a :: r) := by
        unfold isRing
        congr 1
        · rw [natV_len, decide_eq_decide]; omega
        · rw [List.getD_cons_zero]
          cases bh B (lastD (a :: r)) a with
          | none => rfl
          | some z => rfl
      have hrgs : rg B n (m + 1) = rg B n m ++ (if isRing B (a :: r) then [(a :: r, ringTurns B (a :: r))] else []) := by
        show rg B n m ++ (if isRing B ((bw B n m).getD m []) then [((bw B n m).getD m [], ringTurns B ((bw B n m).getD m []))] else []) = _
        rw [egD]
      have hbws : bw B n (m + 1) = bw B n m ++ extN B (a :: r) (n - (a + 1)) := by
        show bw B n m ++ ext B n ((bw B n m).getD m []) = _
        rw [egD]
        rfl
      have e07 := e06.trans e7
      have e57 := (e5.trans e6).trans e7
      have e0t : ∀ H', Ex H7 H' → NeedsAt K al B p H' := fun H' e => hn.up (e07.trans e)
      have ringok : isRing B (a :: r) = true → ∀ k, k < (a :: r).length → adj B ((a :: r).getD k 0) (nxt (a :: r) k) ∧ (a :: r).getD k 0 < n ∧ nxt (a :: r) k < n := fun hi => by
        unfold isRing at hi
        obtain ⟨c1, c2⟩ := Bool.and_eq_true_iff.mp hi
        have hch := (chain_ring a r).mp ((ring_ch ok).mpr c2)
        exact fun k hk => ⟨hch k hk, (g.lt (hch k hk)).1, (g.lt (hch k hk)).2⟩
      refine q_whenM (fun H8 => Ex H H8 ∧ NatAt (a :: r) t H8 ∧ H8 lr = some (.lst (lrow.map optV)) ∧ H8 l2 = some (.lst (as.map V.ref)) ∧ AllAt NatAt H8 as (bw B n m) ∧ ∃ bs' : List Addr, H8 l1 = some (.lst (bs'.map V.ref)) ∧ AllAt RingAt H8 bs' (rg B n (m + 1)))
        (et_and (et_test (ev_op (ev_lenT (ev_var rfl) (htn H7 (Ex.refl _))) ev_c rv_I0)) (fun _ => et_test (ev_op (ev_op (ev_var rfl) (ev_op (ev_var rfl) ev_c (rv_ixT (htn H7 (Ex.refl _)) (atI_nat (j := 0) rfl))) (rv_ixL (hlrT H7 (Ex.refl _)) (atI_nat (hget a han)))) ev_c (fun H3 _ Q q => ⟨rfl, q H3 (Ex.refl _)⟩))))
        (fun hb H8 e8 N hN => ?_) (fun hb H8 e8 => ?_) (fun H8 hM => ?_)
      · rw [hisr] at hb
        refine s_appU (e8 _ _ (e57 _ _ hb1)) (ev_var rfl) (eu_tup (ea_cons (ev_var rfl) (ea_cons (ev_callV (ea_cons (ev_var rfl) (ea_cons (ev_var rfl) ea_nil)) (sp_turns (e0t H8 e8) g.tab (htn H8 e8) (ringok hb))) ea_nil)) (show 2 ≤ 100000 by decide)) (by
          rw [List.length_map, hb2.1]
          have := rg_len (B := B) (n := n) m
          have := bw_small h5 run
          omega) fun b H9 hb9 e9 h9 => hN _ ?_
        have hl19 : H9 l1 = some (.lst (bs.map V.ref)) := e9 _ _ (e8 _ _ (e57 _ _ hb1))
        have tk := tups_upd (o := .lst (bs.map V.ref ++ [V.ref b])) hl19
        refine ⟨Ex.mut ((e07.trans e8).trans e9) hl1H, NatAt.tup _ _ _ _ tk (((((hrow.up e5).up e6).up e7).up e8).up e9), ?_, ?_, ?_, bs ++ [b], ?_, ?_⟩
        · rw [upd_ne nlr1]
          exact e9 _ _ (e8 _ _ (e7 _ _ hlr))
        · rw [upd_ne nl12.symm]
          exact e9 _ _ (e8 _ _ (e57 _ _ ha1))
        · exact (ha2.imp fun _ _ z => NatAt.tup.up ((e57.trans e8).trans e9) z).tups NatAt.tup tk
        · rw [upd_same, List.map_append]; rfl
        · rw [hrgs, if_pos hb]
          exact ((hb2.imp fun _ _ z => RingAt.tup.up ((e57.trans e8).trans e9) z).snoc (x := (a :: r, ringTurns B (a :: r))) ⟨t, h9, ((((hrow.up e5).up e6).up e7).up e8).up e9⟩).tups RingAt.tup tk
      · rw [hisr] at hb
        refine ⟨e07.trans e8, (((hrow.up e5).up e6).up e7).up e8, e8 _ _ (e7 _ _ hlr), e8 _ _ (e57 _ _ ha1), ha2.imp fun _ _ z => NatAt.tup.up (e57.trans e8) z, bs, e8 _ _ (e57 _ _ hb1), ?_⟩
        rw [hrgs, if_neg (by rw [hb]; decide), List.append_nil]
        exact hb2.imp fun _ _ z => RingAt.tup.up (e57.trans e8) z
      · obtain ⟨f8, t8, lr8, l28, as8, bs', l18, bs8⟩ := hM
        refine q_forR2 (j := 4) (lo := (a : Int) + 1) (n := (n : Int)) (ea_cons (ev_op (ev_op (ev_var rfl) ev_c (rv_ixT t8.sq (atI_nat (j := 0) rfl))) ev_c rv_I0) (ea_cons (ev_var rfl) ea_nil)) (by omega)
          (fun c σ' H' => Ex H H' ∧ NatAt (a :: r) t H' ∧ H' lr = some (.lst (lrow.map optV)) ∧ (∃ as' : List Addr, H' l2 = some (.lst (as'.map V.ref)) ∧ AllAt NatAt H' as' (bw B n m ++ extN B (a :: r) c)) ∧ (H' l1 = some (.lst (bs'.map V.ref)) ∧ AllAt RingAt H' bs' (rg B n (m + 1))) ∧
            ∃ x4, σ' = [some (.ref p), some (.int (n : Int)), some (.ref l1), some (.ref l2), x4, some (.int (m : Int)), some (.ref t), some (.ref lr)])
          (fun H9 e9 => ⟨f8.trans e9, t8.up e9, e9 _ _ lr8, ⟨as, e9 _ _ l28, by
            rw [show extN B (a :: r) 0 = [] from rfl, List.append_nil]
            exact as8.imp fun _ _ z => NatAt.tup.up e9 z⟩, ⟨e9 _ _ l18, bs8.imp fun _ _ z => RingAt.tup.up e9 z⟩, _, rfl⟩) (fun c σ' H' hc hP => ?_) (fun σ' H' hP => ?_)
        · obtain ⟨f9, t9, lr9, ⟨as9, l29, as9'⟩, ⟨l19, bs9⟩, y4, rfl⟩ := hP
          have hk : a + 1 + c < n := by omega
          have ek : (a : Int) + 1 + (c : Int) = ((a + 1 + c : Nat) : Int) := by omega
          have hext : ((!inV (.int ((a : Int) + 1 + (c : Int))) (natV (a :: r))) && !decide (optV (bh B (lastD (a :: r)) (a + 1 + c)) = .non)) = extOk B (a :: r) (a + 1 + c) := by
            unfold extOk
            rw [ek, inV_nat]
            congr 1
            cases bh B (lastD (a :: r)) (a + 1 + c) with
            | none => rfl
            | some z => rfl
          have hsn := extN_snoc B (a :: r) c
          rw [List.getD_cons_zero] at hsn
          refine s_when (et_and (et_test (ev_op (ev_var rfl) (ev_var rfl) (rv_niT t9.sq rfl (flat_nat _)))) (fun _ => et_test (ev_op (ev_op (ev_var rfl) (ev_var rfl) (rv_ixL (SqL.lst lr9) (by rw [ek]; exact atI_nat (hget _ hk)))) ev_c (fun H3 _ Q q => ⟨rfl, q H3 (Ex.refl _)⟩)))) (fun hb H10 e10 => ?_) (fun hb H10 e10 => ?_)
          · rw [hext] at hb
            refine s_appP (e10 _ _ l29) (ev_var rfl) (ep_catF (ev_var rfl) (t9.up e10).sq (eu_tup (ea_cons (ev_var rfl) ea_nil) (show 1 ≤ 100000 by decide)) (by simp [natV]) (by simp) (by
              rw [natV_len]
              have := ok.len
              show (a :: r).length + 1 ≤ 100000
              omega)) (by
              rw [List.length_map, as9'.1, List.length_append]
              have h1 := bw_len h5 run
              have h2 : (extN B (a :: r) c).length ≤ c := by
                unfold extN
                rw [List.length_map]
                exact Nat.le_trans (List.length_filter_le _ _) (by simp)
              omega) fun v11 H11 e11 r11 => ?_
            obtain ⟨b, rfl, h11⟩ := r11
            have l211 : H11 l2 = some (.lst (as9.map V.ref)) := e11 _ _ (e10 _ _ l29)
            have tk := tups_upd (o := .lst (as9.map V.ref ++ [V.ref b])) l211
            refine ⟨Ex.mut ((f9.trans e10).trans e11) hl2H, NatAt.tup _ _ _ _ tk ((t9.up e10).up e11), ?_, ⟨as9 ++ [b], ?_, ?_⟩, ⟨?_, ?_⟩, _, rfl⟩
            · rw [upd_ne nlr2]
              exact e11 _ _ (e10 _ _ lr9)
            · rw [upd_same, List.map_append]; rfl
            · rw [hsn, if_pos hb, ← List.append_assoc]
              refine ((as9'.imp fun _ _ z => NatAt.tup.up (e10.trans e11) z).snoc (x := a :: r ++ [a + 1 + c]) ?_).tups NatAt.tup tk
              have hv : natV (a :: r ++ [a + 1 + c]) = natV (a :: r) ++ [.int ((a : Int) + 1 + (c : Int))] := by
                unfold natV
                rw [List.map_append, ek]; rfl
              show KnT (natV (a :: r ++ [a + 1 + c])) b H11
              rw [hv]
              exact h11
            · rw [upd_ne nl12]
              exact e11 _ _ (e10 _ _ l19)
            · exact (bs9.imp fun _ _ z => RingAt.tup.up (e10.trans e11) z).tups RingAt.tup tk
          · rw [hext] at hb
            refine ⟨f9.trans e10, t9.up e10, e10 _ _ lr9, ⟨as9, e10 _ _ l29, ?_⟩, ⟨e10 _ _ l19, bs9.imp fun _ _ z => RingAt.tup.up e10 z⟩, _, rfl⟩
            rw [hsn, if_neg (by rw [hb]; decide), List.append_nil]
            exact as9'.imp fun _ _ z => NatAt.tup.up e10 z
        · obtain ⟨f9, t9, lr9, ⟨as9, l29, as9'⟩, ⟨l19, bs9⟩, y4, rfl⟩ := hP
          rw [show ((n : Int) - ((a : Int) + 1)).toNat = n - (a + 1) by omega, ← hbws] at as9'
          refine s_asg (ev_op (ev_var rfl) ev_c rv_I0) fun H10 e10 => ?_
          refine ⟨meas B n (m + 1), meas_step h5 run hm, m + 1, rfl, fun k hk => ?_, f9.trans e10, ⟨as9, e10 _ _ l29, as9'.imp fun _ _ z => NatAt.tup.up e10 z⟩, ⟨bs', e10 _ _ l19, bs9.imp fun _ _ z => RingAt.tup.up e10 z⟩, _, _, _, rfl⟩
          by_cases q : k < m
          · exact run k q
          · have : k = m := by omega
            subst this
            exact hm
    · have hm : (bw B n m).length ≤ m := by
        have := of_decide_eq_false hc
        rw [List.length_map] at this
        omega
      refine s_ret (ev_var rfl) fun H6 e6 => ?_
      exact k _ _ ((e0.trans e5).trans e6) ⟨l1, m, rfl, ⟨hm, run⟩, bs, e6 _ _ (e5 _ _ hb1), hb2.imp fun _ _ r => RingAt.tup.up (e5.trans e6) r⟩
end
end Lw


set_option Elab.async false
set_option linter.all false
set_option maxRecDepth 100000
set_option maxHeartbeats 4000000
namespace Lw
open PySem PySem.Spec PyProof.Rows L2 Evl
/-! ### open pairs -/
theorem openPair_first {B : Tab} {n : Nat} {o : Ord} {i j : Nat} (hij : i < j) (hj : j < n) (h : isOpen B o (i, j) = true) (h1 : ∀ i' j', i' < i → i' < j' → j' < n → isOpen B o (i', j') = false) (h2 : ∀ j', i < j' → j' < j → isOpen B o (i, j') = false) : openPair B n o = some (i, j) := by
  unfold openPair
  rw [List.find?_eq_some_iff_append]
  refine ⟨h, ?_⟩
  have e1 : List.range n = List.range i ++ i :: (List.range n).drop (i + 1) := by
    conv => lhs; rw [← List.take_append_drop i (List.range n)]
    rw [List.take_range, Nat.min_eq_left (by omega), List.drop_eq_getElem_cons (by simp; omega)]
    simp
  have e2 : List.range (n - (i + 1)) = List.range (j - (i + 1)) ++ (j - (i + 1)) :: (List.range (n - (i + 1))).drop (j - (i + 1) + 1) := by
    conv => lhs; rw [← List.take_append_drop (j - (i + 1)) (List.range (n - (i + 1)))]
    rw [List.take_range, Nat.min_eq_left (by omega), List.drop_eq_getElem_cons (by simp; omega)]
    simp
  refine ⟨(List.range i).flatMap (fun i => (List.range (n - (i + 1))).map fun m => (i, i + 1 + m)) ++ (List.range (j - (i + 1))).map (fun m => (i, i + 1 + m)), ((List.range (n - (i + 1))).drop (j - (i + 1) + 1)).map (fun m => (i, i + 1 + m)) ++ ((List.range n).drop (i + 1)).flatMap (fun i => (List.range (n - (i + 1))).map fun m => (i, i + 1 + m)), ?_, ?_⟩
  · unfold allPairs
    conv => lhs; rw [e1]
    rw [List.flatMap_append, List.flatMap_cons]
    conv => lhs; rw [e2]
    rw [List.map_append, List.map_cons, show i + 1 + (j - (i + 1)) = j by omega]
    simp only [List.append_assoc, List.cons_append]
  · intro a ha
    rw [Bool.not_eq_true']
    obtain ⟨x, y⟩ := a
    rcases List.mem_append.mp ha with q | q
    · obtain ⟨i', hi', q⟩ := List.mem_flatMap.mp q
      obtain ⟨m, hm, e⟩ := List.mem_map.mp q
      rw [List.mem_range] at hi' hm
      injection e with e3 e4
      subst e3 e4
      exact h1 _ _ hi' (by omega) (by omega)
    · obtain ⟨m, hm, e⟩ := List.mem_map.mp q
      rw [List.mem_range] at hm
      injection e with e3 e4
      subst e3 e4
      exact h2 _ (by omega) (by omega)
theorem openPair_no {B : Tab} {n : Nat} {o : Ord} (h : ∀ i j, i < j → j < n → isOpen B o (i, j) = false) : openPair B n o = none := by
  unfold openPair
  rw [List.find?_eq_none]
  intro x hx
  obtain ⟨i, j⟩ := x
  obtain ⟨h1, h2⟩ := mem_allPairs.mp hx
  rw [h i j h1 h2]
  decide
def PairR : Option (Nat × Nat) → V → Hp → Prop
  | none, v, _ => v = .non
  | some p, v, H => ∃ t, v = .ref t ∧ H t = some (.tup [.int (p.1 : Int), .int (p.2 : Int)])
section
variable {P : Program} {w : World} {K : PySem.W.Frag} {mg : Str → Option Value} {base : Heap}
theorem sp_isord {d : Addr} {o : Ord} {i j : Nat} {H : Hp} (hd : OrdAt o d H) : SpV spIsOrd [.ref d, .int (i : Int), .int (j : Int)] H (.bl (o.contains (i, j) || o.contains (j, i))) := fun H1 e Q q _ => ⟨d, o, i, j, rfl, e _ _ hd, q⟩
def spOpen (K : PySem.W.Frag) : Sp := fun vs H Q _ => ∃ (p d : Addr) (al : List Int) (B : Tab) (n : Nat) (o : Ord), vs = [.ref p, .ref d] ∧ NeedsAt K al B p H ∧ TabOk n B ∧ n ≤ 5 ∧ OrdAt o d H ∧ RetP (PairR (openPair B n o)) H Q
theorem ok_open_pair (T : TX K mg) : Fp P w K mg base 2 ("open_pair", none) ["needs", "order"] (spOpen K) := by
  refine Fp.of T.f_open_pair sc_open_pair (fun _ _ _ _ _ _ us hl => match us, hl with | [_, _], _ => rfl) (fun vs H Q E h => ?_) (fun cdv A outer s H vs Q E hr h => ?_)
  · obtain ⟨_, _, _, _, _, _, rfl, _⟩ := h; rfl
  · obtain ⟨p, d, al, B, n, o, rfl, hn, tab, h5, hd, k⟩ := h
    refine ⟨_, (pss_cons (ps_for PassesOwn.never rfl (pi_enum (by rfl) T.free_enumerate (pa_cons (pe_fld (pv 0) rfl) pa_nil)) (pg_tup rfl (pgs_cons (pg_name (i := 2) sc_open_pair.nd rfl (Or.inl rfl)) (pgs_cons (pg_name (i := 3) sc_open_pair.nd rfl (Or.inl rfl)) pgs_nil))) (pss_one (ps_for PassesOwn.never rfl (pi_range2 (by rfl) T.free_range (pa_cons (pe_op op_add (pv 2) pe_int) (pa_cons (pe_callB call_len_seq (by rfl) T.free_len PySem.boot_len (pa_cons (pv 3) pa_nil)) pa_nil))) (pg_name (i := 4) sc_open_pair.nd rfl (Or.inl rfl)) (pss_one (ps_if (PW.pt (pw_and (pt_cmpR op_notN (pe_ix ix_list (pv 3) (pv 4) (fun _ _ => rfl)) pe_non (nomark _)) (pw_and1 (pt_not (pt_val (pe_f (ok_is_ordered T) T.g_is_ordered (hr.mono (by decide)) (pa_cons (pv 1) (pa_cons (pv 2) (pa_cons (pv 4) pa_nil))))))))) (pss_one (ps_ret (pe_tup (pa_cons (pv 2) (pa_cons (pv 4) pa_nil))))) pss_nil)))))
  (pss_one (ps_ret pe_non))), ?_⟩
    obtain ⟨dx, la, lb, rs, g1, g2, g3, g4⟩ := id hn
    refine q_forE (ea_cons (ev_fld (ev_var rfl) g1 T.cl_Needs T.no_Needs_behind rfl) ea_nil) (SqL.lst g3) (fun i σ' H' => Ex H H' ∧ (∀ i' j', i' < i → i' < j' → j' < n → isOpen B o (i', j') = false) ∧ ∃ x y z, σ' = [some (.ref p), some (.ref d), x, y, z])
      (fun H1 e1 => ⟨e1, fun i' j' h => by omega, none, none, none, rfl⟩) (fun i σ' H' _ hP => SqL.lst (hP.1 _ _ g3)) (fun i x σ' H' hx hP H1 e1 => ?_) (fun σ' H' hP => ?_)
    · obtain ⟨e0, hno, x2, x3, x4, rfl⟩ := hP
      rw [List.getElem?_map] at hx
      obtain ⟨r, hr, rfl⟩ := Option.map_eq_some_iff.mp hx
      have hiB : i < B.length := by rw [← g4.1]; exact (List.getElem?_eq_some_iff.mp hr).1
      have hi : i < n := by rw [← tab.len]; exact hiB
      have hrow := g4.2 i r _ hr (List.getElem?_eq_getElem hiB)
      have hrl : (B[i]).length = n := tab.row _ (List.getElem_mem hiB)
      have e01 := e0.trans e1
      refine s_forR2 (j := 4) (lo := (i : Int) + 1) (n := (n : Int)) (ea_cons (ev_op (ev_var rfl) ev_c rv_I0) (ea_cons (ev_is (ev_len (ev_var rfl) (SqL.lst (e01 _ _ hrow))) (by rw [List.length_map, hrl])) ea_nil)) (by omega)
        (fun c σ' H' => Ex H H' ∧ (∀ j', i < j' → j' < i + 1 + c → isOpen B o (i, j') = false) ∧ ∃ z, σ' = [some (.ref p), some (.ref d), some (.int (i : Int)), some (.ref r), z])
        (fun H2 e2 => ⟨e01.trans e2, fun j' h1 h2 => by omega, _, rfl⟩) (fun c σ' H' hc hP => ?_) (fun σ' H' hP => ?_)
      · obtain ⟨e2, hno2, z, rfl⟩ := hP
        have hj : i + 1 + c < n := by omega
        have ej : (i : Int) + 1 + (c : Int) = ((i + 1 + c : Nat) : Int) := by omega
        have hget : (B[i])[i + 1 + c]? = some ((B[i])[i + 1 + c]'(by omega)) := List.getElem?_eq_getElem _
        have hbh : bh B i (i + 1 + c) = (B[i])[i + 1 + c]'(by omega) := bh_get (List.getElem?_eq_getElem hiB) hget
        have hop : ((!decide (optV (bh B i (i + 1 + c)) = .non)) && !(o.contains (i, i + 1 + c) || o.contains (i + 1 + c, i))) = isOpen B o (i, i + 1 + c) := by
          unfold isOpen
          rw [Bool.not_or]
          congr 1
          cases bh B i (i + 1 + c) <;> rfl
        refine s_when (et_and (et_test (ev_op (ev_op (ev_var rfl) (ev_var rfl) (rv_ixL (SqL.lst (e2 _ _ hrow)) (by rw [ej]; exact atI_nat (v := optV (bh B i (i + 1 + c))) (by rw [List.getElem?_map, hget, hbh]; rfl)))) ev_c (fun H3 _ Q q => ⟨rfl, q H3 (Ex.refl _)⟩)))
          (fun _ => et_not (et_B (ev_callV (ea_cons (ev_var rfl) (ea_cons (ev_var rfl) (ea_cons (ev_is (ev_var rfl) (by rw [ej])) ea_nil))) (sp_isord (e2 _ _ hd)))))) (fun hb H3 e3 => ?_) (fun hb H3 e3 => ?_)
        · rw [hop] at hb
          have hp := openPair_first (n := n) (by omega) hj hb hno fun j' h1 h2 => hno2 j' h1 h2
          rw [hp] at k
          refine s_retU (eu_tup (ea_cons (ev_var rfl) (ea_cons (ev_var rfl) ea_nil)) (show 2 ≤ 100000 by decide)) fun t H4 _ e4 ht => ?_
          exact k _ _ ((e2.trans e3).trans e4) ⟨t, rfl, by rw [ht, ej]⟩
        · rw [hop] at hb
          refine ⟨e2.trans e3, fun j' h1 h2 => ?_, _, rfl⟩
          by_cases q : j' < i + 1 + c
          · exact hno2 j' h1 q
          · have : j' = i + 1 + c := by omega
            subst this
            exact hb
      · obtain ⟨e2, hno2, z, rfl⟩ := hP
        refine ⟨e2, fun i' j' h1 h2 h3 => ?_, _, _, _, rfl⟩
        by_cases q : i' < i
        · exact hno i' j' q h2 h3
        · have : i' = i := by omega
          subst this
          exact hno2 j' h2 (by omega)
    · obtain ⟨e0, hno, x2, x3, x4, rfl⟩ := hP
      rw [List.length_map, g4.1, tab.len] at hno
      have hp : openPair B n o = none := openPair_no fun i j h1 h2 => hno i j (by omega) h1 h2
      rw [hp] at k
      exact s_ret ev_c fun H1 e1 => k _ _ (e0.trans e1) rfl
/-! ### the size of an order -/
theorem rr_le {o : Ord} {ring : List Nat} : ∀ {k r : Nat}, rrF o ring k = some r → r ≤ k
  | 0, r, h => by
    have : 0 = r := Option.some.inj h
    omega
  | k + 1, r, h => by
    have h1 : (match rrF o ring k with
      | none => none
      | some r => if (nxt ring k, ring.getD k 0) ∈ o then some (r + 1) else if (ring.getD k 0, nxt ring k) ∈ o then some r else none) = some r := h
    cases e : rrF o ring k with
    | none => rw [e] at h1; cases h1
    | some r' =>
      have ih := rr_le e
      rw [e] at h1
      have h2 : (if (nxt ring k, ring.getD k 0) ∈ o then some (r' + 1) else if (ring.getD k 0, nxt ring k) ∈ o then some r' else none) = some r := h1
      split at h2
      · have := Option.some.inj h2
        omega
      · split at h2
        · have := Option.some.inj h2
          omega
        · cases h2
theorem ev_maxL {σ : L2.St} {H : Hp} {ta : TE} {a : Addr} {ns : List Int} (h : Ev ta σ H (.ref a)) (ha : SqL K H a (ns.map V.int)) (hne : 0 < ns.length) : Ev (tCB (rMax K) (tCons ta tNil)) σ H (.int (maxL ns)) := fun H1 e Q q =>
  h H1 e _ fun H2 e2 => ⟨a, ns, rfl, ex_l (e.trans e2) ha, hne, fun m hm hle => by
    rw [maxL_is hm hle]
    exact q H2 e2⟩
theorem sp_rounds {d t : Addr} {o : Ord} {ring : List Nat} {H : Hp} (hd : OrdAt o d H) (ht : SqT K H t (natV ring)) : SpV (spRounds K) [.ref d, .ref t] H (rdV (ringRounds o ring)) := fun H1 e Q q _ => ⟨d, t, o, ring, rfl, e _ _ hd, ex_t e ht, q⟩
def spSize (K : PySem.W.Frag) : Sp := fun vs H Q _ => ∃ (p q d : Addr) (al : List Int) (B : Tab) (o : Ord) (rs : List (List Nat × Int)), vs = [.ref p, .ref q, .ref d] ∧ NeedsAt K al B p H ∧ 0 < al.length ∧ RingsAt rs q H ∧ OrdAt o d H ∧
  (∀ x ∈ rs, x.1.length ≤ 5 ∧ ringRounds o x.1 ≠ none) ∧ RetV (optV (orderSize al rs o)) H Q
theorem ok_order_size (T : TX K mg) : Fp P w K mg base 2 ("order_size", none) ["needs", "rings", "order"] (spSize K) := by
  refine Fp.of T.f_order_size sc_order_size (fun _ _ _ _ _ _ us hl => match us, hl with | [_, _, _], _ => rfl) (fun vs H Q E h => ?_) (fun cdv A outer s H vs Q E hr h => ?_)
  · obtain ⟨_, _, _, _, _, _, _, rfl, _⟩ := h; rfl
  · obtain ⟨p, q, d, al, B, o, rs, rfl, hn, h0, hq, hd, hrs, k⟩ := h
    refine ⟨_, (pss_cons (ps_set (i := 3) sc_order_size.nd rfl (Or.inl rfl) (pe_callB (cr_max rfl) (by rfl) T.free_max (by decide +kernel) (pa_cons (pe_fld (pv 0) rfl) pa_nil)))
  (pss_cons (ps_for PassesOwn.never rfl (pi_list (pv 1)) (pg_tup rfl (pgs_cons (pg_name (i := 4) sc_order_size.nd rfl (Or.inl rfl)) (pgs_cons (pg_name (i := 5) sc_order_size.nd rfl (Or.inl rfl)) pgs_nil))) (pss_cons (ps_set (i := 6) sc_order_size.nd rfl (Or.inl rfl) (pe_f (ok_ring_rounds T) T.g_ring_rounds (hr.mono (by decide)) (pa_cons (pv 2) (pa_cons (pv 4) pa_nil))))
  (pss_cons (ps_if (pt_cmpR op_eq (pv 6) pe_int (nomark _)) (pss_one (ps_ret pe_non)) pss_nil)
  (pss_one (ps_set (i := 3) sc_order_size.nd rfl (Or.inl rfl) (pe_callB (call_max2 rfl) (by rfl) T.free_max (by decide +kernel) (pa_cons (pv 3) (pa_cons (pe_op op_fdivN (pe_op op_sub (pe_op op_add (pv 5) (pv 6)) pe_int) (pv 6)) pa_nil))))))))
  (pss_one (ps_ret (pv 3))))), ?_⟩
    obtain ⟨dx, la, lb, rr, g1, g2, g3, g4⟩ := id hn
    obtain ⟨as, q1, q2⟩ := id hq
    refine q_asg (ev_maxL (ev_fld (ev_var rfl) g1 T.cl_Needs T.no_Needs_alone rfl) (SqL.lst g2) h0) fun H1 e1 => ?_
    refine q_forPr (ev_var rfl) (SqL.lst (e1 _ _ q1)) (fun m σ' H' => Ex H H' ∧ ∃ z : Int, osF o (rs.drop m) z = orderSize al rs o ∧ ∃ x4 x5 x6, σ' = [some (.ref p), some (.ref q), some (.ref d), some (.int z), x4, x5, x6])
      (fun H2 e2 => ⟨e1.trans e2, maxL al, rfl, none, none, none, rfl⟩) (fun m σ' H' _ hP => SqL.lst (hP.1 _ _ q1)) (fun m x σ' H' hx hP => ?_) (fun σ' H' hP => ?_)
    · obtain ⟨e0, z, hz, x4, x5, x6, rfl⟩ := hP
      rw [List.getElem?_map] at hx
      obtain ⟨a, ha, rfl⟩ := Option.map_eq_some_iff.mp hx
      have hm : m < rs.length := by rw [← q2.1]; exact (List.getElem?_eq_some_iff.mp ha).1
      obtain ⟨t, ht1, ht2⟩ := q2.2 m a _ ha (List.getElem?_eq_getElem hm)
      refine ⟨a, _, _, rfl, SqT.tup (e0 _ _ ht1), ?_⟩
      obtain ⟨hl5, hnn⟩ := hrs _ (List.getElem_mem hm)
      obtain ⟨c, ec⟩ := Option.ne_none_iff_exists'.mp hnn
      have hc5 : c ≤ 5 := by
        have := rr_le ec
        omega
      have hdrop : rs.drop m = rs[m] :: rs.drop (m + 1) := List.drop_eq_getElem_cons hm
      have hos : osF o (rs.drop m) z = (match ringRounds o (rs[m]).1 with
        | some 0 => none
        | some r => osF o (rs.drop (m + 1)) (pmax z (cdiv (rs[m]).2 r))
        | none => none) := by
        rw [hdrop]
        rfl
      rw [ec] at hos
      refine q_asg (ev_callV (ea_cons (ev_var rfl) (ea_cons (ev_var rfl) ea_nil)) (sp_rounds (e0 _ _ hd) (ht2.up e0).sq)) fun H2 e2 => ?_
      rw [ec]
      refine q_when (et_test (ev_op (ev_var rfl) ev_c (rv_eq rfl))) (fun hb H3 e3 => ?_) (fun hb H3 e3 => ?_)
      · have hc0 : c = 0 := by
          have := V.int.inj (of_decide_eq_true hb)
          omega
        subst hc0
        have : orderSize al rs o = none := hz.symm.trans hos
        rw [this] at k
        exact s_ret ev_c fun H4 e4 => k _ (((e0.trans e2).trans e3).trans e4)
      · have hc0 : c ≠ 0 := fun h => by
          subst h
          have h2 : decide (rdV (some 0) = V.int 0) = true := decide_eq_true rfl
          rw [h2] at hb
          cases hb
        obtain ⟨c', rfl⟩ : ∃ c', c = c' + 1 := ⟨c - 1, by omega⟩
        refine s_asg (ev_max2 (ev_var rfl) (ev_op (ev_op (ev_op (ev_var rfl) (ev_var rfl) rv_I0) ev_c rv_I0) (ev_var rfl) (rv_I ⟨by omega, by omega⟩))) fun H4 e4 => ?_
        exact ⟨((e0.trans e2).trans e3).trans e4, pmax z (cdiv (rs[m]).2 (c' + 1)), hos.symm.trans hz, _, _, _, rfl⟩
    · obtain ⟨e0, z, hz, x4, x5, x6, rfl⟩ := hP
      rw [List.length_map, q2.1, List.drop_length] at hz
      have : orderSize al rs o = some z := hz.symm
      rw [this] at k
      exact s_ret (ev_var rfl) fun H2 e2 => k _ (e0.trans e2)
end
end Lw


set_option Elab.async false
set_option linter.all false
set_option maxRecDepth 100000
set_option maxHeartbeats 4000000
namespace Lw
open PySem PySem.Spec PyProof.Rows L2 Evl
section
variable {K : PySem.W.Frag} {σ : L2.St} {H H' : Hp} {ta tb te : TE} {t : TT}
theorem ap_consV {tr : TA} {S : List V → Hp → Prop} {v : V} (h : Ev te σ H v) (hr : EvAP tr σ H S) : EvAP (tCons te tr) σ H (fun vs H' => ∃ r, vs = v :: r ∧ S r H') := fun H1 e _ q =>
  h H1 e _ fun H2 e2 => hr H2 (e.trans e2) _ fun vs H3 e3 rs => q _ H3 (e2.trans e3) ⟨vs, rfl, rs⟩
theorem ap_last {R : V → Hp → Prop} (h : EvP te σ H R) : EvAP (tCons te tNil) σ H (fun vs H' => ∃ v, vs = [v] ∧ R v H') := fun H1 e _ q =>
  h H1 e _ fun v H2 e2 r => q _ H2 e2 ⟨v, rfl, r⟩
/-- a tuple of things of which some are only described -/
theorem ep_tupP {ta : TA} {S : List V → Hp → Prop} (h : EvAP ta σ H S) (hl : ∀ vs H1, S vs H1 → vs.length ≤ 100000) (hS : ∀ vs H1 H2, Ex H1 H2 → S vs H1 → S vs H2) : EvP (tTup ta) σ H (fun w H' => ∃ p vs, w = .ref p ∧ H' p = some (.tup vs) ∧ S vs H') := fun H1 e _ q =>
  h H1 e _ fun vs H2 e2 s => ⟨sz_of (hl vs H2 s), fun p hp => q _ _ (e2.trans (Ex.new hp)) ⟨p, vs, rfl, upd_same, hS vs _ _ (Ex.new hp) s⟩⟩
/-- i, j = something described -/
theorem q_asgTwo {D : Ends} {tz : TS} {i j : Nat} {x y : V} (h : EvP te σ H (fun v H' => ∃ a, v = .ref a ∧ H' a = some (.tup [x, y]))) (k : ∀ H1, Ex H H1 → tz D ((σ.set i (some x)).set j (some y)) H1) :
    tSeq (tAsg te (gTup K 2 (gCons (gName i) (gCons (gName j) gNil)))) tz D σ H := h H (Ex.refl H) _ fun v H1 e r => by
  obtain ⟨a, rfl, ha⟩ := r
  exact g_two (SqT.tup ha) (k H1 e)
end
theorem Fp.never {P : Program} {w : World} {K : PySem.W.Frag} {mg : Str → Option Value} {base : Heap} {k : Nat} {p : Str × Option Str} {x qual : Str} {st : Stmt} {ps : List Str}
    (hF : ∃ fd, FunD K x qual (defArgs st) (defBody st) (defScope st) [] [] (He.fAd K p) fd)
    (hb : ∀ (kV doc pm : Value) (an : Option Addr) (cdv ct : Value) (us : List Value), us.length = ps.length → bindArgs (PySem.W.fnOf x qual (defArgs st) (defBody st) (defScope st) .none kV doc pm an cdv ct) ⟨us, []⟩ = pure (ps.zip us)) :
    Fp P w K mg base k p ps (fun _ _ _ _ => False) := by
  obtain ⟨fd, F⟩ := hF
  exact ⟨fd, ⟨fun _ _ _ _ h => h.elim, fun _ _ _ _ _ _ _ _ _ _ _ _ _ h => h.elim⟩, FunD.bindsN F hb, F.kp⟩
theorem OrdOk.small {n : Nat} {al : List Int} {B : Tab} {o : Ord} (g : Good n al B) (ok : OrdOk B o) : (∀ p ∈ o, p.1 < 5 ∧ p.2 < 5) ∧ o.length ≤ 25 := by
  have h1 : ∀ p ∈ o, p.1 < 5 ∧ p.2 < 5 := fun p hp => by
    obtain ⟨i, j⟩ := p
    have := g.lt (ok.meets i j hp)
    have := g.n5
    exact ⟨by omega, by omega⟩
  refine ⟨h1, ?_⟩
  have h2 := List.Nodup.length_le_of_subset (l₂ := (List.range 25).map fun k => (k / 5, k % 5)) ok.nd fun p hp => by
    obtain ⟨a, b⟩ := h1 p hp
    refine List.mem_map.mpr ⟨p.1 * 5 + p.2, List.mem_range.mpr (by omega), Prod.ext ?_ ?_⟩
    · show (p.1 * 5 + p.2) / 5 = p.1
      omega
    · show (p.1 * 5 + p.2) % 5 = p.2
      omega
  simpa using h2
theorem rounds_full {n : Nat} {al : List Int} {B : Tab} {o : Ord} {rs : List (List Nat × Int)} (g : Good n al B) (hs : Sound B n rs) (ok : OrdOk B o) (full : Full B o) : ∀ x ∈ rs, x.1.length ≤ 5 ∧ ringRounds o x.1 ≠ none := fun x hx => by
  obtain ⟨a, r, k⟩ := hs x hx
  obtain ⟨c, ec, _⟩ := ring_full (size := 0) ok full k.ch
  rw [k.e, ec]
  have h1 := k.row.len
  have h2 := g.n5
  exact ⟨by omega, by simp⟩
def OrdR (o : Ord) : V → Hp → Prop := fun v H => ∃ q, v = .ref q ∧ OrdAt o q H
theorem OrdR.up {o : Ord} : Up1 (OrdR o) := fun v H H' e ⟨q, h1, h2⟩ => ⟨q, h1, e _ _ h2⟩
def BestR (x : Option Int × Ord) : V → Hp → Prop := fun v H => ∃ t d, v = .ref t ∧ H t = some (.tup [optV x.1, .ref d]) ∧ OrdAt x.2 d H
theorem BestR.up {x : Option Int × Ord} : Up1 (BestR x) := fun v H H' e ⟨t, d, h1, h2, h3⟩ => ⟨t, d, h1, e _ _ h2, e _ _ h3⟩
section
variable {P : Program} {w : World} {K : PySem.W.Frag} {mg : Str → Option Value} {base : Heap}
theorem sp_open {p d : Addr} {al : List Int} {B : Tab} {n : Nat} {o : Ord} {H : Hp} (hn : NeedsAt K al B p H) (g : Good n al B) (hd : OrdAt o d H) : SpP (spOpen K) [.ref p, .ref d] H (PairR (openPair B n o)) := fun H1 e Q q _ => ⟨p, d, al, B, n, o, rfl, hn.up e, g.tab, g.n5, e _ _ hd, q⟩
theorem sp_size {p q d : Addr} {al : List Int} {B : Tab} {o : Ord} {rs : List (List Nat × Int)} {H : Hp} (hn : NeedsAt K al B p H) (h0 : 0 < al.length) (hq : RingsAt rs q H) (hd : OrdAt o d H) (hr : ∀ x ∈ rs, x.1.length ≤ 5 ∧ ringRounds o x.1 ≠ none) :
    SpV (spSize K) [.ref p, .ref q, .ref d] H (optV (orderSize al rs o)) := fun H1 e Q z _ => ⟨p, q, d, al, B, o, rs, rfl, hn.up e, h0, hq.up e, e _ _ hd, hr, z⟩
theorem sp_ordered {d : Addr} {n : Nat} {al : List Int} {B : Tab} {o : Ord} {i j : Nat} {H : Hp} (g : Good n al B) (hd : OrdAt o d H) (ok : OrdOk B o) (h : (i, j) ∉ o) : SpP spOrdered [.ref d, .int (i : Int), .int (j : Int)] H (OrdR (o ++ [(i, j)])) :=
  fun H1 e Q q _ => ⟨d, o, i, j, rfl, e _ _ hd, ok.nd, (ok.small g).1, by have := (ok.small g).2; omega, h, q⟩
def spBest (K : PySem.W.Frag) (f : Nat) : Sp := fun vs H Q _ => ∃ (p q d : Addr) (al : List Int) (B : Tab) (n : Nat) (o : Ord) (rs : List (List Nat × Int)), vs = [.ref p, .ref q, .ref d] ∧ NeedsAt K al B p H ∧ Good n al B ∧ Sound B n rs ∧ RingsAt rs q H ∧ OrdAt o d H ∧ OrdOk B o ∧ opens B n o ≤ f ∧
  RetP (BestR (bestF B al rs n f o)) H Q
def spBestR (K : PySem.W.Frag) : Nat → Sp
  | 0 => fun _ _ _ _ => False
  | f + 1 => spBest K f
theorem sp_best {p q d : Addr} {al : List Int} {B : Tab} {n : Nat} {o : Ord} {rs : List (List Nat × Int)} {f : Nat} {H : Hp} (hn : NeedsAt K al B p H) (g : Good n al B) (hs : Sound B n rs) (hq : RingsAt rs q H) (hd : OrdAt o d H) (ok : OrdOk B o) (hf : opens B n o ≤ f) :
    SpP (spBest K f) [.ref p, .ref q, .ref d] H (BestR (bestF B al rs n f o)) := fun H1 e Q z _ => ⟨p, q, d, al, B, n, o, rs, rfl, hn.up e, g, hs, hq.up e, e _ _ hd, ok, hf, z⟩
/-- x, y, an order made anew: as arguments -/
theorem ap_ord {σ : L2.St} {H : Hp} {t1 t2 t3 t4 t5 : TE} {p q d : Addr} {n : Nat} {al : List Int} {B : Tab} {o : Ord} {i j : Nat} {tr : TA} {S : List V → Hp → Prop} (g : Good n al B) (hd : OrdAt o d H) (ok : OrdOk B o) (h : (i, j) ∉ o)
    (h3 : Ev t3 σ H (.ref d)) (h4 : Ev t4 σ H (.int (i : Int))) (h5 : Ev t5 σ H (.int (j : Int))) : EvP (tCall spOrdered [] E0 (tCons t3 (tCons t4 (tCons t5 tNil)))) σ H (OrdR (o ++ [(i, j)])) :=
  ep_call (ea_cons h3 (ea_cons h4 (ea_cons h5 ea_nil))) (sp_ordered g hd ok h)
theorem ok_best_step (T : TX K mg) {f k : Nat} (rec : Fp P w K mg base (k + 3) ("best_order", none) ["needs", "rings", "order"] (spBestR K f)) : Fp P w K mg base (k + 4) ("best_order", none) ["needs", "rings", "order"] (spBest K f) := by
  refine Fp.of T.f_best_order sc_best_order (fun _ _ _ _ _ _ us hl => match us, hl with | [_, _, _], _ => rfl) (fun vs H Q E h => ?_) (fun cdv A outer s H vs Q E hr h => ?_)
  · obtain ⟨_, _, _, _, _, _, _, _, rfl, _⟩ := h; rfl
  · obtain ⟨p, q, d, al, B, n, o, rs, rfl, hn, g, hs, hq, hd, ok, hf, k⟩ := h
    refine ⟨_, (pss_cons (ps_set (i := 3) sc_best_order.nd rfl (Or.inl rfl) (pe_f (ok_open_pair T) T.g_open_pair (hr.mono (by omega)) (pa_cons (pv 0) (pa_cons (pv 2) pa_nil))))
  (pss_cons (ps_if (pt_cmpR op_isN (pv 3) pe_non (nomark _)) (pss_one (ps_ret (pe_tup (pa_cons (pe_f (ok_order_size T) T.g_order_size (hr.mono (by omega)) (pa_cons (pv 0) (pa_cons (pv 1) (pa_cons (pv 2) pa_nil)))) (pa_cons (pv 2) pa_nil))))) pss_nil)
  (pss_cons (ps_set (i := 4) sc_best_order.nd rfl (Or.inl rfl) (pe_f rec T.g_best_order (hr.mono (by omega)) (pa_cons (pv 0) (pa_cons (pv 1) (pa_cons (pe_f (ok_ordered T) T.g_ordered (hr.mono (by omega)) (pa_cons (pv 2) (pa_cons (pe_ix ix_tup (pv 3) pe_int (fun _ _ => rfl)) (pa_cons (pe_ix ix_tup (pv 3) pe_int (fun _ _ => rfl)) pa_nil)))) pa_nil)))))
  (pss_cons (ps_set (i := 5) sc_best_order.nd rfl (Or.inl rfl) (pe_f rec T.g_best_order (hr.mono (by omega)) (pa_cons (pv 0) (pa_cons (pv 1) (pa_cons (pe_f (ok_ordered T) T.g_ordered (hr.mono (by omega)) (pa_cons (pv 2) (pa_cons (pe_ix ix_tup (pv 3) pe_int (fun _ _ => rfl)) (pa_cons (pe_ix ix_tup (pv 3) pe_int (fun _ _ => rfl)) pa_nil)))) pa_nil)))))
  (pss_cons (ps_if (PW.pt (pw_or (pt_cmpR op_isN (pe_ix ix_tup (pv 4) pe_int (fun _ _ => rfl)) pe_non (nomark _)) (pw_or1 (PW.pt (pw_and (pt_cmpR op_notN (pe_ix ix_tup (pv 5) pe_int (fun _ _ => rfl)) pe_non (nomark _)) (pw_and1 (pt_cmpR op_lt (pe_ix ix_tup (pv 5) pe_int (fun _ _ => rfl)) (pe_ix ix_tup (pv 4) pe_int (fun _ _ => rfl)) (nomark _)))))))) (pss_one (ps_ret (pv 5))) pss_nil)
  (pss_one (ps_ret (pv 4)))))))), ?_⟩
    refine q_asgP (ep_call (ea_cons (ev_var rfl) (ea_cons (ev_var rfl) ea_nil)) (sp_open hn g hd)) fun v H1 e1 r1 => ?_
    have h0 : 0 < al.length := by rw [g.alen]; exact g.n1
    cases e : openPair B n o with
    | none =>
      rw [e] at r1
      obtain rfl : v = .non := r1
      refine q_when (et_test (ev_op (ev_var rfl) ev_c (fun H3 _ Q z => ⟨rfl, z H3 (Ex.refl _)⟩))) (fun hb H2 e2 => ?_) (fun hb H2 e2 => ?_)
      · have full := openPair_none g e
        have e12 := e1.trans e2
        refine s_retU (eu_tup (ea_cons (ev_callV (ea_cons (ev_var rfl) (ea_cons (ev_var rfl) (ea_cons (ev_var rfl) ea_nil))) (sp_size (hn.up e12) h0 (hq.up e12) (e12 _ _ hd) (rounds_full g hs ok full))) (ea_cons (ev_var rfl) ea_nil)) (show 2 ≤ 100000 by decide)) fun t H3 _ e3 ht => ?_
        rw [bestF_leaf f e] at k
        exact k _ _ (e12.trans e3) ⟨t, d, rfl, ht, e3 _ _ (e12 _ _ hd)⟩
      · exact absurd hb (by decide)
    | some pr =>
      obtain ⟨i, j⟩ := pr
      rw [e] at r1
      obtain ⟨t, rfl, ht⟩ := r1
      obtain ⟨i1, i2, i3, i4, i5⟩ := openPair_some e
      obtain ⟨k1, k2⟩ := ok.both g e
      have o1 := opens_add e (.inl rfl)
      have o2 : opens B n (o ++ [(j, i)]) < opens B n o := opens_add e (.inr rfl)
      have hpos := opens_pos e
      obtain ⟨f, rfl⟩ : ∃ f', f = f' + 1 := ⟨f - 1, by omega⟩
      rw [bestF_node f e] at k
      refine q_when (b := false) (et_is (et_test (ev_op (ev_var rfl) ev_c (fun H3 _ Q z => ⟨rfl, z H3 (Ex.refl _)⟩))) rfl) (fun hb H2 e2 => by cases hb) (fun hb H2 e2 => ?_)
      have e12 := e1.trans e2
      have ht2 : ∀ H', Ex H2 H' → SqT K H' t [.int (i : Int), .int (j : Int)] := fun H' z => SqT.tup (z _ _ (e2 _ _ ht))
      -- one
      refine q_asgP (ep_callP (R := BestR (bestF B al rs n f (o ++ [(i, j)]))) (ap_consV (ev_var rfl) (ap_consV (ev_var rfl) (ap_last (ep_call (ea_cons (ev_var rfl) (ea_cons (ev_op (ev_var rfl) ev_c (rv_ixT (ht2 H2 (Ex.refl _)) rfl)) (ea_cons (ev_op (ev_var rfl) ev_c (rv_ixT (ht2 H2 (Ex.refl _)) rfl)) ea_nil))) (sp_ordered g (e12 _ _ hd) ok i4))))) ?_) fun v1 H3 e3 r3 => ?_
      · rintro vs H3 e3 ⟨_, rfl, _, rfl, _, rfl, q2, rfl, hq2⟩
        exact sp_best (hn.up (e12.trans e3)) g hs (hq.up (e12.trans e3)) hq2 k1 (by omega)
      have e13 := e12.trans e3
      -- other
      refine q_asgP (ep_callP (R := BestR (bestF B al rs n f (o ++ [(j, i)]))) (ap_consV (ev_var rfl) (ap_consV (ev_var rfl) (ap_last (ep_call (ea_cons (ev_var rfl) (ea_cons (ev_op (ev_var rfl) ev_c (rv_ixT (ht2 H3 e3) rfl)) (ea_cons (ev_op (ev_var rfl) ev_c (rv_ixT (ht2 H3 e3) rfl)) ea_nil))) (sp_ordered g (e13 _ _ hd) ok i5))))) ?_) fun v2 H4 e4 r4 => ?_
      · rintro vs H4 e4 ⟨_, rfl, _, rfl, _, rfl, q2, rfl, hq2⟩
        exact sp_best (hn.up (e13.trans e4)) g hs (hq.up (e13.trans e4)) hq2 k2 (by omega)
      have e14 := e13.trans e4
      have r3' := BestR.up _ _ _ e4 r3
      obtain ⟨t1, d1, rfl, ht1, hd1⟩ := id r3'
      obtain ⟨t2, d2, rfl, ht2', hd2⟩ := id r4
      generalize hx : bestF B al rs n f (o ++ [(i, j)]) = x at *
      generalize hy : bestF B al rs n f (o ++ [(j, i)]) = y at *
      have hx0 : ∀ (H' : Hp), Ex H4 H' → SqT K H' t1 [optV x.1, .ref d1] := fun H' z => SqT.tup (z _ _ ht1)
      have hy0 : ∀ (H' : Hp), Ex H4 H' → SqT K H' t2 [optV y.1, .ref d2] := fun H' z => SqT.tup (z _ _ ht2')
      have key : (decide (x.1 = none) || (!decide (y.1 = none) && decide (y.1.getD 0 < x.1.getD 0))) = true → better x y = y := fun hb => by
        obtain ⟨x1, x2⟩ := x
        obtain ⟨y1, y2⟩ := y
        cases x1 with
        | none => rfl
        | some a =>
          cases y1 with
          | none => cases hb
          | some b =>
            have : b < a := by simpa using hb
            show (if b < a then _ else _) = _
            rw [if_pos this]
      have key2 : (decide (x.1 = none) || (!decide (y.1 = none) && decide (y.1.getD 0 < x.1.getD 0))) = false → better x y = x := fun hb => by
        obtain ⟨x1, x2⟩ := x
        obtain ⟨y1, y2⟩ := y
        cases x1 with
        | none => cases hb
        | some a =>
          cases y1 with
          | none => rfl
          | some b =>
            have : ¬ b < a := by simpa using hb
            show (if b < a then _ else _) = _
            rw [if_neg this]
      have isn : ∀ z : Option Int, decide (optV z = .non) = decide (z = none) := fun z => by cases z <;> rfl
      refine q_when (et_or (et_is (et_test (ev_op (ev_op (ev_var rfl) ev_c (rv_ixT (hx0 H4 (Ex.refl _)) rfl)) ev_c (fun H3 _ Q z => ⟨rfl, z H3 (Ex.refl _)⟩))) (isn x.1))
        (fun hxn => et_and (et_is (et_test (ev_op (ev_op (ev_var rfl) ev_c (rv_ixT (hy0 H4 (Ex.refl _)) rfl)) ev_c (fun H3 _ Q z => ⟨rfl, z H3 (Ex.refl _)⟩))) (by rw [isn y.1])) (fun hyn => et_test (b := decide (y.1.getD 0 < x.1.getD 0)) (ev_op (ev_op (ev_var rfl) ev_c (rv_ixT (hy0 H4 (Ex.refl _)) rfl)) (ev_op (ev_var rfl) ev_c (rv_ixT (hx0 H4 (Ex.refl _)) rfl)) ?_)))) (fun hb H5 e5 => ?_) (fun hb H5 e5 => ?_)
      · obtain ⟨a, ea⟩ : ∃ a, x.1 = some a := by
          cases q : x.1 with
          | none => rw [q] at hxn; cases hxn
          | some a => exact ⟨a, rfl⟩
        obtain ⟨b, eb⟩ : ∃ a, y.1 = some a := by
          cases q : y.1 with
          | none => rw [q] at hyn; cases hyn
          | some a => exact ⟨a, rfl⟩
        rw [ea, eb]
        exact rv_I0
      · rw [key hb] at k
        exact s_ret (ev_var rfl) fun H6 e6 => k _ _ ((e14.trans e5).trans e6) (BestR.up _ _ _ (e5.trans e6) r4)
      · rw [key2 hb] at k
        exact s_ret (ev_var rfl) fun H6 e6 => k _ _ ((e14.trans e5).trans e6) (BestR.up _ _ _ (e5.trans e6) r3')
theorem ok_best_order (T : TX K mg) : ∀ f, Fp P w K mg base (f + 4) ("best_order", none) ["needs", "rings", "order"] (spBest K f)
  | 0 => ok_best_step (k := 0) T (Fp.never T.f_best_order (fun _ _ _ _ _ _ us hl => match us, hl with | [_, _, _], _ => rfl))
  | f + 1 => ok_best_step (k := f + 1) T (ok_best_order T f)
end
end Lw


set_option Elab.async false
set_option linter.all false
set_option maxRecDepth 100000
set_option maxHeartbeats 4000000
namespace Lw
open PySem PySem.Spec PyProof.Rows L2 Evl
section
variable {K : PySem.W.Frag} {σ : L2.St} {H H' : Hp}
/-- for i, j in an order (it is locked meanwhile) -/
theorem s_forOrd {D : Ends} {tb : TS} {d : Addr} {o : Ord} {i j sl : Nat} (hd : OrdAt o d H) (h : σ[sl]? = some (some (.ref d))) (Pv : Obj → Nat → L2.St → Hp → Prop) (hz : ∀ od n σ' H', Pv od n σ' H' → H' d = some (.frz od (.dT (ordK o))))
    (h0 : ∀ od, Pv od 0 σ (upd H d (.frz od (.dT (ordK o)))))
    (hs : ∀ od n (x : Nat × Nat) σ' H', o[n]? = some x → Pv od n σ' H' → ∀ D' : Ends, D'.nx = Pv od (n + 1) → tb D' ((σ'.set i (some (.int (x.1 : Int)))).set j (some (.int (x.2 : Int)))) H')
    (hd2 : ∀ od σ' H', Pv od o.length σ' H' → D.nx σ' (upd H' d (.dT (ordK o)))) :
    tLock (tFor (iKeys (tVar sl)) (gTup K 2 (gCons (gName i) (gCons (gName j) gNil))) tb) D σ H := by
  refine ⟨d, _, hd, trivial, fun od => ⟨_, h, d, od, rfl, .inr ⟨ordK o, upd_same, ?_⟩⟩⟩
  have hl : (ordK o).length = o.length := by unfold ordK; simp
  refine ⟨fun n m σ' H' => m = o.length - n ∧ n ≤ o.length ∧ Pv od n σ' H', ⟨o.length, by simp, Nat.zero_le _, h0 od⟩, ?_⟩
  rintro n m σ' H' ⟨rfl, hn, p⟩
  have q := hz od n σ' H' p
  by_cases hlt : n < o.length
  · refine .inr ⟨⟨q, by rw [hl]; exact hlt⟩, Pv od (n + 1), fun σ2 H2 p2 => ⟨o.length - (n + 1), by omega, rfl, hlt, p2⟩, fun x H2 y => ?_⟩
    obtain ⟨rfl, k, v, b, hk, rfl, hb⟩ := y
    have hon : o[n]? = some o[n] := List.getElem?_eq_getElem hlt
    have hk2 : (ordK o)[n]? = some (keyP o[n], V.bl true) := by
      unfold ordK
      rw [List.getElem?_map, hon]; rfl
    have e := Option.some.inj (hk.symm.trans hk2)
    injection e with e1 e2
    subst e1
    exact g_two (SqT.tup hb) (hs od n o[n] σ' H2 hon p _ rfl)
  · have en : n = o.length := by omega
    subst en
    exact .inl ⟨⟨q, by rw [hl]; exact Nat.le_refl _⟩, q, hd2 od σ' H' p⟩
end
theorem el_rep {σ : L2.St} {H : Hp} {ta tb : TE} {x : V} {n : Nat} (ha : EvL ta σ H [x]) (hb : Ev tb σ H (.int (n : Int))) (hn : n ≤ 1000) : EvL (tOp rRep ta tb) σ H (List.replicate n x) := fun H1 e1 Q q =>
  ha H1 e1 _ fun l0 H2 hl0 e2 h2 => hb H2 (e1.trans e2) _ fun H3 e3 => ⟨l0, _, _, rfl, rfl, e3 _ _ h2, by omega, by omega, sz_of (by simp; omega), fun r hr => by
    refine q r _ (fresh_back (e2.trans e3) hr) ((e2.trans e3).trans (Ex.new hr)) ?_
    rw [upd_same, Int.toNat_natCast, List.flatten_replicate_singleton]⟩
/-- all but what stands at d and l is kept -/
def Kp (d l : Addr) (H H' : Hp) : Prop := ∀ b o, b ≠ d → b ≠ l → H b = some o → H' b = some o
theorem Kp.trans {d l : Addr} {H H1 H2 : Hp} (a : Kp d l H H1) (b : Kp d l H1 H2) : Kp d l H H2 := fun c o h1 h2 h => b c o h1 h2 (a c o h1 h2 h)
theorem Kp.of {d l : Addr} {H H' : Hp} (e : Ex H H') : Kp d l H H' := fun c o _ _ h => e c o h
theorem Kp.d {d l : Addr} {H : Hp} {o : HO} : Kp d l H (L2.upd H d o) := fun c u h _ q => by rw [upd_ne h]; exact q
theorem Kp.l {d l : Addr} {H : Hp} {o : HO} : Kp d l H (L2.upd H l o) := fun c u _ h q => by rw [upd_ne h]; exact q
theorem NeedsAt.kp {K : PySem.W.Frag} {al : List Int} {B : Tab} {p d l : Addr} {o : Ord} {H H' : Hp} (h : NeedsAt K al B p H) (hd : OrdAt o d H) (hl : H l = none) (e : Kp d l H H') : NeedsAt K al B p H' := by
  obtain ⟨dx, la, lb, rs, h1, h2, h3, h4⟩ := h
  exact ⟨dx, la, lb, rs, e _ _ (ne_of h1 hd (by intro z; cases z)) (ne_of_none h1 hl) h1, e _ _ (ne_of h2 hd (by intro z; cases z)) (ne_of_none h2 hl) h2, e _ _ (ne_of h3 hd (by intro z; cases z)) (ne_of_none h3 hl) h3,
    h4.imp fun _ _ z => e _ _ (ne_of (show _ = _ from z) hd (by intro q; cases q)) (ne_of_none (show _ = _ from z) hl) z⟩
def intV (ns : List Int) : List V := ns.map V.int
theorem intV_get {ns : List Int} {k : Nat} (h : k < ns.length) : (intV ns)[k]? = some (.int (ns.getD k 0)) := by
  unfold intV
  rw [List.getElem?_map, List.getElem?_eq_getElem h, List.getD_eq_getElem?_getD, List.getElem?_eq_getElem h]; rfl
theorem intV_set (ns : List Int) (k : Nat) (x : Int) : (intV ns).set k (.int x) = intV (ns.set k x) := by
  unfold intV
  rw [List.map_set]
theorem relaxAll_len (B : Tab) (size : Int) : ∀ (l : Ord) (b : List Int), (l.foldl (relax B size) b).length = b.length
  | [], _ => rfl
  | p :: l, b => by
    rw [List.foldl_cons, relaxAll_len B size l]
    simp [relax]
theorem relaxN_len (B : Tab) (size : Int) (o : Ord) (n : Nat) : ∀ k, (relaxN B size o n k).length = n
  | 0 => by simp [relaxN]
  | k + 1 => by
    show (o.foldl (relax B size) (relaxN B size o n k)).length = n
    rw [relaxAll_len, relaxN_len B size o n k]
section
variable {P : Program} {w : World} {K : PySem.W.Frag} {mg : Str → Option Value} {base : Heap}
def spSettled (K : PySem.W.Frag) : Sp := fun vs H Q _ => ∃ (p d : Addr) (al : List Int) (B : Tab) (n : Nat) (o : Ord) (size : Int), vs = [.ref p, .int size, .ref d] ∧ NeedsAt K al B p H ∧ Good n al B ∧ OrdAt o d H ∧ OrdOk B o ∧ 0 < size ∧ RetL (intV (settledB B size o n)) H Q
theorem ok_settled (T : TX K mg) : Fp P w K mg base 1 ("settled", none) ["needs", "size", "order"] (spSettled K) := by
  refine Fp.of T.f_settled sc_settled (fun _ _ _ _ _ _ us hl => match us, hl with | [_, _, _], _ => rfl) (fun vs H Q E h => ?_) (fun cdv A outer s H vs Q E hr h => ?_)
  · obtain ⟨_, _, _, _, _, _, _, rfl, _⟩ := h; rfl
  · obtain ⟨p, d, al, B, n, o, size, rfl, hn, g, hd, ok, hz, k⟩ := h
    refine ⟨_, (pss_cons (ps_set (i := 3) sc_settled.nd rfl (Or.inl rfl) (pe_op op_rep (pe_lst (pa_cons pe_int pa_nil)) (pe_callB call_len_seq (by rfl) T.free_len PySem.boot_len (pa_cons (pe_fld (pv 0) rfl) pa_nil))))
  (pss_cons (ps_for PassesOwn.never rfl (pi_range1 (by rfl) T.free_range (pa_cons (pe_callB call_len_seq (by rfl) T.free_len PySem.boot_len (pa_cons (pv 3) pa_nil)) pa_nil)) (pg_name (i := 4) sc_settled.nd rfl (Or.inl rfl)) (pss_one (ps_lock (ps_for PassesOwn.never rfl (pi_keys (pv 2)) (pg_tup rfl (pgs_cons (pg_name (i := 5) sc_settled.nd rfl (Or.inl rfl)) (pgs_cons (pg_name (i := 6) sc_settled.nd rfl (Or.inl rfl)) pgs_nil))) (pss_cons (ps_asg (pe_callB (call_max2 rfl) (by rfl) T.free_max (by decide +kernel) (pa_cons (pe_ix ix_list (pv 3) (pv 6) (fun _ _ => rfl)) (pa_cons (pe_op op_add (pe_ix ix_list (pv 3) (pv 5) (fun _ _ => rfl)) (pe_ix ix_list (pe_ix ix_list (pe_fld (pv 0) rfl) (pv 5) (fun _ _ => rfl)) (pv 6) (fun _ _ => rfl))) pa_nil))) (pg_sub (pv 3) (pv 6) set_list))
  (pss_one (ps_asg (pe_callB (call_max2 rfl) (by rfl) T.free_max (by decide +kernel) (pa_cons (pe_ix ix_list (pv 3) (pv 5) (fun _ _ => rfl)) (pa_cons (pe_op op_sub (pe_op op_add (pe_ix ix_list (pv 3) (pv 6) (fun _ _ => rfl)) (pe_ix ix_list (pe_ix ix_list (pe_fld (pv 0) rfl) (pv 6) (fun _ _ => rfl)) (pv 5) (fun _ _ => rfl))) (pv 1)) pa_nil))) (pg_sub (pv 3) (pv 5) set_list))))))))
  (pss_one (ps_ret (pe_lc (own := [("begin", 7)]) (g := gName 7) rfl sc_settled.nd (pi_list (pv 3)) (blkOk_by (own := [("begin", 7)]) (N := N_settled) (sc := defScope s_settled) (by decide +kernel)) (fun _ _ _ _ _ => pg_name (i := 7) sc_settled.nd rfl (Or.inl rfl)) (fun _ _ _ _ _ => pts_nil) (fun _ _ _ _ _ => (pe_op op_modN (pv 7) (pv 1)))))))), ?_⟩
    obtain ⟨dx, la, lb, rs, g1, g2, g3, g4⟩ := id hn
    have h5 := g.n5
    -- begins = [0] * len(needs.alone)
    have hrep0 : List.replicate ((al.map V.int).length) (V.int 0) = intV (relaxN B size o n 0) := by
      rw [List.length_map, g.alen]
      show _ = (List.replicate n (0 : Int)).map V.int
      rw [List.map_replicate]
    refine q_asgL (el_rep (el_lst (ea_cons ev_c ea_nil) (show 1 ≤ 100000 by decide)) (ev_len (ev_fld (ev_var rfl) g1 T.cl_Needs T.no_Needs_alone rfl) (SqL.lst g2)) (by rw [List.length_map, g.alen]; omega)) fun l H1 hl e1 hl1 => ?_
    rw [hrep0] at hl1
    have hlen : ∀ k, (intV (relaxN B size o n k)).length = n := fun k => by unfold intV; rw [List.length_map, relaxN_len]
    refine q_forR1 (ea_cons (ev_is (ev_len (ev_var rfl) (SqL.lst hl1)) (by rw [hlen])) ea_nil) (n := (n : Int)) (by omega) (fun k σ' H' => Ex H H' ∧ H' l = some (.lst (intV (relaxN B size o n k))) ∧ ∃ x4 x5 x6, σ' = [some (.ref p), some (.int size), some (.ref d), some (.ref l), x4, x5, x6, none])
      (fun H2 e2 => ⟨e1.trans e2, e2 _ _ hl1, none, none, none, rfl⟩) (fun k σ' H' hk hP => ?_) (fun σ' H' hP => ?_)
    · obtain ⟨e0, hl0, x4, x5, x6, rfl⟩ := hP
      have nld : l ≠ d := ne_of hl0 (e0 _ _ hd) (by intro z; cases z)
      refine s_forOrd (sl := 2) (e0 _ _ hd) rfl (fun od m σ2 H2 => H2 d = some (.frz od (.dT (ordK o))) ∧ Kp d l H H2 ∧ H2 l = some (.lst (intV ((o.take m).foldl (relax B size) (relaxN B size o n k)))) ∧ ∃ x4 x5 x6, σ2 = [some (.ref p), some (.int size), some (.ref d), some (.ref l), x4, x5, x6, none])
        (fun od m σ2 H2 h => h.1) (fun od => ⟨upd_same, (Kp.of e0).trans Kp.d, by rw [upd_ne nld]; exact hl0, _, _, _, rfl⟩) (fun od m x σ2 H2 hx hP D' hD => ?_) (fun od σ2 H2 hP => ?_)
      · obtain ⟨hd2, kp, hl2, y4, y5, y6, rfl⟩ := hP
        obtain ⟨i, j⟩ := x
        have hin : (i, j) ∈ o := List.mem_of_getElem? hx
        have ha := ok.meets i j hin
        obtain ⟨hi, hj⟩ := g.lt ha
        generalize hb : (o.take m).foldl (relax B size) (relaxN B size o n k) = b at *
        have hbl : b.length = n := by rw [← hb, relaxAll_len, relaxN_len]
        obtain ⟨row, y, hrow, hy⟩ := g.tab.get hi hj
        obtain ⟨row2, y2, hrow2, hy2⟩ := g.tab.get hj hi
        have nd : ∀ H3, Kp d l H H3 → NeedsAt K al B p H3 := fun H3 z => hn.kp hd hl z
        have vij : optV (bh B i j) = .int (bi B i j) := by rw [adj_bi ha]; rfl
        have vji : optV (bh B j i) = .int (bi B j i) := by rw [adj_bi (g.swap ha)]; rfl
        -- begins[j] = max(begins[j], begins[i] + needs.behind[i][j])
        refine q_setL (j := j) hl2 (ev_max2 (ev_op (ev_var rfl) (ev_var rfl) (rv_ixL (SqL.lst hl2) (atI_nat (intV_get (by omega))))) (ev_op (ev_op (ev_var rfl) (ev_var rfl) (rv_ixL (SqL.lst hl2) (atI_nat (intV_get (k := i) (by omega))))) (ev_is (ev_beh T (nd H2 kp) hrow hy (ev_var rfl) (ev_var rfl) (ev_var rfl)) vij) rv_I0)) (ev_var rfl) (ev_var rfl) (by unfold intV; rw [List.length_map]; omega) fun H3 e3 => ?_
        have kp3 : Kp d l H (upd H3 l (.lst ((intV b).set j (.int (if b.getD i 0 + bi B i j > b.getD j 0 then b.getD i 0 + bi B i j else b.getD j 0))))) := (kp.trans (Kp.of e3)).trans Kp.l
        have hl3 : (upd H3 l (.lst ((intV b).set j (.int (if b.getD i 0 + bi B i j > b.getD j 0 then b.getD i 0 + bi B i j else b.getD j 0))))) l = some (.lst (intV (b.set j (pmax (b.getD j 0) (b.getD i 0 + bi B i j))))) := by
          rw [upd_same, intV_set]; rfl
        generalize hb1 : b.set j (pmax (b.getD j 0) (b.getD i 0 + bi B i j)) = b1 at *
        have hbl1 : b1.length = n := by rw [← hb1, List.length_set]; exact hbl
        -- begins[i] = max(begins[i], begins[j] + needs.behind[j][i] - size)
        refine s_setL (j := i) hl3 (ev_max2 (ev_op (ev_var rfl) (ev_var rfl) (rv_ixL (SqL.lst hl3) (atI_nat (intV_get (by omega))))) (ev_op (ev_op (ev_op (ev_var rfl) (ev_var rfl) (rv_ixL (SqL.lst hl3) (atI_nat (intV_get (k := j) (by omega))))) (ev_is (ev_beh T (nd _ kp3) hrow2 hy2 (ev_var rfl) (ev_var rfl) (ev_var rfl)) vji) rv_I0) (ev_var rfl) rv_I0)) (ev_var rfl) (ev_var rfl) (by unfold intV; rw [List.length_map]; omega) fun H4 e4 => ?_
        rw [hD]
        refine ⟨?_, (kp3.trans (Kp.of e4)).trans Kp.l, ?_, _, _, _, rfl⟩
        · rw [upd_ne nld.symm]
          refine e4 _ _ ?_
          rw [upd_ne nld.symm]
          exact e3 _ _ hd2
        · rw [upd_same, intV_set, take_snoc hx, List.foldl_append, hb]
          show _ = some (HO.lst (intV (relax B size b (i, j))))
          unfold relax
          rw [← hb1]
          rfl
      · obtain ⟨hd2, kp, hl2, y4, y5, y6, rfl⟩ := hP
        refine ⟨fun b u hb => ?_, ?_, _, _, _, rfl⟩
        · by_cases q : b = d
          · subst q
            rw [upd_same, ← hb]
            exact hd.symm
          · rw [upd_ne q]
            exact kp _ _ q (ne_of_none hb hl) hb
        · rw [upd_ne nld, hl2, List.take_length]
          rfl
    · obtain ⟨e0, hl0, x4, x5, x6, rfl⟩ := hP
      rw [Int.toNat_natCast] at hl0
      have hlv : ∀ (i : Nat) (x : V), (intV (relaxN B size o n n))[i]? = some x → ∃ b, (relaxN B size o n n)[i]? = some b ∧ x = .int b := fun i x hx => by
        unfold intV at hx
        rw [List.getElem?_map] at hx
        obtain ⟨b, hb, rfl⟩ := Option.map_eq_some_iff.mp hx
        exact ⟨b, hb, rfl⟩
      refine s_retL (el_lcL (fun _ => true) (fun i => ((relaxN B size o n n)[i]?.map fun b => V.int (b.fmod size)).getD .non) (ev_var rfl) (SqL.lst hl0) (by rw [hlen]; omega) (fun _ => rfl) (fun i x H2 e2 hx => et_yes) (fun i x H2 e2 hx _ => ?_)) fun q H2 hq e2 hq2 => ?_
      · obtain ⟨b, hb, rfl⟩ := hlv i x hx
        rw [hb]
        exact ev_op (ev_var rfl) (ev_var rfl) (rv_mod (by omega))
      · rw [given_all, hlen] at hq2
        have hr : (List.range n).map (fun i => ((relaxN B size o n n)[i]?.map fun b => V.int (b.fmod size)).getD .non) = intV (settledB B size o n) := by
          have := range_map (relaxN B size o n n) (fun b => V.int (b.fmod size)) V.non
          rw [relaxN_len] at this
          rw [this]
          unfold settledB intV
          rw [List.map_map]
          rfl
        rw [hr] at hq2
        exact k q H2 (fresh_back e0 hq) (e0.trans e2) hq2
end
end Lw


set_option Elab.async false
set_option linter.all false
set_option maxRecDepth 100000
set_option maxHeartbeats 4000000
namespace Lw
open PySem PySem.Spec PyProof.Rows L2 Evl
/-! ### papers -/
def PaperR : Pp → V → Hp → Prop
  | .alone k, v, H => ∃ t, v = .ref t ∧ H t = some (.tup [.str "alone", .int (k : Int)])
  | .ring ks, v, H => ∃ t r, v = .ref t ∧ H t = some (.tup [.str "ring", .ref r]) ∧ NatAt ks r H
  | .case i j p q, v, H => ∃ t a b, v = .ref t ∧ H t = some (.tup [.str "case", .int (i : Int), .int (j : Int), a, b]) ∧ PaperR p a H ∧ PaperR q b H
theorem PaperR.tups : ∀ {x : Pp} {v : V} {H H' : Hp}, (∀ b u, tupO u → H b = some u → H' b = some u) → PaperR x v H → PaperR x v H'
  | .alone k, v, H, H', h, ⟨t, h1, h2⟩ => ⟨t, h1, h _ _ trivial h2⟩
  | .ring ks, v, H, H', h, ⟨t, r, h1, h2, h3⟩ => ⟨t, r, h1, h _ _ trivial h2, NatAt.tup _ _ _ _ h h3⟩
  | .case i j p q, v, H, H', h, ⟨t, a, b, h1, h2, h3, h4⟩ => ⟨t, a, b, h1, h _ _ trivial h2, PaperR.tups h h3, PaperR.tups h h4⟩
theorem PaperR.up {x : Pp} : Up1 (PaperR x) := fun v H H' e h => h.tups fun b u _ q => e b _ q
theorem paperF_inv {B : Tab} {rs : List (List Nat × Int)} {n : Nat} {size : Int} {f : Nat} {o : Ord} {pp : Pp} (h : rs.find? (fires o size) = none) (hp : paperF B rs n size f o = some pp) :
    ∃ f' i j p q, f = f' + 1 ∧ openPair B n o = some (i, j) ∧ paperF B rs n size f' (o ++ [(i, j)]) = some p ∧ paperF B rs n size f' (o ++ [(j, i)]) = some q ∧ pp = .case i j p q := by
  unfold paperF at hp
  rw [h] at hp
  cases f with
  | zero => cases hp
  | succ f =>
    cases e : openPair B n o with
    | none =>
      rw [e] at hp
      cases hp
    | some pr =>
      obtain ⟨i, j⟩ := pr
      rw [e] at hp
      have hp2 : (match paperF B rs n size f (o ++ [(i, j)]), paperF B rs n size f (o ++ [(j, i)]) with
        | some one, some other => some (Pp.case i j one other)
        | _, _ => none) = some pp := hp
      cases e1 : paperF B rs n size f (o ++ [(i, j)]) with
      | none =>
        rw [e1] at hp2
        cases hp2
      | some p =>
        cases e2 : paperF B rs n size f (o ++ [(j, i)]) with
        | none =>
          rw [e1, e2] at hp2
          cases hp2
        | some q =>
          rw [e1, e2] at hp2
          exact ⟨f, i, j, p, q, rfl, rfl, e1, e2, (Option.some.inj hp2).symm⟩
section
variable {P : Program} {w : World} {K : PySem.W.Frag} {mg : Str → Option Value} {base : Heap}
def spPaper (K : PySem.W.Frag) (f : Nat) : Sp := fun vs H Q _ => ∃ (p q d : Addr) (al : List Int) (B : Tab) (n : Nat) (o : Ord) (rs : List (List Nat × Int)) (size : Int) (pp : Pp), vs = [.ref p, .ref q, .int size, .ref d] ∧ NeedsAt K al B p H ∧ Good n al B ∧ Sound B n rs ∧ RingsAt rs q H ∧ OrdAt o d H ∧ OrdOk B o ∧
  paperF B rs n size f o = some pp ∧ RetP (PaperR pp) H Q
def spPaperR (K : PySem.W.Frag) : Nat → Sp
  | 0 => fun _ _ _ _ => False
  | f + 1 => spPaper K f
theorem sp_paper {p q d : Addr} {al : List Int} {B : Tab} {n : Nat} {o : Ord} {rs : List (List Nat × Int)} {f : Nat} {size : Int} {pp : Pp} {H : Hp} (hn : NeedsAt K al B p H) (g : Good n al B) (hs : Sound B n rs) (hq : RingsAt rs q H) (hd : OrdAt o d H) (ok : OrdOk B o) (hf : paperF B rs n size f o = some pp) :
    SpP (spPaper K f) [.ref p, .ref q, .int size, .ref d] H (PaperR pp) := fun H1 e Q z _ => ⟨p, q, d, al, B, n, o, rs, size, pp, rfl, hn.up e, g, hs, hq.up e, e _ _ hd, ok, hf, z⟩
theorem ok_paper_step (T : TX K mg) {f k : Nat} (rec : Fp P w K mg base (k + 3) ("paper_of", none) ["needs", "rings", "size", "order"] (spPaperR K f)) : Fp P w K mg base (k + 4) ("paper_of", none) ["needs", "rings", "size", "order"] (spPaper K f) := by
  refine Fp.of T.f_paper_of sc_paper_of (fun _ _ _ _ _ _ us hl => match us, hl with | [_, _, _, _], _ => rfl) (fun vs H Q E h => ?_) (fun cdv A outer s H vs Q E hr h => ?_)
  · obtain ⟨_, _, _, _, _, _, _, _, _, _, rfl, _⟩ := h; rfl
  · obtain ⟨p, q, d, al, B, n, o, rs, size, pp, rfl, hn, g, hs, hq, hd, ok, hf, k⟩ := h
    refine ⟨_, (pss_cons (ps_for PassesOwn.never rfl (pi_list (pv 1)) (pg_tup rfl (pgs_cons (pg_name (i := 4) sc_paper_of.nd rfl (Or.inl rfl)) (pgs_cons (pg_name (i := 5) sc_paper_of.nd rfl (Or.inl rfl)) pgs_nil))) (pss_cons (ps_set (i := 6) sc_paper_of.nd rfl (Or.inl rfl) (pe_f (ok_ring_rounds T) T.g_ring_rounds (hr.mono (by omega)) (pa_cons (pv 3) (pa_cons (pv 4) pa_nil))))
  (pss_one (ps_if (PW.pt (pw_and (pt_cmpR op_notN (pv 6) pe_non (nomark _)) (pw_and1 (pt_cmpR op_gt (pv 5) (pe_op op_mul (pv 2) (pv 6)) (nomark _))))) (pss_one (ps_ret (pe_tup (pa_cons pe_str (pa_cons (pv 4) pa_nil))))) pss_nil))))
  (pss_cons (ps_asg (pe_f (ok_open_pair T) T.g_open_pair (hr.mono (by omega)) (pa_cons (pv 0) (pa_cons (pv 3) pa_nil))) (pg_tup rfl (pgs_cons (pg_name (i := 7) sc_paper_of.nd rfl (Or.inl rfl)) (pgs_cons (pg_name (i := 8) sc_paper_of.nd rfl (Or.inl rfl)) pgs_nil))))
  (pss_cons (ps_set (i := 9) sc_paper_of.nd rfl (Or.inl rfl) (pe_f rec T.g_paper_of (hr.mono (by omega)) (pa_cons (pv 0) (pa_cons (pv 1) (pa_cons (pv 2) (pa_cons (pe_f (ok_ordered T) T.g_ordered (hr.mono (by omega)) (pa_cons (pv 3) (pa_cons (pv 7) (pa_cons (pv 8) pa_nil)))) pa_nil))))))
  (pss_one (ps_ret (pe_tup (pa_cons pe_str (pa_cons (pv 7) (pa_cons (pv 8) (pa_cons (pv 9) (pa_cons (pe_f rec T.g_paper_of (hr.mono (by omega)) (pa_cons (pv 0) (pa_cons (pv 1) (pa_cons (pv 2) (pa_cons (pe_f (ok_ordered T) T.g_ordered (hr.mono (by omega)) (pa_cons (pv 3) (pa_cons (pv 8) (pa_cons (pv 7) pa_nil)))) pa_nil))))) pa_nil))))))))))), ?_⟩
    obtain ⟨as, q1, q2⟩ := id hq
    refine q_forPr (ev_var rfl) (SqL.lst q1) (fun m σ' H' => Ex H H' ∧ (∀ m' x, m' < m → rs[m']? = some x → fires o size x = false) ∧ ∃ x4 x5 x6, σ' = [some (.ref p), some (.ref q), some (.int size), some (.ref d), x4, x5, x6, none, none, none])
      (fun H1 e1 => ⟨e1, fun m' x h => by omega, none, none, none, rfl⟩) (fun m σ' H' _ hP => SqL.lst (hP.1 _ _ q1)) (fun m x σ' H' hx hP => ?_) (fun σ' H' hP => ?_)
    · obtain ⟨e0, hno, x4, x5, x6, rfl⟩ := hP
      rw [List.getElem?_map] at hx
      obtain ⟨a, ha, rfl⟩ := Option.map_eq_some_iff.mp hx
      have hm : m < rs.length := by rw [← q2.1]; exact (List.getElem?_eq_some_iff.mp ha).1
      have hmx : rs[m]? = some rs[m] := List.getElem?_eq_getElem hm
      obtain ⟨t, ht1, ht2⟩ := q2.2 m a _ ha hmx
      refine ⟨a, _, _, rfl, SqT.tup (e0 _ _ ht1), ?_⟩
      refine q_asg (ev_callV (ea_cons (ev_var rfl) (ea_cons (ev_var rfl) ea_nil)) (sp_rounds (e0 _ _ hd) (ht2.up e0).sq)) fun H2 e2 => ?_
      have hl5 : (rs[m]).1.length ≤ 5 := by
        obtain ⟨b, r, kk⟩ := hs _ (List.getElem_mem hm)
        rw [kk.e]
        have := kk.row.len
        have := g.n5
        omega
      have hb0 : ∃ b : Bool, b = fires o size rs[m] := ⟨_, rfl⟩
      refine s_when (b := fires o size rs[m]) (et_is (et_and (b := decide ((rs[m]).2 > size * (((ringRounds o (rs[m]).1).getD 0 : Nat) : Int))) (et_test (ev_op (ev_var rfl) ev_c (fun H3 _ Q z => ⟨rfl, z H3 (Ex.refl _)⟩))) (fun hc => ?_)) ?_) (fun hb H3 e3 => ?_) (fun hb H3 e3 => ?_)
      · cases er : ringRounds o (rs[m]).1 with
        | none =>
          rw [er] at hc
          cases hc
        | some c =>
          have := rr_le er
          exact et_test (ev_op (ev_var rfl) (ev_op (ev_var rfl) (ev_var rfl) (rv_I (.inr ⟨by show -(2 ^ 64) < ((c : Nat) : Int); omega, by show ((c : Nat) : Int) < 2 ^ 64; omega⟩))) rv_I0)
      · unfold fires
        cases er : ringRounds o (rs[m]).1 with
        | none => rfl
        | some c => rfl
      · have hfind : rs.find? (fires o size) = some rs[m] := by
          rw [List.find?_eq_some_iff_append]
          refine ⟨hb, rs.take m, rs.drop (m + 1), ?_, fun y hy => ?_⟩
          · conv => lhs; rw [← List.take_append_drop m rs, List.drop_eq_getElem_cons hm]
          · obtain ⟨m', hm', ey⟩ := List.getElem_of_mem hy
            have h1 : m' < m := by
              rw [List.length_take] at hm'
              omega
            have h2 : rs[m']? = some y := by
              rw [List.getElem_take] at ey
              rw [← ey]
              exact List.getElem?_eq_getElem (by omega)
            rw [hno m' y h1 h2]
            rfl
        rw [paperF_ring f hfind] at hf
        cases hf
        refine s_retU (eu_tup (ea_cons ev_c (ea_cons (ev_var rfl) ea_nil)) (show 2 ≤ 100000 by decide)) fun b H4 _ e4 hb4 => ?_
        exact k _ _ (((e0.trans e2).trans e3).trans e4) ⟨b, t, rfl, hb4, NatAt.tup.up (((e0.trans e2).trans e3).trans e4) ht2⟩
      · refine ⟨(e0.trans e2).trans e3, fun m' x h1 h2 => ?_, _, _, _, rfl⟩
        by_cases z : m' < m
        · exact hno m' x z h2
        · have : m' = m := by omega
          subst this
          rw [hmx] at h2
          cases h2
          exact hb
    · obtain ⟨e0, hno, x4, x5, x6, rfl⟩ := hP
      have hfind : rs.find? (fires o size) = none := by
        rw [List.find?_eq_none]
        intro x hx
        obtain ⟨m, hm, ex⟩ := List.getElem_of_mem hx
        rw [hno m x (by rw [List.length_map, q2.1]; exact hm) (by rw [← ex]; exact List.getElem?_eq_getElem hm)]
        decide
      obtain ⟨f, i, j, p1, p2, rfl, eo, h1, h2, rfl⟩ := paperF_inv hfind hf
      obtain ⟨i1, i2, i3, i4, i5⟩ := openPair_some eo
      obtain ⟨k1, k2⟩ := ok.both g eo
      refine q_asgTwo (x := .int (i : Int)) (y := .int (j : Int)) ((ep_call (ea_cons (ev_var rfl) (ea_cons (ev_var rfl) ea_nil)) (sp_open (hn.up e0) g (e0 _ _ hd))).imp fun v H1 e1 r => ?_) fun H1 e1 => ?_
      · rw [eo] at r
        exact r
      have e01 := e0.trans e1
      refine q_asgP (ep_callP (R := PaperR p1) (ap_consV (ev_var rfl) (ap_consV (ev_var rfl) (ap_consV (ev_var rfl) (ap_last (ep_call (ea_cons (ev_var rfl) (ea_cons (ev_var rfl) (ea_cons (ev_var rfl) ea_nil))) (sp_ordered g (e01 _ _ hd) ok i4)))))) ?_) fun v1 H2 e2 r2 => ?_
      · rintro vs H3 e3 ⟨_, rfl, _, rfl, _, rfl, _, rfl, q3, rfl, hq3⟩
        exact sp_paper (hn.up (e01.trans e3)) g hs (hq.up (e01.trans e3)) hq3 k1 h1
      have e02 := e01.trans e2
      refine s_retP (ep_tupP (S := fun vs H' => ∃ b, vs = [.str "case", .int (i : Int), .int (j : Int), v1, b] ∧ PaperR p1 v1 H' ∧ PaperR p2 b H') ?_ ?_ ?_) fun v H3 e3 r3 => ?_
      · have hlast := ap_last (ep_callP (R := PaperR p2) (ap_consV (σ := [some (.ref p), some (.ref q), some (.int size), some (.ref d), x4, x5, x6, some (.int (i : Int)), some (.int (j : Int)), some v1]) (te := tVar 0) (v := .ref p) (H := H2) (ev_var rfl) (ap_consV (te := tVar 1) (v := .ref q) (ev_var rfl) (ap_consV (te := tVar 2) (v := .int size) (ev_var rfl) (ap_last (ep_call (E := E0) (ea_cons (ev_var (i := 3) (v := .ref d) rfl) (ea_cons (ev_var (i := 8) (v := .int (j : Int)) rfl) (ea_cons (ev_var (i := 7) (v := .int (i : Int)) rfl) ea_nil))) (sp_ordered g (e02 _ _ hd) ok i5)))))) (sp := spPaper K f) (E := E0) (by
          rintro vs H3 e3 ⟨_, rfl, _, rfl, _, rfl, _, rfl, q3, rfl, hq3⟩
          exact sp_paper (hn.up (e02.trans e3)) g hs (hq.up (e02.trans e3)) hq3 k2 h2))
        intro H3 e3 Q z
        refine (ap_consV (v := .str "case") ev_c (ap_consV (v := .int (i : Int)) (ev_var rfl) (ap_consV (v := .int (j : Int)) (ev_var rfl) (ap_consV (v := v1) (ev_var rfl) hlast)))) H3 e3 _ fun vs H4 e4 r4 => z vs H4 e4 ?_
        obtain ⟨_, rfl, _, rfl, _, rfl, _, rfl, b, rfl, hb⟩ := r4
        exact ⟨b, rfl, PaperR.up _ _ _ (e3.trans e4) r2, hb⟩
      · rintro vs H3 ⟨b, rfl, _⟩
        show 5 ≤ 100000
        decide
      · rintro vs H3 H4 e4 ⟨b, rfl, r5, r6⟩
        exact ⟨b, rfl, PaperR.up _ _ _ e4 r5, PaperR.up _ _ _ e4 r6⟩
      · obtain ⟨t, vs, rfl, ht, b, rfl, r5, r6⟩ := r3
        exact k _ _ (e02.trans e3) ⟨t, v1, b, rfl, ht, r5, r6⟩
theorem ok_paper_of (T : TX K mg) : ∀ f, Fp P w K mg base (f + 4) ("paper_of", none) ["needs", "rings", "size", "order"] (spPaper K f)
  | 0 => ok_paper_step (k := 0) T (Fp.never T.f_paper_of (fun _ _ _ _ _ _ us hl => match us, hl with | [_, _, _, _], _ => rfl))
  | f + 1 => ok_paper_step (k := f + 1) T (ok_paper_of T f)
end
end Lw


set_option Elab.async false
set_option linter.all false
set_option maxRecDepth 100000
set_option maxHeartbeats 4000000
namespace Lw
open PySem PySem.Spec PyProof.Rows L2 Evl
/-! ### the shortest round -/
def bestOf (n : Nat) (al : List Int) (B : Tab) (m : Nat) : Option Int × Ord := bestF B al (rg B n m) n 6 (firstN B n)
structure ToldR (n : Nat) (al : List Int) (B : Tab) (H : Hp) (v : V) (H' : Hp) (t l : Addr) (m : Nat) (s : Int) (vp : V) (pp : Pp) : Prop where
  v : v = .ref t
  tup : H' t = some (.tup [.int s, .ref l, vp])
  new : H l = none
  lst : H' l = some (.lst (intV (settledB B s (bestOf n al B m).2 n)))
  fin : IsEnd B n m
  best : (bestOf n al B m).1 = some s
  paper : PaperR pp vp H'
  bears : bearsP B al (s - 1) pp (firstN B n) = true
  wf : wf n pp 0
section
variable {P : Program} {w : World} {K : PySem.W.Frag} {mg : Str → Option Value} {base : Heap}
theorem ep_needs {σ : L2.St} {H : Hp} {ta : TA} {c a : Addr} {pl : Int} {ws : List WayD} {wd : WD} (h : EvA ta σ H [.ref c, .ref a]) (hc : CrossAt K pl ws c H) (ha : WantsAt wd a H) (ok : WantsOk pl ws wd) :
    EvP (tMake (He.ga K "Needs") (spNeeds K) [] E0 ta) σ H (fun v H' => ∃ p, v = .ref p ∧ NeedsAt K (wd.map aloneOf) (tabOf pl wd) p H') := fun H1 e1 Q q => h H1 e1 _ fun H2 e2 => fun x dx nx nd ne => by
  have e3 : Ex H2 (upd (upd H2 dx (.own x)) x (.ins (He.ga K "Needs") dx [])) := (Ex.new nd).trans (Ex.new (by rw [upd_ne ne.symm]; exact nx))
  have e13 := (e1.trans e2).trans e3
  refine ⟨x, dx, c, a, pl, ws, wd, rfl, upd_same, hc.up e13, ha.up e13, ok, fun H' hn ex => ⟨rfl, q _ H' (e2.trans fun b u hb => ex b u (ne_of_none hb nx) (e3 _ _ hb)) ⟨x, rfl, hn⟩⟩⟩
def spShort (K : PySem.W.Frag) : Sp := fun vs H Q _ => ∃ (c a : Addr) (pl : Int) (ws : List WayD) (wd : WD), vs = [.ref c, .ref a] ∧ CrossAt K pl ws c H ∧ WantsAt wd a H ∧ WantsOk pl ws wd ∧ Good wd.length (wd.map aloneOf) (tabOf pl wd) ∧
  ∀ v H' t l m s vp pp, Ex H H' → ToldR wd.length (wd.map aloneOf) (tabOf pl wd) H v H' t l m s vp pp → Q v H'
theorem ok_shortest (T : TX K mg) : Fp P w K mg base 11 ("shortest", none) ["crossing", "wants"] (spShort K) := by
  refine Fp.of T.f_shortest sc_shortest (fun _ _ _ _ _ _ us hl => match us, hl with | [_, _], _ => rfl) (fun vs H Q E h => ?_) (fun cdv A outer s H vs Q E hr h => ?_)
  · obtain ⟨_, _, _, _, _, rfl, _⟩ := h; rfl
  · obtain ⟨c, a, pl, ws, wd, rfl, hc, ha, ok, g, k⟩ := h
    refine ⟨_, (pss_cons (ps_set (i := 2) sc_shortest.nd rfl (Or.inl rfl) (pe_mk T.m_Needs (ok_Needs_init T) T.g_Needs (hr.mono (by decide)) (pa_cons (pv 0) (pa_cons (pv 1) pa_nil))))
  (pss_cons (ps_set (i := 3) sc_shortest.nd rfl (Or.inl rfl) (pe_f (ok_rings_of T) T.g_rings_of (hr.mono (by decide)) (pa_cons (pv 2) pa_nil)))
  (pss_cons (ps_set (i := 4) sc_shortest.nd rfl (Or.inl rfl) (pe_f (ok_first_order T) T.g_first_order (hr.mono (by decide)) (pa_cons (pv 2) pa_nil)))
  (pss_cons (ps_set (i := 5) sc_shortest.nd rfl (Or.inl rfl) (pe_f (ok_best_order T 6) T.g_best_order (hr.mono (by decide)) (pa_cons (pv 2) (pa_cons (pv 3) (pa_cons (pv 4) pa_nil)))))
  (pss_cons (ps_set (i := 6) sc_shortest.nd rfl (Or.inl rfl) (pe_f (ok_settled T) T.g_settled (hr.mono (by decide)) (pa_cons (pv 2) (pa_cons (pe_ix ix_tup (pv 5) pe_int (fun _ _ => rfl)) (pa_cons (pe_ix ix_tup (pv 5) pe_int (fun _ _ => rfl)) pa_nil)))))
  (pss_cons (ps_for PassesOwn.never rfl (pi_enum (by rfl) T.free_enumerate (pa_cons (pe_fld (pv 2) rfl) pa_nil)) (pg_tup rfl (pgs_cons (pg_name (i := 7) sc_shortest.nd rfl (Or.inl rfl)) (pgs_cons (pg_name (i := 8) sc_shortest.nd rfl (Or.inl rfl)) pgs_nil))) (pss_one (ps_if (pt_cmpR op_eq (pv 8) (pe_ix ix_tup (pv 5) pe_int (fun _ _ => rfl)) (nomark _)) (pss_one (ps_ret (pe_tup (pa_cons (pe_ix ix_tup (pv 5) pe_int (fun _ _ => rfl)) (pa_cons (pv 6) (pa_cons (pe_tup (pa_cons pe_str (pa_cons (pv 7) pa_nil))) pa_nil)))))) pss_nil)))
  (pss_one (ps_ret (pe_tup (pa_cons (pe_ix ix_tup (pv 5) pe_int (fun _ _ => rfl)) (pa_cons (pv 6) (pa_cons (pe_f (ok_paper_of T 6) T.g_paper_of (hr.mono (by decide)) (pa_cons (pv 2) (pa_cons (pv 3) (pa_cons (pe_op op_sub (pe_ix ix_tup (pv 5) pe_int (fun _ _ => rfl)) pe_int) (pa_cons (pv 4) pa_nil))))) pa_nil)))))))))))), ?_⟩
    generalize hn0 : wd.length = n at *
    generalize hal0 : wd.map aloneOf = al at *
    generalize hB0 : tabOf pl wd = B at *
    refine q_asgP (ep_needs (ea_cons (ev_var rfl) (ea_cons (ev_var rfl) ea_nil)) hc ha ok) fun v H1 e1 r1 => ?_
    obtain ⟨p, rfl, hn⟩ := r1
    rw [hal0, hB0] at hn
    refine q_asgP (ep_call (R := fun v H' => ∃ q m, v = .ref q ∧ IsEnd B n m ∧ RingsAt (rg B n m) q H') (ea_cons (ev_var rfl) ea_nil) (fun H2 e Q q _ => ⟨p, al, B, n, rfl, hn.up e, g, q⟩)) fun v H2 e2 r2 => ?_
    obtain ⟨q, m, rfl, hend, hq⟩ := r2
    have hn2 := hn.up e2
    refine q_asgP (ep_call (R := fun v H' => ∃ d, v = .ref d ∧ OrdAt (firstN B n) d H') (ea_cons (ev_var rfl) ea_nil) (fun H3 e Q q _ => ⟨p, al, B, n, rfl, hn2.up e, g.tab, by have := g.n1; omega, g.n5, q⟩)) fun v H3 e3 r3 => ?_
    obtain ⟨d, rfl, hd⟩ := r3
    have hs : Sound B n (rg B n m) := rg_ok m hend.more
    have ok0 := first_ok g
    refine q_asgP (ep_call (ea_cons (ev_var rfl) (ea_cons (ev_var rfl) (ea_cons (ev_var rfl) ea_nil))) (sp_best (hn2.up e3) g hs (hq.up e3) hd ok0 (opens_first g))) fun v H4 e4 r4 => ?_
    obtain ⟨t, d2, rfl, ht, hd2⟩ := r4
    obtain ⟨s, es, tl, hpap⟩ := told g hend
    have es' : (bestOf n al B m).1 = some s := es
    rw [es] at ht
    have hn4 := hn2.up (e3.trans e4)
    have ht4 : ∀ H', Ex H4 H' → SqT K H' t [.int s, .ref d2] := fun H' e => SqT.tup (e _ _ ht)
    refine q_asgL (el_call (ea_cons (ev_var rfl) (ea_cons (ev_op (ev_var rfl) ev_c (rv_ixT (ht4 H4 (Ex.refl _)) rfl)) (ea_cons (ev_op (ev_var rfl) ev_c (rv_ixT (ht4 H4 (Ex.refl _)) rfl)) ea_nil))) (xs := intV (settledB B s (bestOf n al B m).2 n)) (fun H5 e Q z _ => ⟨p, d2, al, B, n, _, s, rfl, hn4.up e, g, e _ _ hd2, tl.ok, by have := tl.one; omega, z⟩)) fun l H5 hl e5 hl5 => ?_
    have e14 := ((e1.trans e2).trans e3).trans e4
    have hlH : H l = none := fresh_back e14 hl
    have hn5 := hn4.up e5
    obtain ⟨dx, la, lb, rs, g1, g2, g3, g4⟩ := id hn5
    refine q_forE (ea_cons (ev_fld (ev_var rfl) g1 T.cl_Needs T.no_Needs_alone rfl) ea_nil) (SqL.lst g2) (fun i σ' H' => Ex H5 H' ∧ (∀ i' x, i' < i → al[i']? = some x → x ≠ s) ∧ ∃ x y, σ' = [some (.ref c), some (.ref a), some (.ref p), some (.ref q), some (.ref d), some (.ref t), some (.ref l), x, y])
      (fun H6 e6 => ⟨e6, fun i' x h => by omega, none, none, rfl⟩) (fun i σ' H' _ hP => SqL.lst (hP.1 _ _ g2)) (fun i x σ' H' hx hP H6 e6 => ?_) (fun σ' H' hP => ?_)
    · obtain ⟨e0, hno, x7, x8, rfl⟩ := hP
      rw [List.getElem?_map] at hx
      obtain ⟨z, hz, rfl⟩ := Option.map_eq_some_iff.mp hx
      have e06 := e0.trans e6
      have hT : ∀ H', Ex H6 H' → SqT K H' t [.int s, .ref d2] := fun H' e => SqT.tup (e _ _ (e06 _ _ (e5 _ _ ht)))
      refine s_when (et_test (ev_op (ev_var rfl) (ev_op (ev_var rfl) ev_c (rv_ixT (hT H6 (Ex.refl _)) rfl)) (rv_eq rfl))) (fun hb H7 e7 => ?_) (fun hb H7 e7 => ?_)
      · have ez : z = s := V.int.inj (of_decide_eq_true hb)
        subst ez
        have hin : i < n := by
          rw [← g.alen]
          exact (List.getElem?_eq_some_iff.mp hz).1
        refine s_retP (ep_tupP (S := fun vs H' => ∃ b, vs = [.int z, .ref l, b] ∧ PaperR (.alone i) b H') ?_ ?_ ?_) fun v H8 e8 r8 => ?_
        · intro H8 e8 Q zz
          refine (ap_consV (v := .int z) (ev_op (ev_var (i := 5) (v := .ref t) rfl) ev_c (rv_ixT (hT H7 e7) rfl)) (ap_consV (te := tVar 6) (v := .ref l) (ev_var rfl) (ap_last (R := PaperR (.alone i)) ((ep_tup (ea_cons ev_c (ea_cons (ev_var (i := 7) rfl) ea_nil)) (show 2 ≤ 100000 by decide)).imp fun v H9 _ r => r)))) H8 e8 _ fun vs H9 e9 r9 => zz vs H9 e9 ?_
          obtain ⟨_, rfl, _, rfl, b, rfl, hb⟩ := r9
          exact ⟨b, rfl, hb⟩
        · rintro vs H8 ⟨b, rfl, _⟩
          show 3 ≤ 100000
          decide
        · rintro vs H8 H9 e9 ⟨b, rfl, r⟩
          exact ⟨b, rfl, PaperR.up _ _ _ e9 r⟩
        · obtain ⟨t8, vs, rfl, ht8, b, rfl, hb8⟩ := r8
          have e58 := (e06.trans e7).trans e8
          refine k _ _ t8 l m z b (.alone i) ((e14.trans e5).trans e58) ⟨rfl, ht8, hlH, e58 _ _ hl5, hend, es', hb8, ?_, hin, by omega⟩
          show decide (al.getD i 0 > z - 1) = true
          rw [List.getD_eq_getElem?_getD, hz]
          exact decide_eq_true (by show z > z - 1; omega)
      · refine ⟨e06.trans e7, fun i' x h1 h2 => ?_, _, _, rfl⟩
        by_cases y : i' < i
        · exact hno i' x y h2
        · have : i' = i := by omega
          subst this
          rw [hz] at h2
          cases h2
          intro e
          rw [e, decide_eq_true rfl] at hb
          cases hb
    · obtain ⟨e0, hno, x7, x8, rfl⟩ := hP
      have hmax : maxL al < s := by
        have hne : al ≠ [] := fun e => by
          have := g.alen
          have := g.n1
          rw [e] at *
          simp at *
          omega
        have hm := maxL_mem al hne
        obtain ⟨i, hi, ei⟩ := List.getElem_of_mem hm
        have h1 := hno i _ (by rw [List.length_map]; exact hi) (List.getElem?_eq_getElem hi)
        rw [ei] at h1
        have := tl.max
        omega
      obtain ⟨pp, hp1, hp2, hp3⟩ := hpap hmax
      have hT : ∀ H', Ex H' H' → Ex H5 H' → SqT K H' t [.int s, .ref d2] := fun H' _ e => SqT.tup (e _ _ (e5 _ _ ht))
      refine s_retP (ep_tupP (S := fun vs H' => ∃ b, vs = [.int s, .ref l, b] ∧ PaperR pp b H') ?_ ?_ ?_) fun v H8 e8 r8 => ?_
      · intro H8 e8 Q zz
        refine (ap_consV (v := .int s) (ev_op (ev_var (i := 5) (v := .ref t) rfl) ev_c (rv_ixT (hT H' (Ex.refl _) e0) rfl)) (ap_consV (te := tVar 6) (v := .ref l) (ev_var rfl) (ap_last (R := PaperR pp) (ep_call (sp := spPaper K 6) (E := E0) (ea_cons (ev_var (i := 2) (v := .ref p) rfl) (ea_cons (ev_var (i := 3) (v := .ref q) rfl) (ea_cons (ev_op (ev_op (ev_var (i := 5) (v := .ref t) rfl) ev_c (rv_ixT (hT H' (Ex.refl _) e0) rfl)) (ev_c (v := .int 1)) (rv_I0 (g := fun i j => V.int (i - j)) (i := s) (j := 1))) (ea_cons (ev_var (i := 4) (v := .ref d) rfl) ea_nil))))
          (sp_paper (hn5.up e0) g hs (hq.up (((e3.trans e4).trans e5).trans e0)) (e0 _ _ (e5 _ _ (e4 _ _ hd))) ok0 hp1))))) H8 e8 _ fun vs H9 e9 r9 => zz vs H9 e9 ?_
        obtain ⟨_, rfl, _, rfl, b, rfl, hb⟩ := r9
        exact ⟨b, rfl, hb⟩
      · rintro vs H8 ⟨b, rfl, _⟩
        show 3 ≤ 100000
        decide
      · rintro vs H8 H9 e9 ⟨b, rfl, r⟩
        exact ⟨b, rfl, PaperR.up _ _ _ e9 r⟩
      · obtain ⟨t8, vs, rfl, ht8, b, rfl, hb8⟩ := r8
        have e58 := e0.trans e8
        exact k _ _ t8 l m s b pp ((e14.trans e5).trans e58) ⟨rfl, ht8, hlH, e58 _ _ hl5, hend, es', hb8, hp2, hp3⟩
end
end Lw


set_option Elab.async false
set_option linter.all false
set_option maxRecDepth 100000
set_option maxHeartbeats 4000000
namespace Lw
open PySem PySem.Spec PyProof.Rows L2 Evl TL
/-! ### signs and words -/
section
variable {K : PySem.W.Frag} {σ : L2.St} {H H' : Hp} {te to ta : TE} {tu tz : TS} {D : Ends}
theorem s_forStr {x : Str} {j : Nat} (h : Ev te σ H (.str x)) (Pv : Nat → L2.St → Hp → Prop) (h0 : ∀ H1, Ex H H1 → Pv 0 σ H1)
    (hs : ∀ i c σ' H', (tl x)[i]? = some c → Pv i σ' H' → tu { D with nx := Pv (i + 1), ct := Pv (i + 1), bk := D.nx } (σ'.set j (some (.str ⟨#[c]⟩))) H') (hd : ∀ σ' H', Pv (tl x).length σ' H' → D.nx σ' H') :
    tFor (iStr te) (gName j) tu D σ H := h H (Ex.refl H) _ fun H1 e => ⟨x, rfl, by
  have hz : x.cps.size = (tl x).length := by simp [tl]
  refine ⟨fun i m σ' H' => m = (tl x).length - i ∧ i ≤ (tl x).length ∧ Pv i σ' H', ⟨(tl x).length, by simp, Nat.zero_le _, h0 H1 e⟩, ?_⟩
  rintro i m σ' H' ⟨rfl, hi, p⟩
  by_cases hlt : i < (tl x).length
  · refine .inr ⟨show i < x.cps.size by omega, Pv (i + 1), fun σ2 H2 p2 => ⟨(tl x).length - (i + 1), by omega, rfl, hlt, p2⟩, fun v H2 y => ?_⟩
    obtain ⟨rfl, c, hc, rfl⟩ := y
    exact hs i c σ' H2 (by rw [Array.getElem?_toList]; exact hc) p
  · have en : i = (tl x).length := by omega
    subst en
    exact .inl ⟨show x.cps.size ≤ (tl x).length by omega, hd σ' H' p⟩⟩
theorem q_forStr {x : Str} {j : Nat} (h : Ev te σ H (.str x)) (Pv : Nat → L2.St → Hp → Prop) (h0 : ∀ H1, Ex H H1 → Pv 0 σ H1)
    (hs : ∀ i c σ' H', (tl x)[i]? = some c → Pv i σ' H' → tu { D with nx := Pv (i + 1), ct := Pv (i + 1), bk := tz D } (σ'.set j (some (.str ⟨#[c]⟩))) H') (hd : ∀ σ' H', Pv (tl x).length σ' H' → tz D σ' H') :
    tSeq (tFor (iStr te) (gName j) tu) tz D σ H := s_forStr (D := { D with nx := tz D }) h Pv h0 hs hd
theorem ev_lenS {x : Str} (ha : Ev ta σ H (.str x)) (h : x.length ≤ 100000) : Ev (tCB (fun xs H Q => ∃ z, xs = [.str z] ∧ z.length ≤ sizeLine ∧ Q (.int z.length) H) (tCons ta tNil)) σ H (.int (x.length : Int)) := fun H1 e Q q =>
  ha H1 e _ fun H2 e2 => ⟨x, rfl, sz_of h, q H2 e2⟩
theorem rv_nsg {c : Nat} {z : Str} : RV (fun x y H Q => ∃ (c : Nat) (z : Str), x = .str ⟨#[c]⟩ ∧ y = .str z ∧ Q (.bl (!decide (c ∈ z.cps.toList))) H) (.str ⟨#[c]⟩) (.str z) H (.bl (!decide (c ∈ z.cps.toList))) := fun H1 _ Q q => ⟨c, z, rfl, rfl, q H1 (Ex.refl _)⟩
theorem ev_m1 {r : V → List V → Hp → VK → Prop} {x : Str} {y v : V} (h : Ev to σ H (.str x)) (h2 : Ev te σ H y) (hr : ∀ H1, Ex H H1 → ∀ Q : VK, (∀ H2, Ex H1 H2 → Q v H2) → r (.str x) [y] H1 Q) : Ev (tM1 r to te) σ H v := fun H1 e Q q =>
  h H1 e _ fun H2 e2 => ⟨⟨x, rfl⟩, h2 H2 (e.trans e2) _ fun H3 e3 => hr H3 ((e.trans e2).trans e3) Q fun H4 e4 => q H4 ((e2.trans e3).trans e4)⟩
theorem el_split {x y : Str} {ys : List Str} (h : Ev to σ H (.str x)) (h2 : Ev te σ H (.str y)) (hy : (y.length == 0) = false) (hx : x.length ≤ 90000) (e : Txt.split x y = ys) :
    EvL (tM1 (fun x xs H Q => ∃ a b, x = .str a ∧ xs = [.str b] ∧ (b.length == 0) = false ∧ a.length + 2 ≤ sizeLine ∧ rNewStrs (Txt.split a b) H Q) to te) σ H (ys.map V.str) := fun H1 e1 Q q =>
  h H1 e1 _ fun H2 e2 => ⟨⟨x, rfl⟩, h2 H2 (e1.trans e2) _ fun H3 e3 => ⟨x, y, rfl, rfl, hy, sz_of (by omega), by
    rw [e]
    exact fun p hp => q p _ (fresh_back (e2.trans e3) hp) ((e2.trans e3).trans (Ex.new hp)) upd_same⟩⟩
end
def figs : Str := "0123456789"
theorem fig_mem : ∀ d : Nat, d < 10 → (decide ((48 + d) ∈ figs.cps.toList)) = true := by decide +kernel
theorem fig_at : ∀ d : Nat, d < 10 → (Builtin.Str.occurrences figs ⟨#[48 + d]⟩ 0 figs.length 1).head? = some d := by decide +kernel
def numS (i : Int) : Str := Str.ofString (toString i)
theorem tl_numS {i : Int} (h : 0 ≤ i) : tl (numS i) = numL i.toNat := by
  obtain ⟨n, rfl⟩ := Int.eq_ofNat_of_zero_le h
  exact tl_num n
/-- one or two digits, the first not 0 if two -/
theorem num_two {n : Nat} (h : n < 100) : (∃ d, d < 10 ∧ numL n = [48 + d]) ∨ (∃ d e, 1 ≤ d ∧ d < 10 ∧ e < 10 ∧ numL n = [48 + d, 48 + e]) := by
  by_cases h1 : n < 10
  · exact .inl ⟨n, h1, numL_lt h1⟩
  · refine .inr ⟨n / 10, n % 10, by omega, by omega, by omega, ?_⟩
    rw [numL_step (by omega), numL_lt (by omega)]
    rfl
def foldD (l : List Nat) : Int := l.foldl (fun (t : Int) (c : Nat) => t * 10 + ((c : Int) - 48)) 0
section
variable {P : Program} {w : World} {K : PySem.W.Frag} {mg : Str → Option Value} {base : Heap}
def spFig : Sp := fun vs H Q _ => ∃ (i lo hi : Int), vs = [.str (numS i), .int lo, .int hi] ∧ 0 ≤ i ∧ i < 100 ∧ lo ≤ i ∧ i ≤ hi ∧ RetV (.int i) H Q
theorem ok_figured (T : TX K mg) : Fp P w K mg base 1 ("figured", none) ["word", "low", "high"] spFig := by
  refine Fp.of T.f_figured sc_figured (fun _ _ _ _ _ _ us hl => match us, hl with | [_, _, _], _ => rfl) (fun vs H Q E h => ?_) (fun cdv A outer s H vs Q E hr h => ?_)
  · obtain ⟨_, _, _, rfl, _⟩ := h; rfl
  · obtain ⟨i, lo, hi, rfl, h0, h1, h2, h3, k⟩ := h
    have ht := tl_numS h0
    have hdg := num_two (n := i.toNat) (by omega)
    have hlen : (numS i).length = (numL i.toNat).length := by rw [len_tl, ht]
    have hl2 : (numS i).length ≤ 2 := by
      rw [hlen]
      rcases hdg with ⟨d, _, e⟩ | ⟨d, f, _, _, _, e⟩ <;> (rw [e]; simp)
    have hdig : ∀ (j : Nat) (c : Nat), (numL i.toNat)[j]? = some c → ∃ d, d < 10 ∧ c = 48 + d := fun j c hc => by
      have := numL_digits i.toNat c (List.mem_of_getElem? hc)
      exact ⟨c - 48, by omega, by omega⟩
    obtain ⟨c0, hc0⟩ : ∃ c, (numL i.toNat)[0]? = some c := by
      rcases hdg with ⟨d, _, e⟩ | ⟨d, f, _, _, _, e⟩ <;> (rw [e]; exact ⟨_, rfl⟩)
    refine ⟨_, (pss_cons (ps_if (PW.pt (pw_or (pt_cmpR op_eq (pe_callB call_len_str (by rfl) T.free_len PySem.boot_len (pa_cons (pv 0) pa_nil)) pe_int (nomark _)) (pw_or (pt_cmpR op_gt (pe_callB call_len_str (by rfl) T.free_len PySem.boot_len (pa_cons (pv 0) pa_nil)) pe_int (nomark _)) (pw_or1 (PW.pt (pw_and (pt_cmpR op_eq (pe_ix ix_str (pv 0) pe_int (fun _ _ => rfl)) pe_str (nomark _)) (pw_and1 (pt_cmpR op_gt (pe_callB call_len_str (by rfl) T.free_len PySem.boot_len (pa_cons (pv 0) pa_nil)) pe_int (nomark _))))))))) (pss_one (ps_ret pe_non)) pss_nil)
  (pss_cons (ps_set (i := 3) sc_figured.nd rfl (Or.inl rfl) pe_int)
  (pss_cons (ps_for PassesOwn.never rfl (pi_str (pv 0)) (pg_name (i := 4) sc_figured.nd rfl (Or.inl rfl)) (pss_cons (ps_if (pt_cmpR op_notIn_sign (pv 4) (pe_gS rfl T.s_FIGURES) rfl) (pss_one (ps_ret pe_non)) pss_nil)
  (pss_one (ps_set (i := 3) sc_figured.nd rfl (Or.inl rfl) (pe_op op_add (pe_op op_mul (pv 3) pe_int) (pe_m1 PySem.F.slot_str_index PySem.F.type_str_index mt_sindex (pe_gS rfl T.s_FIGURES) (pv 4)))))))
  (pss_cons (ps_if (PW.pt (pw_or (pt_cmpR op_lt (pv 3) (pv 1) (nomark _)) (pw_or1 (pt_cmpR op_gt (pv 3) (pv 2) (nomark _))))) (pss_one (ps_ret pe_non)) pss_nil)
  (pss_one (ps_ret (pv 3))))))), ?_⟩
    refine q_when (et_or (et_test (ev_op (ev_lenS (ev_var rfl) (by omega)) ev_c (rv_eq rfl))) (fun _ => et_or (et_test (ev_op (ev_lenS (ev_var rfl) (by omega)) ev_c rv_I0)) (fun _ => et_and (et_test (ev_op (ev_op (ev_var rfl) ev_c (rv_ixS (i := 0) (c := c0) (by omega) (by
        show atI (tl (numS i)) ((0 : Nat) : Int) = _
        rw [ht]
        exact atI_nat hc0))) ev_c (rv_eq rfl))) (fun _ => et_test (ev_op (ev_lenS (ev_var rfl) (by omega)) ev_c rv_I0))))) (fun hb H1 e1 => ?_) (fun _ H1 e1 => ?_)
    · exfalso
      rcases hdg with ⟨d, hd, e⟩ | ⟨d, f, d1, d2, hf, e⟩
      · have hl : (numS i).length = 1 := by rw [hlen, e]; rfl
        rw [hl] at hb
        simp at hb
      · have hl : (numS i).length = 2 := by rw [hlen, e]; rfl
        have hc : c0 = 48 + d := by
          rw [e] at hc0
          exact (Option.some.inj hc0).symm
        rw [hl, hc] at hb
        have hn : decide (V.str ⟨#[48 + d]⟩ = V.str "0") = false := by
          refine decide_eq_false fun z => ?_
          have z2 : (⟨#[48 + d]⟩ : Str) = "0" := V.str.inj z
          have z3 : tl (⟨#[48 + d]⟩ : Str) = tl ("0" : Str) := by rw [z2]
          have z4 : [48 + d] = [48] := z3
          injection z4 with z5
          omega
        rw [hn] at hb
        simp at hb
    · refine q_asg ev_c fun H2 e2 => ?_
      have e12 := e1.trans e2
      refine q_forStr (ev_var rfl) (fun m σ' H' => Ex H H' ∧ ∃ x, σ' = [some (.str (numS i)), some (.int lo), some (.int hi), some (.int (foldD ((numL i.toNat).take m))), x]) (fun H3 e3 => ⟨e12.trans e3, none, rfl⟩) (fun m c σ' H' hc hP => ?_) (fun σ' H' hP => ?_)
      · obtain ⟨e0, x, rfl⟩ := hP
        rw [ht] at hc
        obtain ⟨d, hd, rfl⟩ := hdig m c hc
        refine q_when (et_test (ev_op (ev_var rfl) ev_c rv_nsg)) (fun hb H3 e3 => ?_) (fun _ H3 e3 => ?_)
        · exfalso
          have hm : (decide ((48 + d) ∈ (Str.ofString "0123456789").cps.toList)) = true := fig_mem d hd
          rw [hm] at hb
          cases hb
        · obtain ⟨rest, hr2⟩ : ∃ rest, Builtin.Str.occurrences figs ⟨#[48 + d]⟩ 0 figs.length 1 = d :: rest := by
            have := fig_at d hd
            cases hq : Builtin.Str.occurrences figs ⟨#[48 + d]⟩ 0 figs.length 1 with
            | nil => rw [hq] at this; cases this
            | cons y r =>
              rw [hq] at this
              have hy : y = d := Option.some.inj this
              rw [hy]
              exact ⟨r, rfl⟩
          refine s_asg (ev_op (ev_op (ev_var rfl) ev_c (rv_I (.inr ⟨by decide, by decide⟩))) (ev_m1 (x := figs) (v := .int (d : Int)) ev_c (ev_var rfl) fun H4 e4 Q q => ⟨figs, _, d, rest, rfl, rfl, hr2, q H4 (Ex.refl _)⟩) rv_I0) fun H4 e4 => ⟨(e0.trans e3).trans e4, some (.str ⟨#[48 + d]⟩), ?_⟩
          have hm : m < (numL i.toNat).length := (List.getElem?_eq_some_iff.mp hc).1
          have : foldD ((numL i.toNat).take (m + 1)) = foldD ((numL i.toNat).take m) * 10 + (d : Int) := by
            rw [List.take_succ, hc]
            unfold foldD
            rw [List.foldl_append]
            show _ * 10 + (((48 + d : Nat) : Int) - 48) = _
            omega
          rw [this]
          rfl
      · obtain ⟨e0, x, rfl⟩ := hP
        have hv : foldD ((numL i.toNat).take (tl (numS i)).length) = i := by
          rw [ht, List.take_length]
          show (numL i.toNat).foldl _ 0 = _
          rw [fold_num]
          omega
        rw [hv]
        refine q_when (et_or (et_test (ev_op (ev_var rfl) (ev_var rfl) rv_I0)) (fun _ => et_test (ev_op (ev_var rfl) (ev_var rfl) rv_I0))) (fun hb H3 e3 => ?_) (fun _ H3 e3 => ?_)
        · exfalso
          simp at hb
          omega
        · exact s_ret (ev_var rfl) fun H4 e4 => k _ ((e0.trans e3).trans e4)
/-- a name: one to eight letters -/
def NameOk (x : Str) : Prop := 1 ≤ (tl x).length ∧ (tl x).length ≤ 8 ∧ ∀ c ∈ tl x, 97 ≤ c ∧ c ≤ 122
def lets : Str := "abcdefghijklmnopqrstuvwxyz"
theorem let_mem : ∀ d : Nat, d < 26 → (decide ((97 + d) ∈ lets.cps.toList)) = true := by decide +kernel
def spName : Sp := fun vs H Q _ => ∃ (x : Str), vs = [.str x] ∧ NameOk x ∧ RetV (.bl true) H Q
theorem ok_is_name (T : TX K mg) : Fp P w K mg base 1 ("is_name", none) ["word"] spName := by
  refine Fp.of T.f_is_name sc_is_name (fun _ _ _ _ _ _ us hl => match us, hl with | [_], _ => rfl) (fun vs H Q E h => ?_) (fun cdv A outer s H vs Q E hr h => ?_)
  · obtain ⟨_, rfl, _⟩ := h; rfl
  · obtain ⟨x, rfl, ⟨h1, h2, h3⟩, k⟩ := h
    have hl := len_tl x
    refine ⟨_, (pss_cons (ps_if (PW.pt (pw_or (pt_cmpR op_eq (pe_callB call_len_str (by rfl) T.free_len PySem.boot_len (pa_cons (pv 0) pa_nil)) pe_int (nomark _)) (pw_or1 (pt_cmpR op_gt (pe_callB call_len_str (by rfl) T.free_len PySem.boot_len (pa_cons (pv 0) pa_nil)) pe_int (nomark _))))) (pss_one (ps_ret pe_bl)) pss_nil)
  (pss_cons (ps_for PassesOwn.never rfl (pi_str (pv 0)) (pg_name (i := 1) sc_is_name.nd rfl (Or.inl rfl)) (pss_one (ps_if (pt_cmpR op_notIn_sign (pv 1) (pe_gS rfl T.s_LETTERS) rfl) (pss_one (ps_ret pe_bl)) pss_nil)))
  (pss_one (ps_ret pe_bl)))), ?_⟩
    refine q_when (et_or (et_test (ev_op (ev_lenS (ev_var rfl) (by omega)) ev_c (rv_eq rfl))) (fun _ => et_test (ev_op (ev_lenS (ev_var rfl) (by omega)) ev_c rv_I0))) (fun hb H1 e1 => ?_) (fun _ H1 e1 => ?_)
    · exfalso
      simp at hb
      omega
    · refine q_forStr (ev_var rfl) (fun m σ' H' => Ex H H' ∧ ∃ y, σ' = [some (.str x), y]) (fun H3 e3 => ⟨e1.trans e3, none, rfl⟩) (fun m c σ' H' hc hP => ?_) (fun σ' H' hP => ?_)
      · obtain ⟨e0, y, rfl⟩ := hP
        have hcc := h3 c (List.mem_of_getElem? hc)
        obtain ⟨d, hd, rfl⟩ : ∃ d, d < 26 ∧ c = 97 + d := ⟨c - 97, by omega, by omega⟩
        refine s_when (et_test (ev_op (ev_var rfl) ev_c rv_nsg)) (fun hb H3 e3 => ?_) (fun _ H3 e3 => ⟨e0.trans e3, _, rfl⟩)
        exfalso
        have hm : (decide ((97 + d) ∈ (Str.ofString "abcdefghijklmnopqrstuvwxyz").cps.toList)) = true := let_mem d hd
        rw [hm] at hb
        cases hb
      · obtain ⟨e0, y, rfl⟩ := hP
        exact s_ret ev_c fun H4 e4 => k _ (e0.trans e4)
end
end Lw


set_option Elab.async false
set_option linter.all false
set_option maxRecDepth 100000
set_option maxHeartbeats 4000000
namespace Lw
open PySem PySem.Spec PyProof.Rows L2 Evl TL
/-! ### the text of a crossing -/
def wayNums (w : WayD) : List Int := [w.start, w.end_, w.off, w.near, w.least]
def wayRow (w : WayD) : List Str := kindS w.sort :: w.name :: (wayNums w).map numS
def headRow (pl : Int) : List Str := ["ring", numS pl]
def lawRows (pl : Int) (ws : List WayD) : List (List Str) := headRow pl :: ws.map wayRow
def rowText (r : List Str) : Str := Txt.join " " r
def textOf (rows : List (List Str)) : Str := Txt.join "\n" (rows.map rowText)
structure WayW (pl : Int) (w : WayD) : Prop where
  ok : WayOk pl w
  sort : w.sort < 3
  name : NameOk w.name
  o0 : 0 ≤ w.off
  o1 : w.off ≤ 30
  n0 : 0 ≤ w.near
  n1 : w.near ≤ 30
  l0 : 1 ≤ w.least
  l1 : w.least ≤ 60
/-- a word of a row -/
structure WordOk (x : Str) : Prop where
  sp : 32 ∉ tl x
  nl : 10 ∉ tl x
  len : (tl x).length ≤ 8
theorem word_num {i : Int} (h0 : 0 ≤ i) (h1 : i < 100) : WordOk (numS i) := by
  have e := tl_numS h0
  refine ⟨by rw [e]; exact numL_free (by omega), by rw [e]; exact numL_free (by omega), ?_⟩
  rw [e]
  have := numL_len (n := i.toNat) (k := 8) (by decide) (by omega)
  omega
theorem word_name {x : Str} (h : NameOk x) : WordOk x := ⟨fun z => by have := h.2.2 _ z; omega, fun z => by have := h.2.2 _ z; omega, h.2.1⟩
theorem word_tram : WordOk "tram" := ⟨by decide +kernel, by decide +kernel, by decide +kernel⟩
theorem word_kind : ∀ n, WordOk (kindS n)
  | 0 => ⟨by decide +kernel, by decide +kernel, by decide +kernel⟩
  | 1 => ⟨by decide +kernel, by decide +kernel, by decide +kernel⟩
  | _ + 2 => word_tram
theorem word_ring : WordOk "ring" := ⟨by decide +kernel, by decide +kernel, by decide +kernel⟩
theorem WayW.words {pl : Int} {w : WayD} (h : WayW pl w) (hp : pl < 100) : ∀ x ∈ wayRow w, WordOk x := by
  obtain ⟨⟨a1, a2, a3, a4, a5⟩, b1, b2, b3, b4, b5, b6, b7, b8⟩ := h
  intro x hx
  simp only [wayRow, wayNums, List.map_cons, List.map_nil, List.mem_cons, List.not_mem_nil, or_false] at hx
  rcases hx with e | e | e | e | e | e | e <;> rw [e]
  · exact word_kind _
  · exact word_name b2
  · exact word_num (by omega) (by omega)
  · exact word_num (by omega) (by omega)
  · exact word_num (by omega) (by omega)
  · exact word_num (by omega) (by omega)
  · exact word_num (by omega) (by omega)
theorem joinL_len {S : List Nat} {k : Nat} : ∀ ps : List (List Nat), (∀ p ∈ ps, p.length ≤ k) → (joinL S ps).length ≤ ps.length * (k + S.length)
  | [], _ => by show 0 ≤ _; omega
  | [p], h => by
    have := h p (List.mem_singleton.mpr rfl)
    show p.length ≤ 1 * (k + S.length)
    omega
  | p :: q :: r, h => by
    have h1 := h p (List.mem_cons_self ..)
    have h2 := joinL_len (S := S) (q :: r) fun z hz => h z (List.mem_cons_of_mem _ hz)
    show (p ++ (S ++ joinL S (q :: r))).length ≤ ((q :: r).length + 1) * (k + S.length)
    rw [List.length_append, List.length_append, Nat.add_mul]
    omega
theorem joinL_free {S : List Nat} {s : Nat} (hs : s ∉ S) : ∀ ps : List (List Nat), (∀ p ∈ ps, s ∉ p) → s ∉ joinL S ps
  | [], _ => by intro z; cases z
  | [p], h => h p (List.mem_singleton.mpr rfl)
  | p :: q :: r, h => by
    show s ∉ p ++ (S ++ joinL S (q :: r))
    rw [List.mem_append, List.mem_append]
    rintro (z | z | z)
    · exact h p (List.mem_cons_self ..) z
    · exact hs z
    · exact joinL_free hs (q :: r) (fun y hy => h y (List.mem_cons_of_mem _ hy)) z
theorem tl_sp : tl (" " : Str) = [32] := by decide +kernel
theorem tl_nl : tl ("\n" : Str) = [10] := by decide +kernel
theorem row_len {r : List Str} (h : ∀ x ∈ r, WordOk x) : (rowText r).length ≤ r.length * 9 := by
  unfold rowText
  rw [len_tl, join_eq, tl_join, tl_sp]
  have := joinL_len (S := [32]) (k := 8) (r.map tl) fun p hp => by
    obtain ⟨x, hx, rfl⟩ := List.mem_map.mp hp
    exact (h x hx).len
  rw [List.length_map] at this
  exact this
theorem row_free {r : List Str} (h : ∀ x ∈ r, WordOk x) : 10 ∉ tl (rowText r) := by
  unfold rowText
  rw [join_eq, tl_join, tl_sp]
  exact joinL_free (by decide) _ fun p hp => by
    obtain ⟨x, hx, rfl⟩ := List.mem_map.mp hp
    exact (h x hx).nl
theorem row_split {r : List Str} (hn : r ≠ []) (h : ∀ x ∈ r, WordOk x) : Txt.split (rowText r) " " = r := split_join tl_sp (by decide +kernel) hn fun p hp => (h p hp).sp
structure RowsOk (rows : List (List Str)) : Prop where
  ne : rows ≠ []
  row : ∀ r ∈ rows, r ≠ [] ∧ r.length ≤ 10 ∧ ∀ x ∈ r, WordOk x
  n : rows.length ≤ 100
theorem RowsOk.split {rows : List (List Str)} (h : RowsOk rows) : Txt.split (textOf rows) "\n" = rows.map rowText := by
  refine split_join tl_nl (by decide +kernel) (fun e => h.ne (List.map_eq_nil_iff.mp e)) fun p hp => ?_
  obtain ⟨r, hr, rfl⟩ := List.mem_map.mp hp
  exact row_free (h.row r hr).2.2
theorem RowsOk.rlen {rows : List (List Str)} (h : RowsOk rows) {r : List Str} (hr : r ∈ rows) : (rowText r).length ≤ 90 := by
  have h1 := row_len (h.row r hr).2.2
  have h2 := (h.row r hr).2.1
  omega
theorem RowsOk.len {rows : List (List Str)} (h : RowsOk rows) : (textOf rows).length ≤ 9100 := by
  unfold textOf
  rw [len_tl, join_eq, tl_join, tl_nl]
  have := joinL_len (S := [10]) (k := 90) ((rows.map rowText).map tl) fun p hp => by
    obtain ⟨x, hx, rfl⟩ := List.mem_map.mp hp
    obtain ⟨r, hr, rfl⟩ := List.mem_map.mp hx
    have := h.rlen hr
    rw [len_tl] at this
    exact this
  rw [List.length_map, List.length_map] at this
  have h2 := h.n
  have h3 : rows.length * (90 + [10].length) ≤ 100 * (90 + [10].length) := Nat.mul_le_mul_right _ h2
  exact Nat.le_trans this (Nat.le_trans h3 (by decide))
theorem rows_ok {pl : Int} {ws : List WayD} (h0 : 2 ≤ pl) (h1 : pl ≤ 99) (hw : ∀ w ∈ ws, WayW pl w) (hn : ws.length ≤ 12) : RowsOk (lawRows pl ws) := by
  refine ⟨by simp [lawRows], fun r hr => ?_, by simp [lawRows]; omega⟩
  rcases List.mem_cons.mp hr with e | e
  · rw [e]
    refine ⟨by simp [headRow], by simp [headRow], fun x hx => ?_⟩
    simp only [headRow, List.mem_cons, List.not_mem_nil, or_false] at hx
    rcases hx with e | e <;> rw [e]
    · exact word_ring
    · exact word_num (by omega) (by omega)
  · obtain ⟨w, hw1, rfl⟩ := List.mem_map.mp e
    exact ⟨by simp [wayRow], by simp [wayRow, wayNums], (hw w hw1).words (by omega)⟩
/-! ### words -/
def RowS (r : List Str) (a : Addr) (H : Hp) : Prop := H a = some (.lst (r.map V.str))
def RowsAt (rows : List (List Str)) : V → Hp → Prop := fun v H => ∃ (l : Addr) (as : List Addr), v = .ref l ∧ H l = some (.lst (as.map V.ref)) ∧ AllAt RowS H as rows
theorem up_rows {rows : List (List Str)} : Up1 (RowsAt rows) := fun v H H' e ⟨l, as, h1, h2, h3⟩ => ⟨l, as, h1, e _ _ h2, h3.imp fun _ _ r => e _ _ r⟩
theorem AllAt.imp2 {α : Type} {R : α → Addr → Hp → Prop} {H H' : Hp} {as : List Addr} {xs : List α} (h : AllAt R H as xs) (f : ∀ x, ∀ a ∈ as, R x a H → R x a H') : AllAt R H' as xs := ⟨h.1, fun i a x ha hx => f x a (List.mem_of_getElem? ha) (h.2 i a x ha hx)⟩
theorem take_succ_at {α : Type} {l : List α} {i : Nat} {x : α} (h : l[i]? = some x) : l.take (i + 1) = l.take i ++ [x] := by
  rw [List.take_succ, h]
  rfl
section
variable {P : Program} {w : World} {K : PySem.W.Frag} {mg : Str → Option Value} {base : Heap}
def spWords : Sp := fun vs H Q _ => ∃ (rows : List (List Str)), vs = [.str (textOf rows)] ∧ RowsOk rows ∧ RetP (RowsAt rows) H Q
theorem ok_words (T : TX K mg) : Fp P w K mg base 1 ("words", none) ["text"] spWords := by
  refine Fp.of T.f_words sc_words (fun _ _ _ _ _ _ us hl => match us, hl with | [_], _ => rfl) (fun vs H Q E h => ?_) (fun cdv A outer s H vs Q E hr h => ?_)
  · obtain ⟨_, rfl, _⟩ := h; rfl
  · obtain ⟨rows, rfl, ok, k⟩ := h
    have hlen := ok.len
    refine ⟨_, (pss_one (ps_ret (pe_lc (own := [("row", 1)]) (g := gName 1) rfl sc_words.nd (pi_list (pe_split (pv 0) pe_str)) (blkOk_by (own := [("row", 1)]) (N := N_words) (sc := defScope s_words) (by decide +kernel)) (fun _ _ _ _ _ => pg_name (i := 1) sc_words.nd rfl (Or.inl rfl)) (fun _ _ _ _ _ => pts_nil) (fun _ _ _ _ _ => (pe_split (pv 1) pe_str))))), ?_⟩
    refine s_retP (ep_lcL (xs := (rows.map rowText).map V.str) (fun i acc Dl H' => ∃ as : List Addr, acc = as.map V.ref ∧ (∀ a ∈ as, a ≠ Dl) ∧ AllAt RowS H' as (rows.take i)) (fun _ => true)
      ⟨fun Dl H1 => ⟨[], rfl, (fun a h => by cases h), AllAt.nil⟩, fun i acc Dl H1 H2 e ⟨as, h1, h3, h2⟩ => ⟨as, h1, h3, h2.imp fun _ _ r => e _ _ r⟩, fun i acc Dl H1 h _ => (by cases h), fun i acc Dl H1 ⟨as, h1, _, h2⟩ => (by
        rw [h1, List.length_map, h2.1, List.length_take]; omega)⟩
      ((ep_l (el_split (ev_var rfl) ev_c (by decide +kernel) (by omega) ok.split)).imp fun v H1 e1 r => by
        obtain ⟨p, rfl, _, h⟩ := r
        exact ⟨p, rfl, SqL.lst h⟩) (by have := ok.n; simp; omega) (fun _ => rfl) (fun i x H1 e1 hi => et_yes) (fun i x H1 e1 hi _ acc Dl H2 e2 hD ⟨as, h1, h3, h2⟩ => ?_)) fun v H1 e1 r => ?_
    · rw [List.getElem?_map, List.getElem?_map] at hi
      obtain ⟨t, ht, rfl⟩ := Option.map_eq_some_iff.mp hi
      obtain ⟨row, hrow, rfl⟩ := Option.map_eq_some_iff.mp ht
      have hm := List.mem_of_getElem? hrow
      have hr2 := ok.row row hm
      have hl2 := ok.rlen hm
      intro H5 e5 Q q
      refine (el_split (σ := _) (H := H2) (ev_var rfl) ev_c (by decide +kernel) (by omega) (row_split hr2.1 hr2.2.2)) H5 e5 _ fun b H6 hb e6 h6 => q _ H6 e6 ⟨as ++ [b], by rw [h1, List.map_append]; rfl, ?_, ?_⟩
      · intro a ha
        rcases List.mem_append.mp ha with z | z
        · exact h3 a z
        · rw [List.mem_singleton.mp z]
          intro y
          subst y
          rw [e5 _ _ hD] at hb
          cases hb
      · rw [take_succ_at hrow]
        have hbD : b ≠ Dl := fun y => by
          subst y
          rw [e5 _ _ hD] at hb
          cases hb
        have hA := ((h2.imp fun _ _ r => (e5.trans e6) _ _ r).snoc (R := RowS) (x := row) h6)
        refine hA.imp2 fun x a ha r => ?_
        have hne : a ≠ Dl := by
          rcases List.mem_append.mp ha with z | z
          · exact h3 a z
          · rw [List.mem_singleton.mp z]
            exact hbD
        show (upd H6 Dl _) a = _
        rw [upd_ne hne]
        exact r
    · obtain ⟨l, acc, rfl, _, hl, as, rfl, _, ha⟩ := r
      refine k _ _ e1 ⟨l, as, rfl, hl, ?_⟩
      rw [List.length_map, List.length_map, List.take_length] at ha
      exact ha
theorem sp_fig {i lo hi : Int} {H : Hp} (h0 : 0 ≤ i) (h1 : i < 100) (h2 : lo ≤ i) (h3 : i ≤ hi) : SpV spFig [.str (numS i), .int lo, .int hi] H (.int i) := fun H1 e Q q _ => ⟨i, lo, hi, rfl, h0, h1, h2, h3, q⟩
def spRHead : Sp := fun vs H Q _ => ∃ (a : Addr) (pl : Int), vs = [.ref a] ∧ RowS (headRow pl) a H ∧ 2 ≤ pl ∧ pl ≤ 99 ∧ RetV (.int pl) H Q
theorem ok_read_head (T : TX K mg) : Fp P w K mg base 2 ("read_head", none) ["row"] spRHead := by
  refine Fp.of T.f_read_head sc_read_head (fun _ _ _ _ _ _ us hl => match us, hl with | [_], _ => rfl) (fun vs H Q E h => ?_) (fun cdv A outer s H vs Q E hr h => ?_)
  · obtain ⟨_, _, rfl, _⟩ := h; rfl
  · obtain ⟨a, pl, rfl, ha, h0, h1, k⟩ := h
    refine ⟨_, (pss_cons (ps_if (pt_cmpR op_ne (pe_ix ix_list (pv 0) pe_int (fun _ _ => rfl)) pe_str (nomark _)) (pss_one ps_never) pss_nil)
  (pss_cons (ps_if (pt_cmpR op_lt (pe_callB call_len_seq (by rfl) T.free_len PySem.boot_len (pa_cons (pv 0) pa_nil)) pe_int (nomark _)) (pss_one ps_never) pss_nil)
  (pss_cons (ps_set (i := 1) sc_read_head.nd rfl (Or.inl rfl) (pe_f (ok_figured T) T.g_figured (hr.mono (by decide)) (pa_cons (pe_ix ix_list (pv 0) pe_int (fun _ _ => rfl)) (pa_cons pe_int (pa_cons pe_int pa_nil)))))
  (pss_cons (ps_if (pt_cmpR op_isN (pv 1) pe_non (nomark _)) (pss_one ps_never) pss_nil)
  (pss_cons (ps_if (pt_cmpR op_gt (pe_callB call_len_seq (by rfl) T.free_len PySem.boot_len (pa_cons (pv 0) pa_nil)) pe_int (nomark _)) (pss_one ps_never) pss_nil)
  (pss_one (ps_ret (pv 1)))))))), ?_⟩
    have hl : ∀ H1, Ex H H1 → SqL K H1 a [.str "ring", .str (numS pl)] := fun H1 e1 => SqL.lst (e1 _ _ ha)
    refine q_when (et_test (ev_op (ev_op (ev_var rfl) ev_c (rv_ixL (i := 0) (hl H (Ex.refl H)) rfl)) ev_c (rv_ne rfl))) (fun hb H1 e1 => by cases hb) (fun _ H1 e1 => ?_)
    refine q_when (et_test (ev_op (ev_len (ev_var rfl) (hl H1 e1)) ev_c rv_I0)) (fun hb H2 e2 => by cases hb) (fun _ H2 e2 => ?_)
    have e12 := e1.trans e2
    refine q_asg (ev_callV (ea_cons (ev_op (ev_var rfl) ev_c (rv_ixL (i := 1) (hl H2 e12) rfl)) (ea_cons ev_c (ea_cons ev_c ea_nil))) (sp_fig (by omega) (by omega) h0 h1)) fun H3 e3 => ?_
    refine q_when (et_test (ev_op (ev_var rfl) ev_c (fun H4 _ Q q => ⟨rfl, q H4 (Ex.refl _)⟩) : Ev _ _ _ (.bl (decide (V.int pl = .non))))) (fun hb H4 e4 => by simp at hb) (fun _ H4 e4 => ?_)
    refine q_when (et_test (ev_op (ev_len (ev_var rfl) (hl H4 ((e12.trans e3).trans e4))) ev_c rv_I0)) (fun hb H5 e5 => by cases hb) (fun _ H5 e5 => ?_)
    exact s_ret (ev_var rfl) fun H6 e6 => k _ ((((e12.trans e3).trans e4).trans e5).trans e6)
end
end Lw


set_option Elab.async false
set_option linter.all false
set_option maxRecDepth 100000
set_option maxHeartbeats 4000000
namespace Lw
open PySem PySem.Spec PyProof.Rows L2 Evl TL
def BndAt (b : Int × Int) (a : Addr) (H : Hp) : Prop := H a = some (.tup [.int b.1, .int b.2])
def bnds (pl : Int) : List (Int × Int) := [(0, pl - 1), (0, pl - 1), (0, 30), (0, 30), (1, 60)]
theorem num_bnd {pl : Int} {w : WayD} (h : WayW pl w) (hp : pl ≤ 99) {m : Nat} (hm : m < 5) : ∃ x b, (wayNums w)[m]? = some x ∧ (bnds pl)[m]? = some b ∧ 0 ≤ x ∧ x < 100 ∧ b.1 ≤ x ∧ x ≤ b.2 ∧ (m = 1 → x ≠ w.start) := by
  obtain ⟨⟨a1, a2, a3, a4, a5⟩, b1, b2, b3, b4, b5, b6, b7, b8⟩ := h
  match m, hm with
  | 0, _ => exact ⟨_, _, rfl, rfl, by omega, by omega, a1, show w.start ≤ pl - 1 by omega, fun z => by cases z⟩
  | 1, _ => exact ⟨_, _, rfl, rfl, by omega, by omega, a3, show w.end_ ≤ pl - 1 by omega, fun _ => by omega⟩
  | 2, _ => exact ⟨_, _, rfl, rfl, by omega, by omega, b3, b4, fun z => by cases z⟩
  | 3, _ => exact ⟨_, _, rfl, rfl, by omega, by omega, b5, b6, fun z => by cases z⟩
  | 4, _ => exact ⟨_, _, rfl, rfl, by omega, by omega, b7, b8, fun z => by cases z⟩
section
variable {K : PySem.W.Frag} {σ : L2.St} {H H' : Hp} {te : TE} {ta : TA}
theorem ep_lstP {S : List V → Hp → Prop} (h : EvAP ta σ H S) (hl : ∀ vs H1, S vs H1 → vs.length ≤ 100000) (hS : ∀ vs H1 H2, Ex H1 H2 → S vs H1 → S vs H2) : EvP (tLst ta) σ H (fun w H' => ∃ p vs, w = .ref p ∧ H p = none ∧ H' p = some (.lst vs) ∧ S vs H') := fun H1 e _ q =>
  h H1 e _ fun vs H2 e2 s => ⟨sz_of (hl vs H2 s), fun p hp => q _ _ (e2.trans (Ex.new hp)) ⟨p, vs, rfl, fresh_back (e.trans e2) hp, upd_same, hS vs _ _ (Ex.new hp) s⟩⟩
/-- tuples of two numbers, made anew, as arguments -/
def TupsA (bs : List (Int × Int)) : List V → Hp → Prop := fun vs H => ∃ as : List Addr, vs = as.map V.ref ∧ AllAt BndAt H as bs
theorem tups_up {bs : List (Int × Int)} : ∀ vs H1 H2, Ex H1 H2 → TupsA bs vs H1 → TupsA bs vs H2 := fun vs H1 H2 e ⟨as, h1, h2⟩ => ⟨as, h1, h2.imp fun _ _ r => e _ _ r⟩
theorem tups_len {bs : List (Int × Int)} {n : Nat} (h : bs.length = n) : ∀ vs H1, TupsA bs vs H1 → vs.length = n := fun vs H1 ⟨as, h1, h2⟩ => by
  rw [h1, List.length_map, h2.1, h]
theorem ap_tups_nil : EvAP tNil σ H (TupsA []) := fun H1 _ _ q => q [] H1 (Ex.refl H1) ⟨[], rfl, AllAt.nil⟩
theorem AllAt.cons {α : Type} {R : α → Addr → Hp → Prop} {H : Hp} {as : List Addr} {xs : List α} (h : AllAt R H as xs) {a : Addr} {x : α} (r : R x a H) : AllAt R H (a :: as) (x :: xs) := by
  refine ⟨by simp [h.1], fun i b y hb hy => ?_⟩
  cases i with
  | zero =>
    have e1 : a = b := Option.some.inj hb
    have e2 : x = y := Option.some.inj hy
    rw [← e1, ← e2]
    exact r
  | succ n => exact h.2 n b y hb hy
theorem ap_tups_cons {ta tb : TE} {tr : TA} {x y : Int} {bs : List (Int × Int)} (h1 : Ev ta σ H (.int x)) (h2 : Ev tb σ H (.int y)) (hr : EvAP tr σ H (TupsA bs)) : EvAP (tCons (tTup (tCons ta (tCons tb tNil))) tr) σ H (TupsA ((x, y) :: bs)) := fun H1 e _ q =>
  (eu_tup (ea_cons h1 (ea_cons h2 ea_nil)) (show 2 ≤ 100000 by decide)) H1 e _ fun p H2 _ e2 hp => hr H2 (e.trans e2) _ fun vs H3 e3 s => by
    obtain ⟨as, rfl, hs⟩ := s
    exact q _ H3 (e2.trans e3) ⟨p :: as, rfl, hs.cons (e3 _ _ hp)⟩
end
section
variable {P : Program} {w : World} {K : PySem.W.Frag} {mg : Str → Option Value} {base : Heap}
def spNums : Sp := fun vs H Q _ => ∃ (at_ : Int) (a : Addr) (pl : Int) (wy : WayD), vs = [.int at_, .ref a, .int pl] ∧ RowS (wayRow wy) a H ∧ WayW pl wy ∧ pl ≤ 99 ∧ RetL ((wayNums wy).map V.int) H Q
theorem ok_read_numbers (T : TX K mg) : Fp P w K mg base 2 ("read_numbers", none) ["at", "row", "places"] spNums := by
  refine Fp.of T.f_read_numbers sc_read_numbers (fun _ _ _ _ _ _ us hl => match us, hl with | [_, _, _], _ => rfl) (fun vs H Q E h => ?_) (fun cdv A outer s H vs Q E hr h => ?_)
  · obtain ⟨_, _, _, _, rfl, _⟩ := h; rfl
  · obtain ⟨at_, a, pl, wy, rfl, ha, wok, hpl, k⟩ := h
    refine ⟨_, (pss_cons (ps_set (i := 3) sc_read_numbers.nd rfl (Or.inl rfl) (pe_lst (pa_cons (pe_tup (pa_cons pe_int (pa_cons (pe_op op_sub (pv 2) pe_int) pa_nil))) (pa_cons (pe_tup (pa_cons pe_int (pa_cons (pe_op op_sub (pv 2) pe_int) pa_nil))) (pa_cons (pe_tup (pa_cons pe_int (pa_cons pe_int pa_nil))) (pa_cons (pe_tup (pa_cons pe_int (pa_cons pe_int pa_nil))) (pa_cons (pe_tup (pa_cons pe_int (pa_cons pe_int pa_nil))) pa_nil)))))))
  (pss_cons (ps_set (i := 4) sc_read_numbers.nd rfl (Or.inl rfl) (pe_lst pa_nil))
  (pss_cons (ps_for PassesOwn.never rfl (pi_range1 (by rfl) T.free_range (pa_cons pe_int pa_nil)) (pg_name (i := 5) sc_read_numbers.nd rfl (Or.inl rfl)) (pss_cons (ps_if (pt_cmpR op_le (pe_callB call_len_seq (by rfl) T.free_len PySem.boot_len (pa_cons (pv 1) pa_nil)) (pe_op op_add pe_int (pv 5)) (nomark _)) (pss_one ps_never) pss_nil)
  (pss_cons (ps_set (i := 6) sc_read_numbers.nd rfl (Or.inl rfl) (pe_f (ok_figured T) T.g_figured (hr.mono (by decide)) (pa_cons (pe_ix ix_list (pv 1) (pe_op op_add pe_int (pv 5)) (fun _ _ => rfl)) (pa_cons (pe_ix ix_tup (pe_ix ix_list (pv 3) (pv 5) (fun _ _ => rfl)) pe_int (fun _ _ => rfl)) (pa_cons (pe_ix ix_tup (pe_ix ix_list (pv 3) (pv 5) (fun _ _ => rfl)) pe_int (fun _ _ => rfl)) pa_nil)))))
  (pss_cons (ps_if (PW.pt (pw_or (pt_cmpR op_isN (pv 6) pe_non (nomark _)) (pw_or1 (PW.pt (pw_and (pt_cmpR op_eq (pv 5) pe_int (nomark _)) (pw_and1 (pt_cmpR op_eq (pv 6) (pe_ix ix_list (pv 4) pe_int (fun _ _ => rfl)) (nomark _)))))))) (pss_one ps_never) pss_nil)
  (pss_one (ps_expr (pe_bm PySem.F.plainAttrs_list PySem.F.slot_list_append PySem.F.type_list_append mt_append (pv 4) (pa_cons (pv 6) pa_nil))))))))
  (pss_cons (ps_if (pt_cmpR op_gt (pe_callB call_len_seq (by rfl) T.free_len PySem.boot_len (pa_cons (pv 1) pa_nil)) pe_int (nomark _)) (pss_one ps_never) pss_nil)
  (pss_one (ps_ret (pv 4))))))), ?_⟩
    have hl : ∀ H1, Ex H H1 → SqL K H1 a ((wayRow wy).map V.str) := fun H1 e1 => SqL.lst (e1 _ _ ha)
    refine q_asgP (ep_lstP (S := TupsA (bnds pl)) (ap_tups_cons ev_c (ev_op (ev_var rfl) ev_c rv_I0) (ap_tups_cons ev_c (ev_op (ev_var rfl) ev_c rv_I0) (ap_tups_cons ev_c ev_c (ap_tups_cons ev_c ev_c (ap_tups_cons ev_c ev_c ap_tups_nil))))) (fun vs H1 z => by rw [tups_len (n := 5) rfl vs H1 z]; decide) tups_up) fun v H1 e1 r1 => ?_
    obtain ⟨b, bvs, rfl, _, hb, bs, rfl, hbs⟩ := r1
    refine q_asgL (el_lst ea_nil (Nat.zero_le _)) fun l H2 hl2 e2 hl20 => ?_
    have hlH := fresh_back e1 hl2
    have e12 := e1.trans e2
    refine q_forR1 (ea_cons ev_c ea_nil) (by decide) (fun m σ' H' => Ex H H' ∧ H' b = some (.lst (bs.map V.ref)) ∧ AllAt BndAt H' bs (bnds pl) ∧ H' l = some (.lst (((wayNums wy).take m).map V.int)) ∧ ∃ x y, σ' = [some (.int at_), some (.ref a), some (.int pl), some (.ref b), some (.ref l), x, y])
      (fun H3 e3 => ⟨e12.trans e3, (e2.trans e3) _ _ hb, hbs.imp fun _ _ r => (e2.trans e3) _ _ r, e3 _ _ hl20, none, none, rfl⟩) (fun m σ' H' hm hP => ?_) (fun σ' H' hP => ?_)
    · obtain ⟨e0, hb0, hbs0, hl0, x, y, rfl⟩ := hP
      have hm5 : m < 5 := by omega
      obtain ⟨nx, bd, q1, q2, q3, q4, q5, q6, q7⟩ := num_bnd wok hpl hm5
      obtain ⟨ba, hba, hbd⟩ := hbs0.get q2
      have hbv : (bs.map V.ref)[m]? = some (.ref ba) := by rw [List.getElem?_map, hba]; rfl
      have hrow : ((wayRow wy).map V.str)[2 + m]? = some (.str (numS nx)) := by
        have : (wayRow wy)[2 + m]? = some (numS nx) := by
          rw [Nat.add_comm]
          show ((wayNums wy).map numS)[m]? = _
          rw [List.getElem?_map, q1]
          rfl
        rw [List.getElem?_map, this]
        rfl
      have hz : ((wayRow wy).map V.str).length = 7 := by simp [wayRow, wayNums]
      refine q_when (et_test (ev_op (ev_len (ev_var rfl) (hl H' e0)) (ev_op ev_c (ev_var rfl) rv_I0) rv_I0)) (fun hb1 H3 e3 => ?_) (fun _ H3 e3 => ?_)
      · exfalso
        rw [hz] at hb1
        simp at hb1
        omega
      · have e03 := e0.trans e3
        have c0 : (2 : Int) + (m : Int) = ((2 + m : Nat) : Int) := by omega
        refine q_asg (ev_callV (ea_cons (ev_op (ev_var rfl) (ev_op ev_c (ev_var rfl) rv_I0) (rv_ixL (i := 2 + (m : Int)) (hl H3 e03) (by
          rw [c0]
          exact atI_nat hrow))) (ea_cons (ev_op (ev_op (ev_var rfl) (ev_var rfl) (rv_ixL (i := (m : Int)) (SqL.lst (e3 _ _ hb0)) (atI_nat hbv))) ev_c (rv_ixT (SqT.tup (e3 _ _ hbd)) (atI_nat (j := 0) rfl))) (ea_cons (ev_op (ev_op (ev_var rfl) (ev_var rfl) (rv_ixL (i := (m : Int)) (SqL.lst (e3 _ _ hb0)) (atI_nat hbv))) ev_c (rv_ixT (SqT.tup (e3 _ _ hbd)) (atI_nat (j := 1) rfl))) ea_nil))) (sp_fig q3 q4 q5 q6)) fun H4 e4 => ?_
        have hl4 := e4 _ _ (e3 _ _ hl0)
        refine q_when (et_or (et_test (ev_op (ev_var rfl) ev_c (fun H4 _ Q q => ⟨rfl, q H4 (Ex.refl _)⟩) : Ev _ _ _ (.bl (decide (V.int nx = .non))))) (fun _ => et_and (b := decide (V.int nx = V.int wy.start)) (et_test (ev_op (ev_var rfl) ev_c (rv_eq rfl))) (fun hk => ?_))) (fun hb1 H5 e5 => ?_) (fun _ H5 e5 => ?_)
        · have hm1 : m = 1 := by
            have := V.int.inj (of_decide_eq_true hk)
            omega
          subst hm1
          exact et_test (ev_op (ev_var rfl) (ev_op (ev_var rfl) ev_c (rv_ixL (i := 0) (SqL.lst hl4) rfl)) (rv_eq rfl))
        · exfalso
          simp at hb1
          exact q7 (by omega) hb1.2
        · refine s_app (e5 _ _ hl4) (ev_var rfl) (ev_var rfl) (by rw [List.length_map, List.length_take]; omega) fun H6 e6 => ?_
          have e46 := (e4.trans e5).trans e6
          have e06 := (e03.trans e46)
          have nb : b ≠ l := ne_of_none hb (by
            cases hz2 : H1 l with
            | none => rfl
            | some o => exact absurd hl2 (by rw [hz2]; intro z; cases z))
          refine ⟨Ex.mut e06 hlH, ?_, ?_, ?_, _, _, rfl⟩
          · rw [upd_ne nb]
            exact e46 _ _ (e3 _ _ hb0)
          · refine hbs0.imp fun x c r => ?_
            have r2 : H6 c = some (.tup [.int x.1, .int x.2]) := e46 _ _ (e3 _ _ r)
            show (upd H6 l _) c = _
            rw [upd_ne (ne_of r2 (e6 _ _ (e5 _ _ hl4)) (by intro z; cases z))]
            exact r2
          · rw [upd_same, take_succ_at q1, List.map_append]
            rfl
    · obtain ⟨e0, hb0, hbs0, hl0, x, y, rfl⟩ := hP
      have hz : ((wayRow wy).map V.str).length = 7 := by simp [wayRow, wayNums]
      refine q_when (et_test (ev_op (ev_len (ev_var rfl) (hl H' e0)) ev_c rv_I0)) (fun hb1 H3 e3 => ?_) (fun _ H3 e3 => ?_)
      · exfalso
        rw [hz] at hb1
        simp at hb1
      · exact s_ret (ev_var rfl) fun H4 e4 => k l H4 hlH ((e0.trans e3).trans e4) (e4 _ _ (e3 _ _ hl0))
/-- the names taken -/
def TakenAt (ns : List Str) (d : Addr) (H : Hp) : Prop := H d = some (.dK (ns.map fun x => ((Sum.inr x : Key), V.bl true)))
theorem taken_val (x : Str) : ∀ ns : List Str, x ∉ ns → valV (ns.map fun x => ((Sum.inr x : Key), V.bl true)) (Sum.inr x) = none
  | [], _ => rfl
  | y :: ns, h => by
    rw [List.map_cons, valV_neg (fun z => h (by rw [← Sum.inr.inj z]; exact List.mem_cons_self ..)), taken_val x ns fun z => h (List.mem_cons_of_mem _ z)]
theorem taken_put {x : Str} {ns : List Str} (h : x ∉ ns) : putK (ns.map fun x => ((Sum.inr x : Key), V.bl true)) (Sum.inr x) (.bl true) = (ns ++ [x]).map fun x => ((Sum.inr x : Key), V.bl true) := by
  rw [putK_new _ (taken_val x ns h), List.map_append]
  rfl
theorem ev_dinK {σ : L2.St} {H : Hp} {ty td : TE} {d : Addr} {x : Str} {ns : List Str} (hd : TakenAt ns d H) (hk : Ev ty σ H (.str x)) (ho : Ev td σ H (.ref d)) (h : x ∉ ns) : Ev (tDIn ty td) σ H (.bl false) := fun H1 e1 Q q =>
  hk H1 e1 _ fun H2 e2 => ho H2 (e1.trans e2) _ fun H3 e3 => ⟨d, none, rfl, by
    have := DGet.k (k := Sum.inr x) (e3 _ _ (e2 _ _ (e1 _ _ hd)))
    rw [taken_val x ns h] at this
    exact this, q H3 (e2.trans e3)⟩
theorem kind_in : ∀ n, n < 3 → inV (.str (kindS n)) [.str "car", .str "foot", .str "tram"] = true := by decide +kernel
def spRWay (K : PySem.W.Frag) : Sp := fun vs H Q _ => ∃ (at_ : Int) (a : Addr) (pl : Int) (d : Addr) (wy : WayD) (ns : List Str), vs = [.int at_, .ref a, .int pl, .ref d] ∧ at_ ≤ 12 ∧ RowS (wayRow wy) a H ∧ WayW pl wy ∧ pl ≤ 99 ∧ TakenAt ns d H ∧ wy.name ∉ ns ∧ RetP (fun v H' => ∃ p, v = .ref p ∧ WayAt K wy p H') H Q
theorem ok_read_way (T : TX K mg) : Fp P w K mg base 5 ("read_way", none) ["at", "row", "places", "taken"] (spRWay K) := by
  refine Fp.of T.f_read_way sc_read_way (fun _ _ _ _ _ _ us hl => match us, hl with | [_, _, _, _], _ => rfl) (fun vs H Q E h => ?_) (fun cdv A outer s H vs Q E hr h => ?_)
  · obtain ⟨_, _, _, _, _, _, rfl, _⟩ := h; rfl
  · obtain ⟨at_, a, pl, d, wy, ns, rfl, h12, ha, wok, hpl, hd, hns, k⟩ := h
    refine ⟨_, (pss_cons (ps_if (PW.pt (pw_or (pt_cmpR op_gt (pv 0) (pe_gI rfl T.i_MOST_WAYS) (nomark _)) (pw_or1 (pt_cmpR op_notIn_seq (pe_ix ix_list (pv 1) pe_int (fun _ _ => rfl)) (pe_glob (v := .ref (He.ga K "SORTS")) rfl T.g_SORTS rfl) rfl)))) (pss_one ps_never) pss_nil)
  (pss_cons (ps_if (PW.pt (pw_or (pt_cmpR op_lt (pe_callB call_len_seq (by rfl) T.free_len PySem.boot_len (pa_cons (pv 1) pa_nil)) pe_int (nomark _)) (pw_or (pt_not (pt_val (pe_f (ok_is_name T) T.g_is_name (hr.mono (by decide)) (pa_cons (pe_ix ix_list (pv 1) pe_int (fun _ _ => rfl)) pa_nil)))) (pw_or1 (pt_cmp (pc_din (hu_of hr) (pe_ix ix_list (pv 1) pe_int (fun _ _ => rfl)) (pv 3))))))) (pss_one ps_never) pss_nil)
  (pss_one (ps_ret (pe_f (ok_made_way T) T.g_made_way (hr.mono (by decide)) (pa_cons (pe_ix ix_list (pv 1) pe_int (fun _ _ => rfl)) (pa_cons (pe_ix ix_list (pv 1) pe_int (fun _ _ => rfl)) (pa_cons (pe_f (ok_read_numbers T) T.g_read_numbers (hr.mono (by decide)) (pa_cons (pv 0) (pa_cons (pv 1) (pa_cons (pv 2) pa_nil)))) pa_nil)))))))), ?_⟩
    have hl : ∀ H1, Ex H H1 → SqL K H1 a ((wayRow wy).map V.str) := fun H1 e1 => SqL.lst (e1 _ _ ha)
    have hz : ((wayRow wy).map V.str).length = 7 := by simp [wayRow, wayNums]
    refine q_when (b := false) (et_is (et_or (et_test (ev_op (ev_var rfl) ev_c rv_I0)) (fun _ => et_test (ev_op (ev_op (ev_var rfl) ev_c (rv_ixL (i := 0) (v := .str (kindS wy.sort)) (hl H (Ex.refl H)) (atI_nat (j := 0) rfl))) ev_c (rv_niT (T.sorts H) rfl (by decide +kernel))))) ?_) (fun hb H1 e1 => by cases hb) (fun _ H1 e1 => ?_)
    · rw [kind_in _ wok.sort]
      simp
      omega
    refine q_when (b := false) (et_is (et_or (et_test (ev_op (ev_len (ev_var rfl) (hl H1 e1)) ev_c rv_I0)) (fun _ => et_or (et_not (et_test (ev_callV (z := .bl true) (ea_cons (ev_op (ev_var rfl) ev_c (rv_ixL (i := 1) (v := .str wy.name) (hl H1 e1) (atI_nat (j := 1) rfl))) ea_nil) (fun H2 e2 Q q _ => ⟨wy.name, rfl, wok.name, q⟩)))) (fun _ => et_test (ev_dinK (e1 _ _ hd) (ev_op (ev_var rfl) ev_c (rv_ixL (i := 1) (v := .str wy.name) (hl H1 e1) (atI_nat (j := 1) rfl))) (ev_var rfl) hns)))) ?_) (fun hb H2 e2 => by cases hb) (fun _ H2 e2 => ?_)
    · rw [hz]
      rfl
    have e12 := e1.trans e2
    refine s_retP (ep_callP (ap_consV (ev_op (ev_var rfl) ev_c (rv_ixL (i := 0) (v := .str (kindS wy.sort)) (hl H2 e12) (atI_nat (j := 0) rfl))) (ap_consV (ev_op (ev_var rfl) ev_c (rv_ixL (i := 1) (v := .str wy.name) (hl H2 e12) (atI_nat (j := 1) rfl))) (ap_last (ep_l (el_call (ea_cons (ev_var rfl) (ea_cons (ev_var rfl) (ea_cons (ev_var rfl) ea_nil))) (fun H3 e3 Q q _ => ⟨at_, a, pl, wy, rfl, (e12.trans e3) _ _ ha, wok, hpl, q⟩ : SpL spNums _ H2 ((wayNums wy).map V.int))))))) ?_) fun v H3 e3 r => k _ _ (e12.trans e3) r
    rintro vs H3 e3 ⟨r1, rfl, r2, rfl, v, rfl, p, rfl, _, hp⟩
    exact fun H4 e4 Q q E => ⟨p, wy, rfl, wok.sort, e4 _ _ hp, q⟩
end
end Lw


set_option Elab.async false
set_option linter.all false
set_option maxRecDepth 100000
set_option maxHeartbeats 4000000
namespace Lw
open PySem PySem.Spec PyProof.Rows L2 Evl TL
section
variable {P : Program} {w : World} {K : PySem.W.Frag} {mg : Str → Option Value} {base : Heap}
theorem ep_cross (T : TX K mg) {σ : L2.St} {H : Hp} {ta : TA} {a : Addr} {pl : Int} {ws : List WayD} {as : List Addr} (h : EvA ta σ H [.int pl, .ref a]) (ha : H a = some (.lst (as.map V.ref))) (hw : AllAt (WayAt K) H as ws) :
    EvP (tMake (He.ga K "Crossing") (spCrossInit K) [] E0 ta) σ H (fun v H' => ∃ p, v = .ref p ∧ CrossAt K pl ws p H') := fun H1 e1 Q q => h H1 e1 _ fun H2 e2 => fun x dx nx nd ne => by
  have e3 : Ex H2 (upd (upd H2 dx (.own x)) x (.ins (He.ga K "Crossing") dx [])) := (Ex.new nd).trans (Ex.new (by rw [upd_ne ne.symm]; exact nx))
  have e13 := (e1.trans e2).trans e3
  refine ⟨x, dx, a, pl, as, rfl, upd_same, e13 _ _ ha, fun H' l hx hl ex => ⟨rfl, q _ H' (e2.trans fun b u hb => ex b u (ne_of_none hb nx) (e3 _ _ hb)) ⟨x, rfl, dx, l, as, hx, hl, ?_⟩⟩⟩
  have e4 : Ex H2 H' := fun b u hb => ex b u (ne_of_none hb nx) (e3 _ _ hb)
  exact hw.imp fun _ _ r => r.up ((e1.trans e2).trans e4)
theorem WayAt.keep {K : PySem.W.Frag} {wy : WayD} {p d : Addr} {H : Hp} {u o : HO} (h : WayAt K wy p H) (hd : H d = some u) (hu : ∀ C dx fs, u ≠ .ins C dx fs) : WayAt K wy p (upd H d o) := by
  obtain ⟨h3, dx, hp⟩ := h
  refine ⟨h3, dx, ?_⟩
  rw [upd_ne (ne_of hp hd (fun z => hu _ _ _ z.symm))]
  exact hp
def spRC (K : PySem.W.Frag) : Sp := fun vs H Q _ => ∃ (pl : Int) (ws : List WayD), vs = [.str (textOf (lawRows pl ws))] ∧ 2 ≤ pl ∧ pl ≤ 99 ∧ (∀ w ∈ ws, WayW pl w) ∧ 1 ≤ ws.length ∧ ws.length ≤ 12 ∧ (ws.map WayD.name).Nodup ∧ RetP (fun v H' => ∃ p, v = .ref p ∧ CrossAt K pl ws p H') H Q
theorem ok_read_crossing (T : TX K mg) : Fp P w K mg base 6 ("read_crossing", none) ["text"] (spRC K) := by
  refine Fp.of T.f_read_crossing sc_read_crossing (fun _ _ _ _ _ _ us hl => match us, hl with | [_], _ => rfl) (fun vs H Q E h => ?_) (fun cdv A outer s H vs Q E hr h => ?_)
  · obtain ⟨_, _, rfl, _⟩ := h; rfl
  · obtain ⟨pl, ws, rfl, h0, h1, hw, hn1, hn2, hnd, k⟩ := h
    have rok := rows_ok h0 h1 hw hn2
    refine ⟨_, (pss_cons (ps_set (i := 1) sc_read_crossing.nd rfl (Or.inl rfl) (pe_f (ok_words T) T.g_words (hr.mono (by decide)) (pa_cons (pv 0) pa_nil)))
  (pss_cons (ps_set (i := 2) sc_read_crossing.nd rfl (Or.inl rfl) (pe_f (ok_read_head T) T.g_read_head (hr.mono (by decide)) (pa_cons (pe_ix ix_list (pv 1) pe_int (fun _ _ => rfl)) pa_nil)))
  (pss_cons (ps_if (pt_cmpR op_lt (pe_callB call_len_seq (by rfl) T.free_len PySem.boot_len (pa_cons (pv 1) pa_nil)) pe_int (nomark _)) (pss_one ps_never) pss_nil)
  (pss_cons (ps_set (i := 3) sc_read_crossing.nd rfl (Or.inl rfl) (pe_lst pa_nil))
  (pss_cons (ps_set (i := 4) sc_read_crossing.nd rfl (Or.inl rfl) pe_dnewK)
  (pss_cons (ps_for PassesOwn.never rfl (pi_range2 (by rfl) T.free_range (pa_cons pe_int (pa_cons (pe_callB call_len_seq (by rfl) T.free_len PySem.boot_len (pa_cons (pv 1) pa_nil)) pa_nil))) (pg_name (i := 5) sc_read_crossing.nd rfl (Or.inl rfl)) (pss_cons (ps_set (i := 6) sc_read_crossing.nd rfl (Or.inl rfl) (pe_f (ok_read_way T) T.g_read_way (hr.mono (by decide)) (pa_cons (pv 5) (pa_cons (pe_ix ix_list (pv 1) (pv 5) (fun _ _ => rfl)) (pa_cons (pv 2) (pa_cons (pv 4) pa_nil))))))
  (pss_cons (ps_dput (hu_of hr) (pv 4) (pe_fld (pv 6) rfl) pe_bl rfl)
  (pss_one (ps_expr (pe_bm PySem.F.plainAttrs_list PySem.F.slot_list_append PySem.F.type_list_append mt_append (pv 3) (pa_cons (pv 6) pa_nil)))))))
  (pss_one (ps_ret (pe_mk T.m_Crossing (ok_Crossing_init T) T.g_Crossing (hr.mono (by decide)) (pa_cons (pv 2) (pa_cons (pv 3) pa_nil))))))))))), ?_⟩
    refine q_asgP (ep_call (R := RowsAt (lawRows pl ws)) (ea_cons (ev_var rfl) ea_nil) (fun H1 e1 Q q E => ⟨lawRows pl ws, rfl, rok, q⟩)) fun v H1 e1 r1 => ?_
    obtain ⟨rl, ras, rfl, hrl, hras⟩ := r1
    have hrz : (ras.map V.ref).length = ws.length + 1 := by rw [List.length_map, hras.1]; simp [lawRows]
    obtain ⟨ha, hha, hhr⟩ := hras.get (i := 0) (x := headRow pl) rfl
    refine q_asg (ev_callV (ea_cons (ev_op (ev_var rfl) ev_c (rv_ixL (i := 0) (SqL.lst hrl) (atI_nat (j := 0) (by rw [List.getElem?_map, hha]; rfl)))) ea_nil) (fun H2 e2 Q q _ => ⟨ha, pl, rfl, e2 _ _ hhr, h0, h1, q⟩ : SpV spRHead _ _ (.int pl))) fun H2 e2 => ?_
    refine q_when (b := false) (et_is (et_test (ev_op (ev_len (ev_var rfl) (SqL.lst (e2 _ _ hrl))) ev_c rv_I0)) (by rw [hrz]; simp; omega)) (fun hb H3 e3 => by cases hb) (fun _ H3 e3 => ?_)
    have e13 := (e1.trans e2).trans e3
    refine q_asgL (el_lst ea_nil (Nat.zero_le _)) fun l H4 hl3 e4 hl4 => ?_
    refine q_asgP (R := fun v H' => ∃ d, v = .ref d ∧ H4 d = none ∧ TakenAt [] d H') (fun H5 e5 Q q => fun d hd => q _ _ (Ex.new hd) ⟨d, rfl, fresh_back e5 hd, upd_same⟩) fun v H5 e5 r5 => ?_
    obtain ⟨d, rfl, hd4, hd5⟩ := r5
    have e15 := (e13.trans e4).trans e5
    have e35 := (e4.trans e5)
    have hr5 : ∀ H', Ex H3 H' → H' rl = some (.lst (ras.map V.ref)) ∧ AllAt RowS H' ras (lawRows pl ws) := fun H' e => ⟨e _ _ (e3 _ _ (e2 _ _ hrl)), hras.imp fun _ _ r => e _ _ (e3 _ _ (e2 _ _ r))⟩
    have hlH : H l = none := fresh_back e13 hl3
    have hdH : H d = none := fresh_back (e13.trans e4) hd4
    have hd3 : H3 d = none := fresh_back e4 hd4
    have nld : l ≠ d := ne_of_none hl4 hd4
    refine q_forR2 (lo := 1) (n := (ws.length : Int) + 1) (ea_cons ev_c (ea_cons (ev_is (ev_len (ev_var rfl) (SqL.lst (hr5 H5 e35).1)) (by rw [hrz]; simp)) ea_nil)) (by omega)
      (fun m σ' H' => Ex H H' ∧ Ex H3 H' ∧ TakenAt ((ws.take m).map WayD.name) d H' ∧ ∃ as : List Addr, H' l = some (.lst (as.map V.ref)) ∧ AllAt (WayAt K) H' as (ws.take m) ∧ ∃ x y, σ' = [some (.str (textOf (lawRows pl ws))), some (.ref rl), some (.int pl), some (.ref l), some (.ref d), x, y])
      (fun H6 e6 => ⟨e15.trans e6, e35.trans e6, e6 _ _ hd5, [], e6 _ _ (e5 _ _ hl4), AllAt.nil, none, none, rfl⟩) (fun m σ' H' hm hP => ?_) (fun σ' H' hP => ?_)
    · obtain ⟨e0, e30, hd0, as, hl0, has, x, y, rfl⟩ := hP
      have hm2 : m < ws.length := by omega
      obtain ⟨wy, hwy⟩ : ∃ wy, ws[m]? = some wy := ⟨_, List.getElem?_eq_getElem hm2⟩
      have wok := hw wy (List.mem_of_getElem? hwy)
      have hnew : wy.name ∉ (ws.take m).map WayD.name := by
        intro z
        have h3 : (ws.map WayD.name).take (m + 1) = (ws.take m).map WayD.name ++ [wy.name] := by rw [← List.map_take, take_succ_at hwy, List.map_append]; rfl
        have h4 := hnd.sublist (List.take_sublist (m + 1) _)
        rw [h3, List.nodup_append] at h4
        exact h4.2.2 _ z _ (List.mem_singleton.mpr rfl) rfl
      obtain ⟨hrl0, hras0⟩ := hr5 H' e30
      obtain ⟨ra, hra, hrr⟩ := hras0.get (i := 1 + m) (x := wayRow wy) (by
        rw [Nat.add_comm]
        show (ws.map wayRow)[m]? = _
        rw [List.getElem?_map, hwy]
        rfl)
      have c0 : (1 : Int) + (m : Int) = ((1 + m : Nat) : Int) := by omega
      refine q_asgP (ep_call (R := fun v H' => ∃ p, v = .ref p ∧ WayAt K wy p H') (ea_cons (ev_var rfl) (ea_cons (ev_op (ev_var rfl) (ev_var rfl) (rv_ixL (i := 1 + (m : Int)) (SqL.lst hrl0) (by rw [c0]; exact atI_nat (by rw [List.getElem?_map, hra]; rfl)))) (ea_cons (ev_var rfl) (ea_cons (ev_var rfl) ea_nil)))) (fun H6 e6 Q q E => ⟨1 + (m : Int), ra, pl, d, wy, _, rfl, by omega, e6 _ _ hrr, wok, h1, e6 _ _ hd0, hnew, q⟩)) fun v H6 e6 r6 => ?_
      obtain ⟨p, rfl, hp⟩ := r6
      -- taken
      show sDPut _ _ _ _ _ _
      refine ev_c H6 (Ex.refl _) _ fun H7 e7 => (ev_var (i := 4) rfl : Ev (tVar 4) _ H7 (.ref d)) H7 (Ex.refl _) _ fun H8 e8 => (ev_wf T (ev_var rfl) (hp.up (e7.trans e8)) (by decide +kernel) rfl : Ev _ _ H8 (.str wy.name)) H8 (Ex.refl _) _ fun H9 e9 => ?_
      have e69 := (e7.trans e8).trans e9
      have hd9 := e69 _ _ (e6 _ _ hd0)
      refine ⟨d, _, rfl, DPut.k (k := Sum.inr wy.name) hd9 (sz_lt (by rw [List.length_map, List.length_map, List.length_take]; omega)), ?_⟩
      rw [taken_put hnew]
      have hp9 : WayAt K wy p H9 := hp.up e69
      have has9 : AllAt (WayAt K) H9 as (ws.take m) := has.imp fun _ _ r => r.up (e6.trans e69)
      have hl9 := e69 _ _ (e6 _ _ hl0)
      refine s_app (l := l) (xs := as.map V.ref) (by rw [upd_ne nld]; exact hl9) (ev_var rfl) (ev_var rfl) (by rw [List.length_map, has.1, List.length_take]; omega) fun H10 e10 => ?_
      have f9 : Ex H (upd H9 d (.dK ((((ws.take m).map WayD.name) ++ [wy.name]).map fun x => ((Sum.inr x : Key), V.bl true)))) := Ex.mut (e0.trans (e6.trans e69)) hdH
      have f9' : Ex H3 (upd H9 d (.dK ((((ws.take m).map WayD.name) ++ [wy.name]).map fun x => ((Sum.inr x : Key), V.bl true)))) := Ex.mut (e30.trans (e6.trans e69)) hd3
      have hkeep : ∀ wv c, WayAt K wv c H9 → WayAt K wv c (upd H10 l (.lst (as.map V.ref ++ [V.ref p]))) := fun wv c r =>
        ((r.keep hd9 (fun _ _ _ z => by cases z)).up e10).keep (e10 _ _ (by rw [upd_ne nld]; exact hl9)) (fun _ _ _ z => by cases z)
      refine ⟨Ex.mut (f9.trans e10) hlH, Ex.mut (f9'.trans e10) hl3, ?_, as ++ [p], ?_, ?_, _, _, rfl⟩
      · show (upd H10 l _) d = _
        rw [upd_ne nld.symm, take_succ_at hwy, List.map_append]
        exact e10 _ _ upd_same
      · rw [upd_same, List.map_append]
        rfl
      · rw [take_succ_at hwy]
        exact (has9.imp fun x a r => hkeep x a r).snoc (hkeep wy p hp9)
    · obtain ⟨e0, e30, hd0, as, hl0, has, x, y, rfl⟩ := hP
      have hz : ((ws.length : Int) + 1 - 1).toNat = ws.length := by omega
      rw [hz, List.take_length] at has
      exact s_retP (ep_cross T (ea_cons (ev_var rfl) (ea_cons (ev_var rfl) ea_nil)) hl0 has) fun v H6 e6 r => k _ _ (e0.trans e6) r
end
end Lw


set_option Elab.async false
set_option linter.all false
set_option maxRecDepth 100000
set_option maxHeartbeats 4000000
namespace Lw
open PySem PySem.Spec PyProof.Rows L2 Evl TL
/-! ### draws -/
def cellI (xs : List Int) (k : Int) : Int := if 0 < xs.length then xs.getD (k.fmod (xs.length : Int)).toNat 0 else 0
def drawI (xs : List Int) (k many : Int) : Int := ((((cellI xs k).fmod 1000003 + 31 * k * k + 1) * 48271).fmod 999983 * 7919).fmod 524287 |>.fmod many
theorem draw_lo {xs : List Int} {k many : Int} (h : 0 < many) : 0 ≤ drawI xs k many := Int.fmod_nonneg_of_pos _ h
theorem draw_hi {xs : List Int} {k many : Int} (h : 0 < many) : drawI xs k many < many := Int.fmod_lt_of_pos _ h
section
variable {P : Program} {w : World} {K : PySem.W.Frag} {mg : Str → Option Value} {base : Heap}
def ScrAt (K : PySem.W.Frag) (xs : List Int) (a : Addr) (H : Hp) : Prop := SqL K H a (xs.map V.int)
theorem ScrAt.up {xs : List Int} {a : Addr} {H H' : Hp} (h : ScrAt K xs a H) (e : Ex H H') : ScrAt K xs a H' := ex_l e h
def spDraw (K : PySem.W.Frag) : Sp := fun vs H Q _ => ∃ (a : Addr) (xs : List Int) (k many : Int), vs = [.ref a, .int k, .int many] ∧ ScrAt K xs a H ∧ 0 ≤ k ∧ k ≤ 100000 ∧ 0 < many ∧ RetV (.int (drawI xs k many)) H Q
theorem rv_mul {i j : Int} {H : Hp} (h : -(2 ^ 64) < j ∧ j < 2 ^ 64) : RV (rI CMul fun i j => .int (i * j)) (.int i) (.int j) H (.int (i * j)) := rv_I (.inr h)
theorem ok_law_draw (T : TX K mg) : Fp P w K mg base 1 ("_law_draw", none) ["_law_script", "_law_k", "_law_many"] (spDraw K) := by
  refine Fp.of T.f_law_draw sc_law_draw (fun _ _ _ _ _ _ us hl => match us, hl with | [_, _, _], _ => rfl) (fun vs H Q E h => ?_) (fun cdv A outer s H vs Q E hr h => ?_)
  · obtain ⟨_, _, _, _, rfl, _⟩ := h; rfl
  · obtain ⟨a, xs, c, many, rfl, ha, h0, h1, hm, k⟩ := h
    refine ⟨_, (pss_cons (ps_set (i := 3) sc_law_draw.nd rfl (Or.inl rfl) (pe_ifExp (pt_cmpR op_gt (pe_callB call_len_seq (by rfl) T.free_len PySem.boot_len (pa_cons (pv 0) pa_nil)) pe_int (nomark _)) (pe_ix ix_list (pv 0) (pe_op op_modN (pv 1) (pe_callB call_len_seq (by rfl) T.free_len PySem.boot_len (pa_cons (pv 0) pa_nil))) (fun _ _ => rfl)) pe_int))
  (pss_cons (ps_set (i := 4) sc_law_draw.nd rfl (Or.inl rfl) (pe_op op_add (pe_op op_add (pe_op op_modN (pv 3) pe_int) (pe_op op_mul (pe_op op_mul pe_int (pv 1)) (pv 1))) pe_int))
  (pss_one (ps_ret (pe_op op_modN (pe_op op_modN (pe_op op_mul (pe_op op_modN (pe_op op_mul (pv 4) pe_int) pe_int) pe_int) pe_int) (pv 2)))))), ?_⟩
    refine q_asg (v := .int (cellI xs c)) (ev_if (b := decide (0 < xs.length)) (et_is (et_test (ev_op (ev_len (ev_var rfl) ha) ev_c rv_I0)) (by rw [List.length_map]; simp)) (fun hb => ?_) (fun hb => ?_)) fun H1 e1 => ?_
    · have hp : 0 < xs.length := of_decide_eq_true hb
      have g0 : 0 ≤ c.fmod (xs.length : Int) := Int.fmod_nonneg_of_pos _ (by omega)
      have g1 : c.fmod (xs.length : Int) < (xs.length : Int) := Int.fmod_lt_of_pos _ (by omega)
      refine ev_op (ev_var rfl) (ev_op (ev_var rfl) (ev_len (ev_var rfl) ha) (rv_mod (by rw [List.length_map]; omega))) (rv_ixL ha ?_)
      rw [List.length_map]
      obtain ⟨n, hn⟩ := Int.eq_ofNat_of_zero_le g0
      rw [hn]
      have hn2 : n < xs.length := by omega
      refine atI_nat ?_
      unfold cellI
      rw [if_pos hp, hn, List.getElem?_map, List.getElem?_eq_getElem hn2, List.getD_eq_getElem?_getD]
      simp [hn2]
    · have hp : ¬ 0 < xs.length := of_decide_eq_false hb
      unfold cellI
      rw [if_neg hp]
      exact ev_c
    · refine q_asg (ev_op (ev_op (ev_op (ev_var rfl) ev_c (rv_mod (by decide))) (ev_op (ev_op ev_c (ev_var rfl) (rv_mul (by omega))) (ev_var rfl) (rv_mul (by omega))) rv_I0) ev_c rv_I0) fun H2 e2 => ?_
      exact s_ret (ev_op (ev_op (ev_op (ev_op (ev_op (ev_var rfl) ev_c (rv_mul (by decide))) ev_c (rv_mod (by decide))) ev_c (rv_mul (by decide))) ev_c (rv_mod (by decide))) (ev_var rfl) (rv_mod (by omega))) fun H3 e3 => k _ ((e1.trans e2).trans e3)
theorem sp_draw {a : Addr} {xs : List Int} {k many : Int} {H : Hp} (h : ScrAt K xs a H) (h0 : 0 ≤ k) (h1 : k ≤ 100000) (hm : 0 < many) : SpV (spDraw K) [.ref a, .int k, .int many] H (.int (drawI xs k many)) := fun H1 e Q q _ => ⟨a, xs, k, many, rfl, h.up e, h0, h1, hm, q⟩
theorem ev_draw {σ : L2.St} {H : Hp} {ta : TA} {E : XK} {a : Addr} {xs : List Int} {k many : Int} (h : EvA ta σ H [.ref a, .int k, .int many]) (hs : ScrAt K xs a H) (h0 : 0 ≤ k) (h1 : k ≤ 100000) (hm : 0 < many) : Ev (tCall (spDraw K) [] E ta) σ H (.int (drawI xs k many)) := ev_callV h (sp_draw hs h0 h1 hm)
def placesI (xs : List Int) : Int := if drawI xs 1 6 = 0 then 99 else 4 + drawI xs 0 13
theorem places_in (xs : List Int) : 4 ≤ placesI xs ∧ placesI xs ≤ 99 := by
  unfold placesI
  have h1 := draw_lo (xs := xs) (k := 0) (many := 13) (by decide)
  have h2 := draw_hi (xs := xs) (k := 0) (many := 13) (by decide)
  split <;> omega
def spPlaces (K : PySem.W.Frag) : Sp := fun vs H Q _ => ∃ (a : Addr) (xs : List Int), vs = [.ref a] ∧ ScrAt K xs a H ∧ RetV (.int (placesI xs)) H Q
theorem ok_law_places (T : TX K mg) : Fp P w K mg base 2 ("_law_places", none) ["_law_script"] (spPlaces K) := by
  refine Fp.of T.f_law_places sc_law_places (fun _ _ _ _ _ _ us hl => match us, hl with | [_], _ => rfl) (fun vs H Q E h => ?_) (fun cdv A outer s H vs Q E hr h => ?_)
  · obtain ⟨_, _, rfl, _⟩ := h; rfl
  · obtain ⟨a, xs, rfl, ha, k⟩ := h
    refine ⟨_, (pss_one (ps_ret (pe_ifExp (pt_cmpR op_eq (pe_f (ok_law_draw T) T.g_law_draw (hr.mono (by decide)) (pa_cons (pv 0) (pa_cons pe_int (pa_cons pe_int pa_nil)))) pe_int (nomark _)) pe_int (pe_op op_add pe_int (pe_f (ok_law_draw T) T.g_law_draw (hr.mono (by decide)) (pa_cons (pv 0) (pa_cons pe_int (pa_cons pe_int pa_nil)))))))), ?_⟩
    refine s_ret (v := .int (placesI xs)) (ev_if (et_test (ev_op (ev_draw (ea_cons (ev_var rfl) (ea_cons ev_c (ea_cons ev_c ea_nil))) ha (by decide) (by decide) (by decide)) ev_c (rv_eq rfl))) (fun hb => ?_) (fun hb => ?_)) k
    · unfold placesI
      rw [if_pos (V.int.inj (of_decide_eq_true hb))]
      exact ev_c
    · unfold placesI
      rw [if_neg (fun z => of_decide_eq_false hb (congrArg V.int z))]
      exact ev_op ev_c (ev_draw (ea_cons (ev_var rfl) (ea_cons ev_c (ea_cons ev_c ea_nil))) ha (by decide) (by decide) (by decide)) rv_I0
/-! ### names -/
theorem let_at : ∀ d : Nat, d < 26 → lets.cps.toList[d]? = some (97 + d) := by decide +kernel
theorem rv_let {i : Int} {H : Hp} (h0 : 0 ≤ i) (h1 : i < 26) : RV rIxS (.str lets) (.int i) H (.str ⟨#[97 + i.toNat]⟩) := by
  obtain ⟨n, rfl⟩ := Int.eq_ofNat_of_zero_le h0
  exact rv_ixS (by decide +kernel) (atI_nat (let_at n (by omega)))
def wordC (xs : List Int) (k : Nat) : Nat := 97 + (drawI xs (100 + (k : Int)) 26).toNat
def wordL (xs : List Int) : List Nat := (List.range 8).map (wordC xs)
def wordS (xs : List Int) : Str := ⟨(wordL xs).toArray⟩
theorem joinL_ones : ∀ cs : List Nat, joinL [] (cs.map fun c => [c]) = cs
  | [] => rfl
  | [c] => rfl
  | c :: d :: r => by
    show [c] ++ ([] ++ joinL [] ((d :: r).map fun c => [c])) = _
    rw [joinL_ones (d :: r)]
    rfl
theorem tl_cut0 {z : Str} {b : Nat} : tl (cutS z none (some (b : Int))) = (tl z).take b := by
  show (((tl z).drop 0).take (HT.sIx z.length z.length (some (b : Int)) - 0)) = _
  rw [HT.sIx_nat, List.drop_zero, Nat.sub_zero, len_tl]
  by_cases h : b ≤ (tl z).length
  · rw [Nat.min_eq_left h]
  · rw [Nat.min_eq_right (by omega), List.take_length, List.take_of_length_le (by omega)]
theorem tl_cut2 {z : Str} {a b : Nat} (ha : a ≤ (tl z).length) (hb : b ≤ (tl z).length) : tl (cutS z (some (a : Int)) (some (b : Int))) = ((tl z).drop a).take (b - a) := by
  show (((tl z).drop (HT.sIx z.length 0 (some (a : Int)))).take (HT.sIx z.length z.length (some (b : Int)) - HT.sIx z.length 0 (some (a : Int)))) = _
  rw [HT.sIx_nat, HT.sIx_nat, len_tl, Nat.min_eq_left ha, Nat.min_eq_left hb]
theorem ev_cutS {σ : L2.St} {H : Hp} {te : TE} {tlo thi : TO} {z : Str} {lo hi : Option Int} (h : Ev te σ H (.str z)) (h1 : EvO tlo σ H lo) (h2 : EvO thi σ H hi) (hz : z.length ≤ 100000) : Ev (tSl rSlS te tlo thi) σ H (.str (cutS z lo hi)) := fun H1 e Q q =>
  h H1 e _ fun H2 e2 => h1 H2 (e.trans e2) _ fun H3 e3 => h2 H3 ((e.trans e2).trans e3) _ fun H4 e4 => ⟨z, rfl, sz_of hz, q H4 ((e2.trans e3).trans e4)⟩
theorem ev_joinL {σ : L2.St} {H : Hp} {to te : TE} {a : Str} {ys : List Str} (h : Ev to σ H (.str a)) (h2 : EvL te σ H (ys.map V.str)) (hz : (ys.map (·.length)).sum + ys.length * a.length ≤ 16777216) :
    Ev (tM1 (fun x xs H Q => ∃ a p, ∃ ys : List Str, x = .str a ∧ xs = [.ref p] ∧ (SqL K H p (ys.map V.str) ∨ SqT K H p (ys.map V.str)) ∧ (ys.map (·.length)).sum + ys.length * a.length ≤ 16777216 ∧ Q (.str (Txt.join a ys)) H) to te) σ H (.str (Txt.join a ys)) := fun H1 e Q q =>
  h H1 e _ fun H2 e2 => ⟨⟨a, rfl⟩, h2 H2 (e.trans e2) _ fun p H3 _ e3 hp => ⟨a, p, ys, rfl, rfl, .inl (SqL.lst hp), hz, q H3 (e2.trans e3)⟩⟩
theorem rv_addS {i j : Str} {H : Hp} (h : i.length + j.length ≤ 100000) : RV (fun x y H Q => ∃ i j, x = .str i ∧ y = .str j ∧ i.length + j.length ≤ sizeLine ∧ Q (.str (i ++ j)) H) (.str i) (.str j) H (.str (i ++ j)) := fun H1 _ Q q => ⟨i, j, rfl, rfl, sz_of h, q H1 (Ex.refl _)⟩
end
def sizeI (xs : List Int) : Int := 1 + drawI xs 112 8
def atI' (xs : List Int) : Int := drawI xs 113 (sizeI xs)
def firstI (xs : List Int) : Int := drawI xs 114 26
def nameS (xs : List Int) (k : Nat) : Str := if drawI xs 110 2 = 1 then
    (cutS (wordS xs) none (some (atI' xs)) ++ ⟨#[97 + ((firstI xs + 7 * (k : Int)).fmod 26).toNat]⟩) ++ cutS (wordS xs) (some (atI' xs + 1)) (some (sizeI xs))
  else cutS (wordS xs) none (some ((k : Int) + 1))
theorem size_in (xs : List Int) : 1 ≤ sizeI xs ∧ sizeI xs ≤ 8 := by
  have h1 := draw_lo (xs := xs) (k := 112) (many := 8) (by decide)
  have h2 := draw_hi (xs := xs) (k := 112) (many := 8) (by decide)
  unfold sizeI
  omega
theorem at_in (xs : List Int) : 0 ≤ atI' xs ∧ atI' xs < sizeI xs := by
  have h := size_in xs
  exact ⟨draw_lo (by omega), draw_hi (by omega)⟩
theorem first_in (xs : List Int) : 0 ≤ firstI xs ∧ firstI xs < 26 := ⟨draw_lo (by decide), draw_hi (by decide)⟩
theorem word_len (xs : List Int) : (wordL xs).length = 8 := by simp [wordL]
theorem tl_word (xs : List Int) : tl (wordS xs) = wordL xs := rfl
theorem word_let (xs : List Int) : ∀ c ∈ wordL xs, 97 ≤ c ∧ c ≤ 122 := by
  intro c hc
  obtain ⟨k, _, rfl⟩ := List.mem_map.mp hc
  have h1 := draw_lo (xs := xs) (k := 100 + (k : Int)) (many := 26) (by decide)
  have h2 := draw_hi (xs := xs) (k := 100 + (k : Int)) (many := 26) (by decide)
  unfold wordC
  omega
/-- the signs of the k-th name -/
theorem name_tl (xs : List Int) {k : Nat} (hk : k < 8) : (drawI xs 110 2 ≠ 1 ∧ tl (nameS xs k) = (wordL xs).take (k + 1)) ∨
    (drawI xs 110 2 = 1 ∧ tl (nameS xs k) = ((wordL xs).take (atI' xs).toNat ++ [97 + ((firstI xs + 7 * (k : Int)).fmod 26).toNat]) ++ ((wordL xs).drop ((atI' xs).toNat + 1)).take ((sizeI xs).toNat - ((atI' xs).toNat + 1))) := by
  unfold nameS
  obtain ⟨s1, s2⟩ := size_in xs
  obtain ⟨a1, a2⟩ := at_in xs
  by_cases h : drawI xs 110 2 = 1
  · refine .inr ⟨h, ?_⟩
    rw [if_pos h, tl_append, tl_append]
    obtain ⟨a, ha⟩ := Int.eq_ofNat_of_zero_le a1
    obtain ⟨z, hz⟩ := Int.eq_ofNat_of_zero_le (a := sizeI xs) (by omega)
    rw [ha, hz]
    rw [hz, ha] at a2
    rw [hz] at s2
    rw [Int.toNat_natCast, Int.toNat_natCast]
    have c1 : tl (cutS (wordS xs) none (some (a : Int))) = (wordL xs).take a := by
      rw [tl_cut0, tl_word]
    have c2 : tl (cutS (wordS xs) (some ((a : Int) + 1)) (some (z : Int))) = ((wordL xs).drop (a + 1)).take (z - (a + 1)) := by
      rw [show (a : Int) + 1 = ((a + 1 : Nat) : Int) by omega, tl_cut2 (by rw [tl_word, word_len]; omega) (by rw [tl_word, word_len]; omega), tl_word]
    rw [c1, c2]
  · refine .inl ⟨h, ?_⟩
    rw [if_neg h]
    have e1 : (k : Int) + 1 = ((k + 1 : Nat) : Int) := by omega
    rw [e1, tl_cut0, tl_word]
theorem name_ok (xs : List Int) {k : Nat} (hk : k < 8) : NameOk (nameS xs k) := by
  have hw := word_len xs
  have hl := word_let xs
  obtain ⟨s1, s2⟩ := size_in xs
  obtain ⟨a1, a2⟩ := at_in xs
  rcases name_tl xs hk with ⟨_, e⟩ | ⟨_, e⟩
  · unfold NameOk
    rw [e]
    exact ⟨by rw [List.length_take]; omega, by rw [List.length_take]; omega, fun c hc => hl c (List.mem_of_mem_take hc)⟩
  · unfold NameOk
    rw [e]
    refine ⟨by simp only [List.length_append, List.length_take, List.length_drop, List.length_cons, List.length_nil]; omega, by simp only [List.length_append, List.length_take, List.length_drop, List.length_cons, List.length_nil]; omega, fun c hc => ?_⟩
    rcases List.mem_append.mp hc with hc | hc
    · rcases List.mem_append.mp hc with hc | hc
      · exact hl c (List.mem_of_mem_take hc)
      · rw [List.mem_singleton.mp hc]
        have h1 := Int.fmod_nonneg_of_pos (firstI xs + 7 * (k : Int)) (b := 26) (by decide)
        have h2 := Int.fmod_lt_of_pos (firstI xs + 7 * (k : Int)) (b := 26) (by decide)
        omega
    · exact hl c (List.mem_of_mem_drop (List.mem_of_mem_take hc))
theorem name_inj (xs : List Int) {i j : Nat} (hi : i < 8) (hj : j < 8) (h : nameS xs i = nameS xs j) : i = j := by
  have hw := word_len xs
  have ht : tl (nameS xs i) = tl (nameS xs j) := by rw [h]
  rcases name_tl xs hi with ⟨a, e⟩ | ⟨a, e⟩ <;> rcases name_tl xs hj with ⟨b, f⟩ | ⟨b, f⟩
  · rw [e, f] at ht
    have := congrArg List.length ht
    rw [List.length_take, List.length_take] at this
    omega
  · exact absurd b a
  · exact absurd a b
  · rw [e, f] at ht
    have h1 := List.append_cancel_right ht
    have h2 := List.append_cancel_left h1
    injection h2 with h3 _
    rw [Int.fmod_eq_emod_of_nonneg _ (by decide), Int.fmod_eq_emod_of_nonneg _ (by decide)] at h3
    omega
theorem nodup_range {α : Type} {f : Nat → α} {n : Nat} (h : ∀ i j, i < n → j < n → f i = f j → i = j) : ((List.range n).map f).Nodup := by
  refine List.pairwise_map.mpr (List.Pairwise.imp_of_mem ?_ (List.nodup_range (n := n)))
  intro a b ha hb hne z
  exact hne (h a b (List.mem_range.mp ha) (List.mem_range.mp hb) z)
end Lw


set_option Elab.async false
set_option linter.all false
set_option maxRecDepth 100000
set_option maxHeartbeats 4000000
namespace Lw
open PySem PySem.Spec PyProof.Rows L2 Evl TL
def namesL (xs : List Int) (n : Nat) : List Str := if drawI xs 111 2 = 1 then ((List.range n).map (nameS xs)).reverse else (List.range n).map (nameS xs)
theorem names_len (xs : List Int) (n : Nat) : (namesL xs n).length = n := by
  unfold namesL
  split <;> simp
theorem names_ok (xs : List Int) {n : Nat} (hn : n ≤ 8) : ∀ x ∈ namesL xs n, NameOk x := by
  intro x hx
  have : x ∈ (List.range n).map (nameS xs) := by
    unfold namesL at hx
    split at hx
    · exact List.mem_reverse.mp hx
    · exact hx
  obtain ⟨k, hk, rfl⟩ := List.mem_map.mp this
  exact name_ok xs (by have := List.mem_range.mp hk; omega)
theorem names_nodup (xs : List Int) {n : Nat} (hn : n ≤ 8) : (namesL xs n).Nodup := by
  have h := nodup_range (f := nameS xs) (n := n) fun i j hi hj e => name_inj xs (by omega) (by omega) e
  unfold namesL
  split
  · exact List.pairwise_reverse.mpr (List.Pairwise.imp (fun {a b} z => Ne.symm z) h)
  · exact h
theorem name_len (xs : List Int) {k : Nat} (hk : k < 8) : (nameS xs k).length ≤ 8 := by
  rw [len_tl]
  exact (name_ok xs hk).2.1
theorem cut_len {z : Str} {lo hi : Option Int} : (cutS z lo hi).length ≤ z.length := cutS_length z lo hi
theorem word_slen (xs : List Int) : (wordS xs).length = 8 := by
  rw [len_tl, tl_word, word_len]
section
variable {K : PySem.W.Frag} {σ : L2.St} {H H' : Hp} {te tl to ta tb : TE} {t : TT} {D : Ends} {tz : TS}
theorem s_rev {l : Addr} {xs : List V} (hl : H l = some (.lst xs)) (ha : Ev ta σ H (.ref l)) (k : ∀ H1, Ex H H1 → D.nx σ (upd H1 l (.lst xs.reverse))) : tDrop (tBM0 K "list" rReverse ta) D σ H := ha H (Ex.refl H) _ fun H1 e1 =>
  ⟨Or.inl ⟨rfl, xs, sq_of (e1 l _ hl)⟩, l, xs, rfl, rfl, e1 l _ hl, k H1 e1⟩
/-- fixed items over a tuple that is described -/
theorem el_lcNT {xs : List V} {j : Nat} {vs : List Nat} (f : Nat → Bool) (v : Nat → V) (h : EvP tl σ H (fun w H' => ∃ a, w = .ref a ∧ SqT K H' a xs)) (hz : xs.length ≤ 40000) (hw : ∀ x, wipe ((wipe σ vs).set j (some x)) vs = wipe σ vs)
    (ht : ∀ (i : Nat) (x : V) H1, Ex H H1 → xs[i]? = some x → EvT t ((wipe σ vs).set j (some x)) H1 (f i)) (he : ∀ (i : Nat) (x : V) H1, Ex H H1 → xs[i]? = some x → f i = true → Ev te ((wipe σ vs).set j (some x)) H1 (v i)) :
    EvL (tLc (iTup K tl) (gName j) t te vs) σ H (given xs.length f v) := fun H0 e Q q => h H0 e _ fun w H1 e1 r => by
  obtain ⟨a, rfl, hx⟩ := r
  exact ⟨a, rfl, ⟨xs, hx⟩, fun Dl hD =>
    lc_tup (xs := xs) (Cw H1 f v Dl) ⟨hD, Ex.new hD, upd_same⟩ (fun i H' _ p => ex_t p.2.1 hx) (fun i x H' hi p => ⟨hw x, cw_turn p (by have := (List.getElem?_eq_some_iff.mp hi).1; omega) (ht i x H1 (e.trans e1) hi) (fun hf => he i x H1 (e.trans e1) hi hf)⟩)
      (fun H' p => q Dl H' (fresh_back e1 p.1) (e1.trans p.2.1) p.2.2)⟩
theorem el_catLL {xs ys : List V} (ha : EvL ta σ H xs) (hb : EvL tb σ H ys) (hz : xs.length + ys.length ≤ 100000) : EvL (tOp rCat ta tb) σ H (xs ++ ys) := fun H1 e Q q =>
  ha H1 e _ fun p H2 _ e2 hp => hb H2 (e.trans e2) _ fun b H3 _ e3 hb3 => ⟨p, b, xs, ys, rfl, rfl, e3 _ _ hp, hb3, sz_of hz, fun r hr => q r _ (fresh_back (e2.trans e3) hr) ((e2.trans e3).trans (Ex.new hr)) upd_same⟩
/-- a cut of a tuple -/
theorem eu_sl {tlo thi : TO} {a : Addr} {xs : List V} {lo hi : Option Int} (h : Ev te σ H (.ref a)) (h1 : EvO tlo σ H lo) (h2 : EvO thi σ H hi) (hs : SqT K H a xs) (hn : ¬ (HT.sIx xs.length 0 lo = 0 ∧ HT.sIx xs.length xs.length hi = xs.length)) : EvU (tSl (rSlT K) te tlo thi) σ H (cutV xs lo hi) := fun H1 e Q q =>
  h H1 e _ fun H2 e2 => h1 H2 (e.trans e2) _ fun H3 e3 => h2 H3 ((e.trans e2).trans e3) _ fun H4 e4 => ⟨a, xs, rfl, ex_t (((e.trans e2).trans e3).trans e4) hs, hn, fun p hp => q p _ (fresh_back ((e2.trans e3).trans e4) hp) (((e2.trans e3).trans e4).trans (Ex.new hp)) upd_same⟩
theorem ep_u {xs : List V} (h : EvU te σ H xs) : EvP te σ H (fun v H' => ∃ p, v = .ref p ∧ H' p = some (.tup xs)) := fun H1 e Q q => h H1 e Q fun p H2 _ e2 h2 => q _ H2 e2 ⟨p, rfl, h2⟩
end
theorem int_ne {i j : Int} (h : i ≠ j) : decide (V.int i = V.int j) = false := decide_eq_false fun z => h (V.int.inj z)
theorem int_eq {i j : Int} (h : i = j) : decide (V.int i = V.int j) = true := decide_eq_true (congrArg V.int h)
theorem int_yes {i j : Int} (h : decide (V.int i = V.int j) = true) : i = j := V.int.inj (of_decide_eq_true h)
theorem int_no {i j : Int} (h : decide (V.int i = V.int j) = false) : i ≠ j := fun z => of_decide_eq_false h (congrArg V.int z)
section
variable {P : Program} {w : World} {K : PySem.W.Frag} {mg : Str → Option Value} {base : Heap}
def spNames (K : PySem.W.Frag) : Sp := fun vs H Q _ => ∃ (a : Addr) (xs : List Int) (n : Nat), vs = [.ref a, .int (n : Int)] ∧ ScrAt K xs a H ∧ n ≤ 8 ∧ RetL ((namesL xs n).map V.str) H Q
theorem word_join (xs : List Int) : Txt.join "" ((List.range 8).map fun k => (⟨#[wordC xs k]⟩ : Str)) = wordS xs := by
  refine ext_tl ?_
  rw [join_eq, tl_join, show tl ("" : Str) = [] from rfl, tl_word, List.map_map]
  have := joinL_ones (wordL xs)
  unfold wordL at this
  rw [List.map_map] at this
  exact this
theorem ok_law_names (T : TX K mg) : Fp P w K mg base 2 ("_law_names", none) ["_law_script", "_law_many"] (spNames K) := by
  refine Fp.of T.f_law_names sc_law_names (fun _ _ _ _ _ _ us hl => match us, hl with | [_, _], _ => rfl) (fun vs H Q E h => ?_) (fun cdv A outer s H vs Q E hr h => ?_)
  · obtain ⟨_, _, _, rfl, _⟩ := h; rfl
  · obtain ⟨a, xs, n, rfl, ha, hn, k⟩ := h
    refine ⟨_, (pss_cons (ps_set (i := 2) sc_law_names.nd rfl (Or.inr rfl) pe_str)
  (pss_cons (ps_set (i := 3) sc_law_names.nd rfl (Or.inl rfl) (pe_join pe_str (pe_lc (own := [("_law_k", 4)]) (g := gName 4) rfl sc_law_names.nd (pi_range1 (by rfl) T.free_range (pa_cons pe_int pa_nil)) (blkOk_by (own := [("_law_k", 4)]) (N := N_law_names) (sc := defScope s_law_names) (by decide +kernel)) (fun _ _ _ _ _ => pg_name (i := 4) sc_law_names.nd rfl (Or.inl rfl)) (fun _ _ _ _ _ => pts_nil) (fun _ _ _ _ _ => (pe_ix ix_str (pv 2) (pe_f (ok_law_draw T) T.g_law_draw (hr.mono (by decide)) (pa_cons (pv 0) (pa_cons (pe_op op_add pe_int (pv 4)) (pa_cons pe_int pa_nil)))) (fun _ _ => rfl))))))
  (pss_cons (ps_set (i := 5) sc_law_names.nd rfl (Or.inl rfl) (pe_op op_add pe_int (pe_f (ok_law_draw T) T.g_law_draw (hr.mono (by decide)) (pa_cons (pv 0) (pa_cons pe_int (pa_cons pe_int pa_nil))))))
  (pss_cons (ps_set (i := 6) sc_law_names.nd rfl (Or.inl rfl) (pe_f (ok_law_draw T) T.g_law_draw (hr.mono (by decide)) (pa_cons (pv 0) (pa_cons pe_int (pa_cons (pv 5) pa_nil)))))
  (pss_cons (ps_set (i := 7) sc_law_names.nd rfl (Or.inl rfl) (pe_f (ok_law_draw T) T.g_law_draw (hr.mono (by decide)) (pa_cons (pv 0) (pa_cons pe_int (pa_cons pe_int pa_nil)))))
  (pss_cons (ps_set (i := 8) sc_law_names.nd rfl (Or.inl rfl) (pe_lst pa_nil))
  (pss_cons (ps_for PassesOwn.never rfl (pi_range1 (by rfl) T.free_range (pa_cons (pv 1) pa_nil)) (pg_name (i := 4) sc_law_names.nd rfl (Or.inl rfl)) (pss_cons (ps_set (i := 9) sc_law_names.nd rfl (Or.inl rfl) (pe_slice sl_str (pv 3) po_none (po_some (pe_op op_add (pv 4) pe_int))))
  (pss_cons (ps_if (pt_cmpR op_eq (pe_f (ok_law_draw T) T.g_law_draw (hr.mono (by decide)) (pa_cons (pv 0) (pa_cons pe_int (pa_cons pe_int pa_nil)))) pe_int (nomark _)) (pss_cons (ps_set (i := 10) sc_law_names.nd rfl (Or.inl rfl) (pe_ix ix_str (pv 2) (pe_op op_modN (pe_op op_add (pv 7) (pe_op op_mul pe_int (pv 4))) pe_int) (fun _ _ => rfl)))
  (pss_one (ps_set (i := 9) sc_law_names.nd rfl (Or.inl rfl) (pe_op op_add_str (pe_op op_add_str (pe_slice sl_str (pv 3) po_none (po_some (pv 6))) (pv 10)) (pe_slice sl_str (pv 3) (po_some (pe_op op_add (pv 6) pe_int)) (po_some (pv 5))))))) pss_nil)
  (pss_one (ps_expr (pe_bm PySem.F.plainAttrs_list PySem.F.slot_list_append PySem.F.type_list_append mt_append (pv 8) (pa_cons (pv 9) pa_nil)))))))
  (pss_cons (ps_if (pt_cmpR op_eq (pe_f (ok_law_draw T) T.g_law_draw (hr.mono (by decide)) (pa_cons (pv 0) (pa_cons pe_int (pa_cons pe_int pa_nil)))) pe_int (nomark _)) (pss_one (ps_expr (pe_bm0 PySem.F.plainAttrs_list PySem.F.slot_list_reverse PySem.F.type_list_reverse mt_reverse (pv 8)))) pss_nil)
  (pss_one (ps_ret (pv 8))))))))))), ?_⟩
    obtain ⟨s1, s2⟩ := size_in xs
    obtain ⟨a1, a2⟩ := at_in xs
    obtain ⟨f1, f2⟩ := first_in xs
    have hwl := word_slen xs
    refine q_asg ev_c fun H1 e1 => ?_
    refine q_asg (v := .str (wordS xs)) (ev_is (ev_joinL (ys := (List.range 8).map fun k => (⟨#[wordC xs k]⟩ : Str)) ev_c (by
      have z := el_lcR1 (σ := [some (.ref a), some (.int (n : Int)), some (.str lets), none, none, none, none, none, none, none, none]) (H := H1) (j := 4) (vs := [4]) (ta := tCons (tC (.int 8)) tNil) (t := tYes) (n := 8) (te := tOp rIxS (tVar 2) (tCall (spDraw K) [] E0 (tCons (tVar 0) (tCons (tOp (rI0 fun i j => .int (i + j)) (tC (.int 100)) (tVar 4)) (tCons (tC (.int 26)) tNil))))) (fun _ => true) (fun k => .str (⟨#[wordC xs k]⟩ : Str)) (ea_cons ev_c ea_nil) (by decide) (fun _ => rfl) (fun i H2 e2 hi => et_yes) (fun i H2 e2 hi _ => by
        have hd := draw_lo (xs := xs) (k := 100 + (i : Int)) (many := 26) (by decide)
        have hd2 := draw_hi (xs := xs) (k := 100 + (i : Int)) (many := 26) (by decide)
        exact ev_op (ev_var rfl) (ev_draw (ea_cons (ev_var rfl) (ea_cons (ev_op ev_c (ev_var rfl) rv_I0) (ea_cons ev_c ea_nil))) (ha.up (e1.trans e2)) (by omega) (by omega) (by decide)) (rv_let hd hd2))
      rw [given_all] at z
      rw [List.map_map]
      exact z) (by
      rw [List.map_map]
      exact (by decide : (8 : Nat) + 0 ≤ 16777216))) (congrArg V.str (word_join xs))) fun H2 e2 => ?_
    have e12 := e1.trans e2
    refine q_asg (v := .int (sizeI xs)) (ev_op ev_c (ev_draw (ea_cons (ev_var rfl) (ea_cons ev_c (ea_cons ev_c ea_nil))) (ha.up e12) (by decide) (by decide) (by decide)) rv_I0) fun H3 e3 => ?_
    refine q_asg (v := .int (atI' xs)) (ev_draw (ea_cons (ev_var rfl) (ea_cons ev_c (ea_cons (ev_var rfl) ea_nil))) (ha.up (e12.trans e3)) (by decide) (by decide) (by omega)) fun H4 e4 => ?_
    have e14 := (e12.trans e3).trans e4
    refine q_asg (v := .int (firstI xs)) (ev_draw (ea_cons (ev_var rfl) (ea_cons ev_c (ea_cons ev_c ea_nil))) (ha.up e14) (by decide) (by decide) (by decide)) fun H5 e5 => ?_
    refine q_asgL (el_lst ea_nil (Nat.zero_le _)) fun l H6 hl5 e6 hl6 => ?_
    have e15 := e14.trans e5
    have e16 := e15.trans e6
    have hlH := fresh_back e15 hl5
    refine q_forR1 (ea_cons (ev_var rfl) ea_nil) (by omega) (fun m σ' H' => Ex H H' ∧ H' l = some (.lst (((List.range m).map (nameS xs)).map V.str)) ∧ ∃ x y z, σ' = [some (.ref a), some (.int (n : Int)), some (.str lets), some (.str (wordS xs)), x, some (.int (sizeI xs)), some (.int (atI' xs)), some (.int (firstI xs)), some (.ref l), y, z])
      (fun H7 e7 => ⟨e16.trans e7, e7 _ _ hl6, none, none, none, rfl⟩) (fun m σ' H' hm hP => ?_) (fun σ' H' hP => ?_)
    · obtain ⟨e0, hl0, x, y, z, rfl⟩ := hP
      have hm8 : m < 8 := by omega
      have fin : ∀ H8, Ex H' H8 → H8 l = some (.lst (((List.range m).map (nameS xs)).map V.str)) → ∀ H9, Ex H8 H9 → Ex H (upd H9 l (.lst ((((List.range m).map (nameS xs)).map V.str) ++ [V.str (nameS xs m)]))) ∧ (upd H9 l (.lst ((((List.range m).map (nameS xs)).map V.str) ++ [V.str (nameS xs m)]))) l = some (.lst (((List.range (m + 1)).map (nameS xs)).map V.str)) := fun H8 e8 _ H9 e9 =>
        ⟨Ex.mut ((e0.trans e8).trans e9) hlH, by rw [upd_same, List.range_succ, List.map_append, List.map_append]; rfl⟩
      refine q_asg (ev_cutS (ev_var rfl) eo_none (eo_some (ev_op (ev_var rfl) ev_c rv_I0)) (by omega)) fun H7 e7 => ?_
      refine q_when (et_test (ev_op (ev_draw (ea_cons (ev_var rfl) (ea_cons ev_c (ea_cons ev_c ea_nil))) (ha.up (e0.trans e7)) (by decide) (by decide) (by decide)) ev_c (rv_eq rfl))) (fun hb H8 e8 => ?_) (fun hb H8 e8 => ?_)
      · have hmode := int_yes hb
        have hf0 := Int.fmod_nonneg_of_pos (firstI xs + 7 * (m : Int)) (b := 26) (by decide)
        have hf1 := Int.fmod_lt_of_pos (firstI xs + 7 * (m : Int)) (b := 26) (by decide)
        refine q_asg (ev_op (ev_var rfl) (ev_op (ev_op (ev_var rfl) (ev_op ev_c (ev_var rfl) (rv_mul (by omega))) rv_I0) ev_c (rv_mod (by decide))) (rv_let hf0 hf1)) fun H9 e9 => ?_
        have c1 : (cutS (wordS xs) none (some (atI' xs))).length ≤ 8 := by rw [← hwl]; exact cut_len
        have c2 : (cutS (wordS xs) (some (atI' xs + 1)) (some (sizeI xs))).length ≤ 8 := by rw [← hwl]; exact cut_len
        have c3 : ((⟨#[97 + ((firstI xs + 7 * (m : Int)).fmod 26).toNat]⟩ : Str)).length = 1 := rfl
        have c4 : (cutS (wordS xs) none (some (atI' xs)) ++ (⟨#[97 + ((firstI xs + 7 * (m : Int)).fmod 26).toNat]⟩ : Str)).length ≤ 9 := by
          rw [len_tl, tl_append, List.length_append, ← len_tl, ← len_tl]
          omega
        refine s_asg (v := .str (nameS xs m)) (ev_is (ev_op (ev_op (ev_cutS (ev_var rfl) eo_none (eo_some (ev_var rfl)) (by omega)) (ev_var rfl) (rv_addS (by omega))) (ev_cutS (ev_var rfl) (eo_some (ev_op (ev_var rfl) ev_c rv_I0)) (eo_some (ev_var rfl)) (by omega)) (rv_addS (by omega))) (by
          unfold nameS
          rw [if_pos hmode])) fun H10 e10 => ?_
        have hl10 := e10 _ _ (e9 _ _ (e8 _ _ (e7 _ _ hl0)))
        refine s_app hl10 (ev_var rfl) (ev_var rfl) (by simp; omega) fun H11 e11 => ?_
        obtain ⟨g1, g2⟩ := fin H10 (((e7.trans e8).trans e9).trans e10) hl10 H11 e11
        exact ⟨g1, g2, _, _, _, rfl⟩
      · have hmode := int_no hb
        have hl8 := e8 _ _ (e7 _ _ hl0)
        refine s_app hl8 (ev_var rfl) (ev_is (ev_var rfl) (w := .str (nameS xs m)) (by
          unfold nameS
          rw [if_neg hmode])) (by simp; omega) fun H11 e11 => ?_
        obtain ⟨g1, g2⟩ := fin H8 (e7.trans e8) hl8 H11 e11
        exact ⟨g1, g2, _, _, _, rfl⟩
    · obtain ⟨e0, hl0, x, y, z, rfl⟩ := hP
      rw [Int.toNat_natCast] at hl0
      refine q_when (et_test (ev_op (ev_draw (ea_cons (ev_var rfl) (ea_cons ev_c (ea_cons ev_c ea_nil))) (ha.up e0) (by decide) (by decide) (by decide)) ev_c (rv_eq rfl))) (fun hb H8 e8 => ?_) (fun hb H8 e8 => ?_)
      · have hmode := int_yes hb
        refine s_rev (e8 _ _ hl0) (ev_var rfl) fun H9 e9 => ?_
        refine s_ret (ev_var rfl) fun H10 e10 => k l H10 hlH ((Ex.mut ((e0.trans e8).trans e9) hlH).trans e10) ?_
        rw [e10 _ _ upd_same]
        unfold namesL
        rw [if_pos hmode, List.map_reverse]
      · have hmode := int_no hb
        refine s_ret (ev_var rfl) fun H10 e10 => k l H10 hlH ((e0.trans e8).trans e10) ?_
        rw [e10 _ _ (e8 _ _ hl0)]
        unfold namesL
        rw [if_neg hmode]
end
end Lw


set_option Elab.async false
set_option linter.all false
set_option maxRecDepth 100000
set_option maxHeartbeats 4000000
namespace Lw
open PySem PySem.Spec PyProof.Rows L2 Evl TL
def oneEnd (xs : List Int) (pl : Int) : Int := drawI xs 115 pl
def startI (xs : List Int) (pl : Int) (k : Nat) : Int := drawI xs (120 + 7 * (k : Int)) pl
def end0I (xs : List Int) (pl : Int) (k : Nat) : Int := (startI xs pl k + 1 + drawI xs (121 + 7 * (k : Int)) (pl - 1)).fmod pl
def endI (xs : List Int) (pl : Int) (k : Nat) : Int := if drawI xs 116 3 = 0 ∧ startI xs pl k ≠ oneEnd xs pl then oneEnd xs pl else end0I xs pl k
def offI (xs : List Int) (k : Nat) : Int := if drawI xs (117 + (k : Int)) 6 = 0 then drawI xs (123 + 7 * (k : Int)) 31 else drawI xs (123 + 7 * (k : Int)) 9
def nearI (xs : List Int) (k : Nat) : Int := if drawI xs (124 + 7 * (k : Int)) 8 = 0 then drawI xs (125 + 7 * (k : Int)) 31 else drawI xs (125 + 7 * (k : Int)) 6
def sortI (xs : List Int) (k : Nat) : Int := drawI xs (122 + 7 * (k : Int)) 3
def leastI (xs : List Int) (k : Nat) : Int := 1 + drawI xs (126 + 7 * (k : Int)) 4
def wayI (xs : List Int) (pl : Int) (n k : Nat) : WayD := ⟨(sortI xs k).toNat, (namesL xs n).getD k "", startI xs pl k, endI xs pl k, offI xs k, nearI xs k, leastI xs k⟩
def waysI (xs : List Int) (pl : Int) (n : Nat) : List WayD := (List.range n).map (wayI xs pl n)
theorem end_in (xs : List Int) {pl : Int} (h : 2 ≤ pl) (k : Nat) : 0 ≤ endI xs pl k ∧ endI xs pl k < pl ∧ startI xs pl k ≠ endI xs pl k := by
  have s0 := draw_lo (xs := xs) (k := 120 + 7 * (k : Int)) (many := pl) (by omega)
  have s1 := draw_hi (xs := xs) (k := 120 + 7 * (k : Int)) (many := pl) (by omega)
  unfold endI
  split
  · rename_i c
    exact ⟨draw_lo (by omega), draw_hi (by omega), c.2⟩
  · unfold end0I startI
    have d0 := draw_lo (xs := xs) (k := 121 + 7 * (k : Int)) (many := pl - 1) (by omega)
    have d1 := draw_hi (xs := xs) (k := 121 + 7 * (k : Int)) (many := pl - 1) (by omega)
    generalize drawI xs (120 + 7 * (k : Int)) pl = s at *
    generalize drawI xs (121 + 7 * (k : Int)) (pl - 1) = d at *
    have e : (s + 1 + d).fmod pl = if s + 1 + d < pl then s + 1 + d else s + 1 + d - pl := by
      rw [Int.fmod_eq_emod_of_nonneg _ (by omega)]
      by_cases c : s + 1 + d < pl
      · rw [if_pos c, Int.emod_eq_of_lt (by omega) c]
      · rw [if_neg c]
        have : (s + 1 + d) % pl = (s + 1 + d - pl) % pl := by simp
        rw [this, Int.emod_eq_of_lt (by omega) (by omega)]
    rw [e]
    split <;> refine ⟨by omega, by omega, by omega⟩
theorem way_ok (xs : List Int) {pl : Int} (h : 2 ≤ pl) {n k : Nat} (hn : n ≤ 8) (hk : k < n) : WayW pl (wayI xs pl n k) := by
  obtain ⟨e0, e1, e2⟩ := end_in xs h k
  have a0 := draw_lo (xs := xs) (k := 122 + 7 * (k : Int)) (many := 3) (by decide)
  have a1 := draw_hi (xs := xs) (k := 122 + 7 * (k : Int)) (many := 3) (by decide)
  have b0 := draw_lo (xs := xs) (k := 123 + 7 * (k : Int)) (many := 31) (by decide)
  have b1 := draw_hi (xs := xs) (k := 123 + 7 * (k : Int)) (many := 31) (by decide)
  have c0 := draw_lo (xs := xs) (k := 123 + 7 * (k : Int)) (many := 9) (by decide)
  have c1 := draw_hi (xs := xs) (k := 123 + 7 * (k : Int)) (many := 9) (by decide)
  have d0 := draw_lo (xs := xs) (k := 125 + 7 * (k : Int)) (many := 31) (by decide)
  have d1 := draw_hi (xs := xs) (k := 125 + 7 * (k : Int)) (many := 31) (by decide)
  have f0 := draw_lo (xs := xs) (k := 125 + 7 * (k : Int)) (many := 6) (by decide)
  have f1 := draw_hi (xs := xs) (k := 125 + 7 * (k : Int)) (many := 6) (by decide)
  have g0 := draw_lo (xs := xs) (k := 126 + 7 * (k : Int)) (many := 4) (by decide)
  have g1 := draw_hi (xs := xs) (k := 126 + 7 * (k : Int)) (many := 4) (by decide)
  have hlen := names_len xs n
  refine ⟨⟨draw_lo (by omega), draw_hi (by omega), e0, e1, e2⟩, ?_, ?_, ?_, ?_, ?_, ?_, ?_, ?_⟩
  · show (sortI xs k).toNat < 3
    unfold sortI
    omega
  · refine names_ok xs hn _ ?_
    show (namesL xs n).getD k "" ∈ _
    rw [List.getD_eq_getElem?_getD, List.getElem?_eq_getElem (by omega)]
    exact List.getElem_mem _
  · show 0 ≤ offI xs k
    unfold offI
    split <;> omega
  · show offI xs k ≤ 30
    unfold offI
    split <;> omega
  · show 0 ≤ nearI xs k
    unfold nearI
    split <;> omega
  · show nearI xs k ≤ 30
    unfold nearI
    split <;> omega
  · show 1 ≤ leastI xs k
    unfold leastI
    omega
  · show leastI xs k ≤ 60
    unfold leastI
    omega
theorem ways_names (xs : List Int) (pl : Int) (n : Nat) : (waysI xs pl n).map WayD.name = namesL xs n := by
  unfold waysI
  rw [List.map_map]
  have hlen := names_len xs n
  refine List.ext_getElem (by simp [hlen]) fun i h1 h2 => ?_
  rw [List.getElem_map, List.getElem_range]
  show (namesL xs n).getD i "" = _
  rw [List.getD_eq_getElem?_getD, List.getElem?_eq_getElem h2]
  rfl
/-- a way as the law keeps it -/
def tupV (w : WayD) : List V := [.str (kindS w.sort), .str w.name, .int w.start, .int w.end_, .int w.off, .int w.near, .int w.least]
def TupAt (w : WayD) (a : Addr) (H : Hp) : Prop := H a = some (.tup (tupV w))
theorem TupAt.tup : TupR TupAt := fun _ _ _ _ h r => h _ _ trivial r
section
variable {P : Program} {w : World} {K : PySem.W.Frag} {mg : Str → Option Value} {base : Heap}
def spWays (K : PySem.W.Frag) : Sp := fun vs H Q _ => ∃ (a : Addr) (xs : List Int) (pl : Int) (n : Nat), vs = [.ref a, .int (n : Int), .int pl] ∧ ScrAt K xs a H ∧ 2 ≤ pl ∧ n ≤ 8 ∧
  RetP (fun v H' => ∃ (l : Addr) (as : List Addr), v = .ref l ∧ H' l = some (.lst (as.map V.ref)) ∧ AllAt TupAt H' as (waysI xs pl n)) H Q
theorem ok_law_ways (T : TX K mg) : Fp P w K mg base 3 ("_law_ways", none) ["_law_script", "_law_many", "_law_places_here"] (spWays K) := by
  refine Fp.of T.f_law_ways sc_law_ways (fun _ _ _ _ _ _ us hl => match us, hl with | [_, _, _], _ => rfl) (fun vs H Q E h => ?_) (fun cdv A outer s H vs Q E hr h => ?_)
  · obtain ⟨_, _, _, _, rfl, _⟩ := h; rfl
  · obtain ⟨a, xs, pl, n, rfl, ha, hpl, hn, k⟩ := h
    refine ⟨_, (pss_cons (ps_set (i := 3) sc_law_ways.nd rfl (Or.inl rfl) (pe_f (ok_law_names T) T.g_law_names (hr.mono (by decide)) (pa_cons (pv 0) (pa_cons (pv 1) pa_nil))))
  (pss_cons (ps_set (i := 4) sc_law_ways.nd rfl (Or.inl rfl) (pe_f (ok_law_draw T) T.g_law_draw (hr.mono (by decide)) (pa_cons (pv 0) (pa_cons pe_int (pa_cons (pv 2) pa_nil)))))
  (pss_cons (ps_set (i := 5) sc_law_ways.nd rfl (Or.inl rfl) (pe_lst pa_nil))
  (pss_cons (ps_for PassesOwn.never rfl (pi_range1 (by rfl) T.free_range (pa_cons (pv 1) pa_nil)) (pg_name (i := 6) sc_law_ways.nd rfl (Or.inl rfl)) (pss_cons (ps_set (i := 7) sc_law_ways.nd rfl (Or.inl rfl) (pe_f (ok_law_draw T) T.g_law_draw (hr.mono (by decide)) (pa_cons (pv 0) (pa_cons (pe_op op_add pe_int (pe_op op_mul pe_int (pv 6))) (pa_cons (pv 2) pa_nil)))))
  (pss_cons (ps_set (i := 8) sc_law_ways.nd rfl (Or.inl rfl) (pe_op op_modN (pe_op op_add (pe_op op_add (pv 7) pe_int) (pe_f (ok_law_draw T) T.g_law_draw (hr.mono (by decide)) (pa_cons (pv 0) (pa_cons (pe_op op_add pe_int (pe_op op_mul pe_int (pv 6))) (pa_cons (pe_op op_sub (pv 2) pe_int) pa_nil))))) (pv 2)))
  (pss_cons (ps_if (PW.pt (pw_and (pt_cmpR op_eq (pe_f (ok_law_draw T) T.g_law_draw (hr.mono (by decide)) (pa_cons (pv 0) (pa_cons pe_int (pa_cons pe_int pa_nil)))) pe_int (nomark _)) (pw_and1 (pt_cmpR op_ne (pv 7) (pv 4) (nomark _))))) (pss_one (ps_set (i := 8) sc_law_ways.nd rfl (Or.inl rfl) (pv 4))) pss_nil)
  (pss_cons (ps_set (i := 9) sc_law_ways.nd rfl (Or.inl rfl) (pe_f (ok_law_draw T) T.g_law_draw (hr.mono (by decide)) (pa_cons (pv 0) (pa_cons (pe_op op_add pe_int (pe_op op_mul pe_int (pv 6))) (pa_cons pe_int pa_nil)))))
  (pss_cons (ps_set (i := 10) sc_law_ways.nd rfl (Or.inl rfl) (pe_f (ok_law_draw T) T.g_law_draw (hr.mono (by decide)) (pa_cons (pv 0) (pa_cons (pe_op op_add pe_int (pe_op op_mul pe_int (pv 6))) (pa_cons pe_int pa_nil)))))
  (pss_cons (ps_if (pt_cmpR op_eq (pe_f (ok_law_draw T) T.g_law_draw (hr.mono (by decide)) (pa_cons (pv 0) (pa_cons (pe_op op_add pe_int (pv 6)) (pa_cons pe_int pa_nil)))) pe_int (nomark _)) (pss_one (ps_set (i := 9) sc_law_ways.nd rfl (Or.inl rfl) (pe_f (ok_law_draw T) T.g_law_draw (hr.mono (by decide)) (pa_cons (pv 0) (pa_cons (pe_op op_add pe_int (pe_op op_mul pe_int (pv 6))) (pa_cons pe_int pa_nil)))))) pss_nil)
  (pss_cons (ps_if (pt_cmpR op_eq (pe_f (ok_law_draw T) T.g_law_draw (hr.mono (by decide)) (pa_cons (pv 0) (pa_cons (pe_op op_add pe_int (pe_op op_mul pe_int (pv 6))) (pa_cons pe_int pa_nil)))) pe_int (nomark _)) (pss_one (ps_set (i := 10) sc_law_ways.nd rfl (Or.inl rfl) (pe_f (ok_law_draw T) T.g_law_draw (hr.mono (by decide)) (pa_cons (pv 0) (pa_cons (pe_op op_add pe_int (pe_op op_mul pe_int (pv 6))) (pa_cons pe_int pa_nil)))))) pss_nil)
  (pss_cons (ps_set (i := 11) sc_law_ways.nd rfl (Or.inl rfl) (pe_ix ix_list (pe_lst (pa_cons pe_str (pa_cons pe_str (pa_cons pe_str pa_nil)))) (pe_f (ok_law_draw T) T.g_law_draw (hr.mono (by decide)) (pa_cons (pv 0) (pa_cons (pe_op op_add pe_int (pe_op op_mul pe_int (pv 6))) (pa_cons pe_int pa_nil)))) (fun _ _ => rfl)))
  (pss_cons (ps_set (i := 12) sc_law_ways.nd rfl (Or.inl rfl) (pe_op op_add pe_int (pe_f (ok_law_draw T) T.g_law_draw (hr.mono (by decide)) (pa_cons (pv 0) (pa_cons (pe_op op_add pe_int (pe_op op_mul pe_int (pv 6))) (pa_cons pe_int pa_nil))))))
  (pss_one (ps_expr (pe_bm PySem.F.plainAttrs_list PySem.F.slot_list_append PySem.F.type_list_append mt_append (pv 5) (pa_cons (pe_tup (pa_cons (pv 11) (pa_cons (pe_ix ix_list (pv 3) (pv 6) (fun _ _ => rfl)) (pa_cons (pv 7) (pa_cons (pv 8) (pa_cons (pv 9) (pa_cons (pv 10) (pa_cons (pv 12) pa_nil)))))))) pa_nil))))))))))))))
  (pss_one (ps_ret (pv 5))))))), ?_⟩
    refine q_asgL (el_call (ea_cons (ev_var rfl) (ea_cons (ev_var rfl) ea_nil)) (fun H1 e1 Q q _ => ⟨a, xs, n, rfl, ha.up e1, hn, q⟩ : SpL (spNames K) _ H ((namesL xs n).map V.str))) fun nl H1 _ e1 hnl => ?_
    refine q_asg (v := .int (oneEnd xs pl)) (ev_draw (ea_cons (ev_var rfl) (ea_cons ev_c (ea_cons (ev_var rfl) ea_nil))) (ha.up e1) (by decide) (by decide) (by omega)) fun H2 e2 => ?_
    have e12 := e1.trans e2
    refine q_asgL (el_lst ea_nil (Nat.zero_le _)) fun l H3 hl2 e3 hl3 => ?_
    have e13 := e12.trans e3
    have hlH := fresh_back e12 hl2
    have hl1 : H1 l = none := fresh_back e2 hl2
    refine q_forR1 (ea_cons (ev_var rfl) ea_nil) (by omega) (fun m σ' H' => Ex H H' ∧ Ex H1 H' ∧ (∃ as : List Addr, H' l = some (.lst (as.map V.ref)) ∧ AllAt TupAt H' as ((List.range m).map (wayI xs pl n))) ∧ ∃ x1 x2 x3 x4 x5 x6 x7, σ' = [some (.ref a), some (.int (n : Int)), some (.int pl), some (.ref nl), some (.int (oneEnd xs pl)), some (.ref l), x1, x2, x3, x4, x5, x6, x7])
      (fun H4 e4 => ⟨e13.trans e4, (e2.trans e3).trans e4, ⟨[], e4 _ _ hl3, AllAt.nil⟩, none, none, none, none, none, none, none, rfl⟩) (fun m σ' H' hm hP => ?_) (fun σ' H' hP => ?_)
    · obtain ⟨e0, e01, ⟨as, hl0, has⟩, x1, x2, x3, x4, x5, x6, x7, rfl⟩ := hP
      have hm8 : m < n := by omega
      have hs0 := draw_lo (xs := xs) (k := 122 + 7 * (m : Int)) (many := 3) (by decide)
      have hs1 := draw_hi (xs := xs) (k := 122 + 7 * (m : Int)) (many := 3) (by decide)
      refine q_asg (v := .int (startI xs pl m)) (ev_draw (ea_cons (ev_var rfl) (ea_cons (ev_op ev_c (ev_op ev_c (ev_var rfl) (rv_mul (by omega))) rv_I0) (ea_cons (ev_var rfl) ea_nil))) (ha.up e0) (by omega) (by omega) (by omega)) fun H4 e4 => ?_
      have f4 := e0.trans e4
      refine q_asg (v := .int (end0I xs pl m)) (ev_op (ev_op (ev_op (ev_var rfl) ev_c rv_I0) (ev_draw (ea_cons (ev_var rfl) (ea_cons (ev_op ev_c (ev_op ev_c (ev_var rfl) (rv_mul (by omega))) rv_I0) (ea_cons (ev_op (ev_var rfl) ev_c rv_I0) ea_nil))) (ha.up f4) (by omega) (by omega) (by omega)) rv_I0) (ev_var rfl) (rv_mod (by omega))) fun H5 e5 => ?_
      have f5 := f4.trans e5
      refine q_ifAsg (v := .int (endI xs pl m)) (b := decide (drawI xs 116 3 = 0 ∧ startI xs pl m ≠ oneEnd xs pl)) (et_is (et_and (et_test (ev_op (ev_draw (ea_cons (ev_var rfl) (ea_cons ev_c (ea_cons ev_c ea_nil))) (ha.up f5) (by decide) (by decide) (by decide)) ev_c (rv_eq rfl))) (fun _ => et_test (ev_op (ev_var rfl) (ev_var rfl) (rv_ne rfl)))) (by
          by_cases c1 : drawI xs 116 3 = 0 <;> by_cases c2 : startI xs pl m = oneEnd xs pl <;> simp [c1, c2])) (fun hb => ?_) (fun hb => ?_) fun H6 e6 => ?_
      · unfold endI
        rw [if_pos (of_decide_eq_true hb)]
        exact ev_var rfl
      · unfold endI
        rw [if_neg (of_decide_eq_false hb)]
        rfl
      have f6 := f5.trans e6
      refine q_asg (v := .int (drawI xs (123 + 7 * (m : Int)) 9)) (ev_draw (ea_cons (ev_var rfl) (ea_cons (ev_op ev_c (ev_op ev_c (ev_var rfl) (rv_mul (by omega))) rv_I0) (ea_cons ev_c ea_nil))) (ha.up f6) (by omega) (by omega) (by decide)) fun H7 e7 => ?_
      have f7 := f6.trans e7
      refine q_asg (v := .int (drawI xs (125 + 7 * (m : Int)) 6)) (ev_draw (ea_cons (ev_var rfl) (ea_cons (ev_op ev_c (ev_op ev_c (ev_var rfl) (rv_mul (by omega))) rv_I0) (ea_cons ev_c ea_nil))) (ha.up f7) (by omega) (by omega) (by decide)) fun H8 e8 => ?_
      have f8 := f7.trans e8
      refine q_ifAsg (v := .int (offI xs m)) (et_test (ev_op (ev_draw (ea_cons (ev_var rfl) (ea_cons (ev_op ev_c (ev_var rfl) rv_I0) (ea_cons ev_c ea_nil))) (ha.up f8) (by omega) (by omega) (by decide)) ev_c (rv_eq rfl))) (fun hb => ?_) (fun hb => ?_) fun H9 e9 => ?_
      · unfold offI
        rw [if_pos (int_yes hb)]
        exact ev_draw (ea_cons (ev_var rfl) (ea_cons (ev_op ev_c (ev_op ev_c (ev_var rfl) (rv_mul (by omega))) rv_I0) (ea_cons ev_c ea_nil))) (ha.up f8) (by omega) (by omega) (by decide)
      · unfold offI
        rw [if_neg (int_no hb)]
        rfl
      have f9 := f8.trans e9
      refine q_ifAsg (v := .int (nearI xs m)) (et_test (ev_op (ev_draw (ea_cons (ev_var rfl) (ea_cons (ev_op ev_c (ev_op ev_c (ev_var rfl) (rv_mul (by omega))) rv_I0) (ea_cons ev_c ea_nil))) (ha.up f9) (by omega) (by omega) (by decide)) ev_c (rv_eq rfl))) (fun hb => ?_) (fun hb => ?_) fun H10 e10 => ?_
      · unfold nearI
        rw [if_pos (int_yes hb)]
        exact ev_draw (ea_cons (ev_var rfl) (ea_cons (ev_op ev_c (ev_op ev_c (ev_var rfl) (rv_mul (by omega))) rv_I0) (ea_cons ev_c ea_nil))) (ha.up f9) (by omega) (by omega) (by decide)
      · unfold nearI
        rw [if_neg (int_no hb)]
        rfl
      have f10 := f9.trans e10
      refine q_asg (v := .str (kindS (sortI xs m).toNat)) (ev_opL1 (el_lst (ea_cons ev_c (ea_cons ev_c (ea_cons ev_c ea_nil))) (show 3 ≤ 100000 by decide)) (fun H11 e11 => ev_draw (ea_cons (ev_var rfl) (ea_cons (ev_op ev_c (ev_op ev_c (ev_var rfl) (rv_mul (by omega))) rv_I0) (ea_cons ev_c ea_nil))) (ha.up (f10.trans e11)) (by omega) (by omega) (by decide)) (fun p H11 hp e11 => rv_ixL (SqL.lst hp) (by
        show atI [V.str "car", V.str "foot", V.str "tram"] (sortI xs m) = some (V.str (kindS (sortI xs m).toNat))
        obtain ⟨z, hz⟩ := Int.eq_ofNat_of_zero_le (a := sortI xs m) hs0
        have hz3 : z < 3 := by unfold sortI at hz; omega
        rw [hz, Int.toNat_natCast]
        match z, hz3 with
        | 0, _ => exact atI_nat rfl
        | 1, _ => exact atI_nat rfl
        | 2, _ => exact atI_nat rfl))) fun H11 e11 => ?_
      have f11 := f10.trans e11
      refine q_asg (v := .int (leastI xs m)) (ev_op ev_c (ev_draw (ea_cons (ev_var rfl) (ea_cons (ev_op ev_c (ev_op ev_c (ev_var rfl) (rv_mul (by omega))) rv_I0) (ea_cons ev_c ea_nil))) (ha.up f11) (by omega) (by omega) (by decide)) rv_I0) fun H12 e12b => ?_
      have g12 : Ex H' H12 := ((((((((e4.trans e5).trans e6).trans e7).trans e8).trans e9).trans e10).trans e11).trans e12b)
      have hl12 := g12 _ _ hl0
      have hnl12 := (e01.trans g12) _ _ hnl
      refine s_appU hl12 (ev_var rfl) (eu_tup (ea_cons (ev_var rfl) (ea_cons (ev_op (ev_var rfl) (ev_var rfl) (rv_ixL (i := (m : Int)) (v := .str ((namesL xs n).getD m "")) (SqL.lst hnl12) (atI_nat (by
          have hlen := names_len xs n
          rw [List.getElem?_map, List.getD_eq_getElem?_getD, List.getElem?_eq_getElem (by omega)]
          rfl)))) (ea_cons (ev_var rfl) (ea_cons (ev_var rfl) (ea_cons (ev_var rfl) (ea_cons (ev_var rfl) (ea_cons (ev_var rfl) ea_nil))))))) (show 7 ≤ 100000 by decide)) (by rw [List.length_map, has.1]; simp; omega) fun p H13 hp12 e13b hp => ?_
      have hl13 := e13b _ _ hl12
      refine ⟨Ex.mut (e0.trans (g12.trans e13b)) hlH, Ex.mut (e01.trans (g12.trans e13b)) hl1, ⟨as ++ [p], ?_, ?_⟩, _, _, _, _, _, _, _, rfl⟩
      · rw [upd_same, List.map_append]
        rfl
      · rw [List.range_succ, List.map_append]
        exact ((has.imp fun _ _ r => TupAt.tup.up (g12.trans e13b) r).snoc (x := wayI xs pl n m) hp).tups TupAt.tup (tups_upd hl13)
    · obtain ⟨e0, e01, ⟨as, hl0, has⟩, x1, x2, x3, x4, x5, x6, x7, rfl⟩ := hP
      rw [Int.toNat_natCast] at has
      exact s_ret (ev_var rfl) fun H4 e4 => k _ H4 (e0.trans e4) ⟨l, as, rfl, e4 _ _ hl0, has.imp fun _ _ r => TupAt.tup.up e4 r⟩
end
end Lw


set_option Elab.async false
set_option linter.all false
set_option maxRecDepth 100000
set_option maxHeartbeats 4000000
namespace Lw
open PySem PySem.Spec PyProof.Rows L2 Evl TL
theorem sum_le {α : Type} {f : α → Nat} {k : Nat} : ∀ l : List α, (∀ x ∈ l, f x ≤ k) → (l.map f).sum ≤ l.length * k
  | [], _ => by simp
  | x :: l, h => by
    have h1 := h x (List.mem_cons_self ..)
    have h2 := sum_le l fun y hy => h y (List.mem_cons_of_mem _ hy)
    rw [List.map_cons, List.sum_cons, List.length_cons, Nat.add_mul]
    omega
theorem log2_small : ∀ n : Nat, n < 100 → n.log2 < 1920 := by decide +kernel
section
variable {P : Program} {w : World} {K : PySem.W.Frag} {mg : Str → Option Value} {base : Heap}
theorem ev_str {σ : L2.St} {H : Hp} {ta : TE} {i : Int} (h : Ev ta σ H (.int i)) (h0 : 0 ≤ i) (h1 : i < 100) : Ev (tCB (fun xs H Q => ∃ i, xs = [.int i] ∧ i.natAbs.log2 < 1920 ∧ Q (.str (toString i)) H) (tCons ta tNil)) σ H (.str (numS i)) := fun H1 e Q q =>
  h H1 e _ fun H2 e2 => ⟨i, rfl, log2_small _ (by omega), q H2 e2⟩
theorem ev_joinV {σ : L2.St} {H : Hp} {to te : TE} {a : Str} {p : Addr} {ys : List Str} (h : Ev to σ H (.str a)) (h2 : Ev te σ H (.ref p)) (hp : SqL K H p (ys.map V.str)) (hz : (ys.map (·.length)).sum + ys.length * a.length ≤ 16777216) :
    Ev (tM1 (fun x xs H Q => ∃ a p, ∃ ys : List Str, x = .str a ∧ xs = [.ref p] ∧ (SqL K H p (ys.map V.str) ∨ SqT K H p (ys.map V.str)) ∧ (ys.map (·.length)).sum + ys.length * a.length ≤ 16777216 ∧ Q (.str (Txt.join a ys)) H) to te) σ H (.str (Txt.join a ys)) := fun H1 e Q q =>
  h H1 e _ fun H2 e2 => ⟨⟨a, rfl⟩, h2 H2 (e.trans e2) _ fun H3 e3 => ⟨a, p, ys, rfl, rfl, .inl (ex_l ((e.trans e2).trans e3) hp), hz, q H3 (e2.trans e3)⟩⟩
theorem head_text {i : Int} (h0 : 0 ≤ i) : ("ring " : Str) ++ numS i = rowText (headRow i) := by
  refine ext_tl ?_
  unfold rowText headRow
  rw [tl_append, join_eq, tl_join, tl_sp, show tl ("ring " : Str) = [114, 105, 110, 103, 32] by decide +kernel]
  show _ = tl ("ring" : Str) ++ ([32] ++ joinL [32] [tl (numS i)])
  rw [show tl ("ring" : Str) = [114, 105, 110, 103] by decide +kernel]
  rfl
def spText (K : PySem.W.Frag) : Sp := fun vs H Q _ => ∃ (pl : Int) (l : Addr) (as : List Addr) (ws : List WayD), vs = [.int pl, .ref l] ∧ H l = some (.lst (as.map V.ref)) ∧ AllAt TupAt H as ws ∧ (∀ w ∈ ws, WayW pl w) ∧ 2 ≤ pl ∧ pl ≤ 99 ∧ ws.length ≤ 12 ∧ RetV (.str (textOf (lawRows pl ws))) H Q
theorem ok_law_text (T : TX K mg) : Fp P w K mg base 1 ("_law_text", none) ["_law_places_here", "_law_ways_here"] (spText K) := by
  refine Fp.of T.f_law_text sc_law_text (fun _ _ _ _ _ _ us hl => match us, hl with | [_, _], _ => rfl) (fun vs H Q E h => ?_) (fun cdv A outer s H vs Q E hr h => ?_)
  · obtain ⟨_, _, _, _, rfl, _⟩ := h; rfl
  · obtain ⟨pl, wl, as, ws, rfl, hwl, has, hw, h0, h1, hn, k⟩ := h
    refine ⟨_, (pss_cons (ps_set (i := 2) sc_law_text.nd rfl (Or.inl rfl) (pe_lst (pa_cons (pe_op op_add_str pe_str (pe_callTy call_str_int (by rfl) T.free_str (by decide +kernel) (pa_cons (pv 0) pa_nil))) pa_nil)))
  (pss_cons (ps_for PassesOwn.never rfl (pi_list (pv 1)) (pg_name (i := 3) sc_law_text.nd rfl (Or.inl rfl)) (pss_one (ps_expr (pe_bm PySem.F.plainAttrs_list PySem.F.slot_list_append PySem.F.type_list_append mt_append (pv 2) (pa_cons (pe_join pe_str (pe_op op_cat (pe_lst (pa_cons (pe_ix ix_tup (pv 3) pe_int (fun _ _ => rfl)) (pa_cons (pe_ix ix_tup (pv 3) pe_int (fun _ _ => rfl)) pa_nil))) (pe_lc (own := [("_law_number", 4)]) (g := gName 4) rfl sc_law_text.nd (pi_tup (pe_slice sl_tup (pv 3) (po_some pe_int) po_none)) (blkOk_by (own := [("_law_number", 4)]) (N := N_law_text) (sc := defScope s_law_text) (by decide +kernel)) (fun _ _ _ _ _ => pg_name (i := 4) sc_law_text.nd rfl (Or.inl rfl)) (fun _ _ _ _ _ => pts_nil) (fun _ _ _ _ _ => (pe_callTy call_str_int (by rfl) T.free_str (by decide +kernel) (pa_cons (pv 4) pa_nil)))))) pa_nil)))))
  (pss_one (ps_ret (pe_join pe_str (pv 2)))))), ?_⟩
    have rok := rows_ok h0 h1 hw hn
    have hn8 := (word_num (i := pl) (by omega) (by omega)).len
    rw [← len_tl] at hn8
    refine q_asgL (el_lst (ea_cons (x := .str (rowText (headRow pl))) (ev_is (ev_op ev_c (ev_str (ev_var rfl) (by omega) (by omega)) (rv_addS (by
      have : ("ring " : Str).length = 5 := by decide +kernel
      omega))) (congrArg V.str (head_text (by omega)))) ea_nil) (show 1 ≤ 100000 by decide)) fun l H1 hl e1 hl1 => ?_
    have hz : (as.map V.ref).length = ws.length := by rw [List.length_map, has.1]
    refine q_forLn (ev_var rfl) (SqL.lst (e1 _ _ hwl)) (fun m σ' H' => Ex H H' ∧ H' l = some (.lst (((headRow pl :: (ws.take m).map wayRow).map rowText).map V.str)) ∧ ∃ x y, σ' = [some (.int pl), some (.ref wl), some (.ref l), x, y]) (fun H2 e2 => ⟨e1.trans e2, e2 _ _ hl1, none, none, rfl⟩) (fun m σ' H' _ hP => SqL.lst (hP.1 _ _ hwl)) (fun m x σ' H' hx hP => ?_) (fun σ' H' hP => ?_)
    · obtain ⟨e0, hl0, y, z, rfl⟩ := hP
      rw [List.getElem?_map] at hx
      obtain ⟨b, hb, rfl⟩ := Option.map_eq_some_iff.mp hx
      have hm : m < ws.length := by
        rw [← has.1]
        exact (List.getElem?_eq_some_iff.mp hb).1
      obtain ⟨wy, hwy⟩ : ∃ wy, ws[m]? = some wy := ⟨_, List.getElem?_eq_getElem hm⟩
      have wok := hw wy (List.mem_of_getElem? hwy)
      have hb0 : H' b = some (.tup (tupV wy)) := e0 _ _ (has.2 m b wy hb hwy)
      have hww := wok.words (by omega)
      have hsum : ((wayRow wy).map (·.length)).sum ≤ (wayRow wy).length * 8 := sum_le _ fun x hx => by
        have := (hww x hx).len
        rw [len_tl]
        exact this
      have hl7 : (wayRow wy).length = 7 := by simp [wayRow, wayNums]
      refine s_app hl0 (ev_var rfl) (ev_joinL (ys := wayRow wy) ev_c (el_catLL (xs := [.str (kindS wy.sort), .str wy.name]) (ys := (wayNums wy).map fun x => V.str (numS x)) (el_lst (ea_cons (ev_op (ev_var rfl) ev_c (rv_ixT (SqT.tup hb0) (atI_nat (j := 0) rfl))) (ea_cons (ev_op (ev_var rfl) ev_c (rv_ixT (SqT.tup hb0) (atI_nat (j := 1) rfl))) ea_nil)) (show 2 ≤ 100000 by decide)) ?_ (by simp [wayNums])) ?_) (by simp; omega) fun H2 e2 => ?_
      · have z := el_lcNT (K := K) (σ := [some (.int pl), some (.ref wl), some (.ref l), some (.ref b), z]) (H := H') (j := 4) (vs := [4]) (t := tYes) (xs := (wayNums wy).map V.int) (tl := tSl (rSlT K) (tVar 3) (tPart (tC (.int 2))) tNoPart) (te := tCB (fun xs H Q => ∃ i, xs = [.int i] ∧ i.natAbs.log2 < 1920 ∧ Q (.str (toString i)) H) (tCons (tVar 4) tNil)) (fun _ => true) (fun i => .str (numS ((wayNums wy).getD i 0)))
          ((ep_u (eu_sl (ev_var rfl) (eo_some ev_c) eo_none (SqT.tup hb0) (by
            intro z
            exact absurd z.1 (by show ¬ (2 : Nat) = 0; decide)))).imp fun v H1 e1 r => by
              obtain ⟨p, rfl, hp⟩ := r
              exact ⟨p, rfl, SqT.tup hp⟩) (by simp [wayNums]) (fun _ => rfl) (fun i x H2 e2 hi => et_yes) (fun i x H2 e2 hi _ => by
            rw [List.getElem?_map] at hi
            obtain ⟨c, hc, rfl⟩ := Option.map_eq_some_iff.mp hi
            obtain ⟨nx, bd, q1, q2, q3, q4, _⟩ := num_bnd wok h1 (m := i) (by have := (List.getElem?_eq_some_iff.mp hc).1; simp [wayNums] at this; omega)
            rw [q1] at hc
            obtain rfl := Option.some.inj hc
            rw [List.getD_eq_getElem?_getD, q1]
            exact ev_str (ev_var rfl) q3 q4)
        rw [given_all] at z
        exact z
      · rw [hl7] at hsum ⊢
        have : (" " : Str).length = 1 := by decide +kernel
        omega
      · refine ⟨Ex.mut (e0.trans e2) hl, ?_, _, _, rfl⟩
        rw [upd_same, take_succ_at hwy, List.map_append]
        simp
        rfl
    · obtain ⟨e0, hl0, y, z, rfl⟩ := hP
      rw [hz, List.take_length] at hl0
      refine s_ret (ev_joinV (ys := (lawRows pl ws).map rowText) ev_c (ev_var rfl) (SqL.lst hl0) ?_) fun H2 e2 => k _ (e0.trans e2)
      have hsum : (((lawRows pl ws).map rowText).map (·.length)).sum ≤ ((lawRows pl ws).map rowText).length * 90 := sum_le _ fun x hx => by
        obtain ⟨r, hr, rfl⟩ := List.mem_map.mp hx
        exact rok.rlen hr
      have h2 := rok.n
      rw [List.length_map] at hsum ⊢
      have : ("\n" : Str).length = 1 := by decide +kernel
      rw [this]
      omega
end
end Lw


set_option Elab.async false
set_option linter.all false
set_option maxRecDepth 100000
set_option maxHeartbeats 4000000
namespace Lw
open PySem PySem.Spec PyProof.Rows L2 Evl TL
def WTAt (x : WayD × Int) (a : Addr) (H : Hp) : Prop := ∃ t, H a = some (.tup [.ref t, .int x.2]) ∧ TupAt x.1 t H
theorem WTAt.tup : TupR WTAt := fun _ _ _ _ h r => let ⟨t, r1, r2⟩ := r; ⟨t, h _ _ trivial r1, h _ _ trivial r2⟩
def LWantsAt (wd : WD) (a : Addr) (H : Hp) : Prop := ∃ as : List Addr, H a = some (.lst (as.map V.ref)) ∧ AllAt WTAt H as wd
theorem LWantsAt.up {wd : WD} {a : Addr} {H H' : Hp} (h : LWantsAt wd a H) (e : Ex H H') : LWantsAt wd a H' := let ⟨as, h1, h2⟩ := h; ⟨as, e _ _ h1, h2.imp fun _ _ r => WTAt.tup.up e r⟩
theorem fm {x pl : Int} (h : 0 ≤ pl) : x.fmod pl = x % pl := Int.fmod_eq_emod_of_nonneg _ h
section
variable {P : Program} {w : World} {K : PySem.W.Frag} {mg : Str → Option Value} {base : Heap}
def spIsMet : Sp := fun vs H Q _ => ∃ (p q : Addr) (a b : WayD) (pl : Int), vs = [.ref p, .ref q, .int pl] ∧ TupAt a p H ∧ TupAt b q H ∧ 0 < pl ∧ RetV (.bl (isMet pl a b)) H Q
theorem ev_cut24 {σ : L2.St} {H : Hp} {te : TE} {b : WayD} {q : Addr} (h : Ev te σ H (.ref q)) (hb : TupAt b q H) : EvU (tSl (rSlT K) te (tPart (tC (.int 2))) (tPart (tC (.int 4)))) σ H [.int b.start, .int b.end_] :=
  eu_sl (lo := some 2) (hi := some 4) h (eo_some ev_c) (eo_some ev_c) (SqT.tup hb) (fun z => absurd z.1 (by show ¬ (2 : Nat) = 0; decide))
theorem ok_law_is_met (T : TX K mg) : Fp P w K mg base 1 ("_law_is_met", none) ["_law_one", "_law_other", "_law_places_here"] spIsMet := by
  refine Fp.of T.f_law_is_met sc_law_is_met (fun _ _ _ _ _ _ us hl => match us, hl with | [_, _, _], _ => rfl) (fun vs H Q E h => ?_) (fun cdv A outer s H vs Q E hr h => ?_)
  · obtain ⟨_, _, _, _, _, rfl, _⟩ := h; rfl
  · obtain ⟨p, q, a, b, pl, rfl, ha, hb, hp, k⟩ := h
    refine ⟨_, (pss_cons (ps_if (pt_cmpR op_eq (pe_ix ix_tup (pv 0) pe_int (fun _ _ => rfl)) (pe_ix ix_tup (pv 1) pe_int (fun _ _ => rfl)) (nomark _)) (pss_one (ps_ret pe_bl)) pss_nil)
  (pss_cons (ps_if (PW.pt (pw_or (pt_cmpR op_in_seq (pe_ix ix_tup (pv 0) pe_int (fun _ _ => rfl)) (pe_slice sl_tup (pv 1) (po_some pe_int) (po_some pe_int)) rfl) (pw_or1 (pt_cmpR op_in_seq (pe_ix ix_tup (pv 0) pe_int (fun _ _ => rfl)) (pe_slice sl_tup (pv 1) (po_some pe_int) (po_some pe_int)) rfl)))) (pss_one (ps_ret pe_bl)) pss_nil)
  (pss_cons (ps_set (i := 3) sc_law_is_met.nd rfl (Or.inl rfl) (pe_op op_modN (pe_op op_sub (pe_ix ix_tup (pv 0) pe_int (fun _ _ => rfl)) (pe_ix ix_tup (pv 0) pe_int (fun _ _ => rfl))) (pv 2)))
  (pss_cons (ps_set (i := 4) sc_law_is_met.nd rfl (Or.inl rfl) (pe_cmpR op_lt (pe_op op_modN (pe_op op_sub (pe_ix ix_tup (pv 1) pe_int (fun _ _ => rfl)) (pe_ix ix_tup (pv 0) pe_int (fun _ _ => rfl))) (pv 2)) (pv 3) (nomark _)))
  (pss_one (ps_ret (pe_cmpR op_ne (pv 4) (pe_cmpR op_lt (pe_op op_modN (pe_op op_sub (pe_ix ix_tup (pv 1) pe_int (fun _ _ => rfl)) (pe_ix ix_tup (pv 0) pe_int (fun _ _ => rfl))) (pv 2)) (pv 3) (nomark _)) (nomark _)))))))), ?_⟩
    have a_ : ∀ H1, Ex H H1 → SqT K H1 p (tupV a) := fun H1 e => SqT.tup (e _ _ ha)
    have b_ : ∀ H1, Ex H H1 → SqT K H1 q (tupV b) := fun H1 e => SqT.tup (e _ _ hb)
    refine q_when (et_test (ev_op (ev_op (ev_var rfl) ev_c (rv_ixT (a_ H (Ex.refl _)) (atI_nat (j := 3) rfl))) (ev_op (ev_var rfl) ev_c (rv_ixT (b_ H (Ex.refl _)) (atI_nat (j := 3) rfl))) (rv_eq rfl))) (fun hc H1 e1 => ?_) (fun hc H1 e1 => ?_)
    · have r : isMet pl a b = true := by unfold isMet; rw [if_pos (int_yes hc)]
      rw [r] at k
      exact s_ret ev_c fun H2 e2 => k _ (e1.trans e2)
    · have n1 : a.end_ ≠ b.end_ := int_no hc
      have hb1 : TupAt b q H1 := e1 _ _ hb
      refine q_when (et_or (et_test (ev_inU (ev_op (ev_var rfl) ev_c (rv_ixT (v := .int a.start) (a_ H1 e1) (atI_nat (j := 2) rfl))) (ev_cut24 (ev_var rfl) hb1) rfl rfl)) (fun _ => et_test (ev_inU (ev_op (ev_var rfl) ev_c (rv_ixT (v := .int a.end_) (a_ H1 e1) (atI_nat (j := 3) rfl))) (ev_cut24 (ev_var rfl) hb1) rfl rfl))) (fun hc2 H2 e2 => ?_) (fun hc2 H2 e2 => ?_)
      · have e : (a.start = b.start ∨ a.start = b.end_) ∨ a.end_ = b.start := by
          rcases Bool.or_eq_true_iff.mp hc2 with z | z
          · left
            have z2 : inV (.int a.start) ([b.start, b.end_].map V.int) = true := z
            rw [inV_int, decide_eq_true_eq] at z2
            simpa using z2
          · right
            have z2 : inV (.int a.end_) ([b.start, b.end_].map V.int) = true := z
            rw [inV_int, decide_eq_true_eq] at z2
            have z3 : a.end_ = b.start ∨ a.end_ = b.end_ := by simpa using z2
            rcases z3 with z | z
            · exact z
            · exact absurd z n1
        have r : isMet pl a b = false := by unfold isMet; rw [if_neg n1, if_pos e]
        rw [r] at k
        exact s_ret ev_c fun H3 e3 => k _ ((e1.trans e2).trans e3)
      · have e : ¬ ((a.start = b.start ∨ a.start = b.end_) ∨ a.end_ = b.start) := by
          obtain ⟨z1, z2⟩ := Bool.or_eq_false_iff.mp hc2
          rintro (z | z)
          · have z3 : inV (.int a.start) ([b.start, b.end_].map V.int) = false := z1
            rw [inV_int, decide_eq_false_iff_not] at z3
            exact z3 (by simpa using z)
          · have z3 : inV (.int a.end_) ([b.start, b.end_].map V.int) = false := z2
            rw [inV_int, decide_eq_false_iff_not] at z3
            exact z3 (by simp [z])
        have e12 := e1.trans e2
        refine q_asg (v := .int (farOf pl a a.end_)) (ev_is (ev_op (ev_op (ev_op (ev_var rfl) ev_c (rv_ixT (v := .int a.end_) (a_ H2 e12) (atI_nat (j := 3) rfl))) (ev_op (ev_var rfl) ev_c (rv_ixT (v := .int a.start) (a_ H2 e12) (atI_nat (j := 2) rfl))) rv_I0) (ev_var rfl) (rv_mod (by omega))) (by rw [fm (by omega)]; rfl)) fun H3 e3 => ?_
        have e13 := e12.trans e3
        have hfar : ∀ H', Ex H H' → ∀ (x : Int) (j : Nat), (tupV b)[j]? = some (.int x) → ∀ {σ : L2.St} {tq tp tj tpl : TE}, Ev tq σ H' (.ref q) → Ev tp σ H' (.ref p) → Ev tj σ H' (.int (j : Int)) → Ev tpl σ H' (.int pl) → Ev (tOp (rI (fun _ j => j ≠ 0) fun i j => .int (i.fmod j)) (tOp (rI0 fun i j => .int (i - j)) (tOp (rIxT K) tq tj) (tOp (rIxT K) tp (tC (.int 2)))) tpl) σ H' (.int (farOf pl a x)) := fun H' e' x j hj σ tq tp tj tpl hq hp2 hj2 hpl => by
          refine ev_is (ev_op (ev_op (ev_op hq hj2 (rv_ixT (b_ H' e') (atI_nat hj))) (ev_op hp2 ev_c (rv_ixT (v := .int a.start) (a_ H' e') (atI_nat (j := 2) rfl))) rv_I0) hpl (rv_mod (by omega))) ?_
          rw [fm (by omega)]
          rfl
        refine q_asg (v := .bl (decide (farOf pl a b.start < farOf pl a a.end_))) (ev_op (hfar H3 e13 b.start 2 rfl (ev_var rfl) (ev_var rfl) ev_c (ev_var rfl)) (ev_var rfl) rv_I0) fun H4 e4 => ?_
        have e14 := e13.trans e4
        refine s_ret (ev_is (ev_op (ev_var rfl) (ev_op (hfar H4 e14 b.end_ 3 rfl (ev_var rfl) (ev_var rfl) ev_c (ev_var rfl)) (ev_var rfl) rv_I0) (rv_ne rfl)) ?_) fun H5 e5 => k _ (e14.trans e5)
        have r : isMet pl a b = (decide (farOf pl a b.start < farOf pl a a.end_) != decide (farOf pl a b.end_ < farOf pl a a.end_)) := by unfold isMet; rw [if_neg n1, if_neg e]
        rw [r]
        congr 1
        cases decide (farOf pl a b.start < farOf pl a a.end_) <;> cases decide (farOf pl a b.end_ < farOf pl a a.end_) <;> rfl
def spAlone : Sp := fun vs H Q _ => ∃ (p : Addr) (x : WayD × Int), vs = [.ref p, .int x.2] ∧ TupAt x.1 p H ∧ RetV (.int (aloneOf x)) H Q
theorem ok_law_alone (T : TX K mg) : Fp P w K mg base 1 ("_law_alone", none) ["_law_way", "_law_turns"] spAlone := by
  refine Fp.of T.f_law_alone sc_law_alone (fun _ _ _ _ _ _ us hl => match us, hl with | [_, _], _ => rfl) (fun vs H Q E h => ?_) (fun cdv A outer s H vs Q E hr h => ?_)
  · obtain ⟨_, _, rfl, _⟩ := h; rfl
  · obtain ⟨p, ⟨a, t⟩, rfl, ha, k⟩ := h
    refine ⟨_, (pss_cons (ps_if (pt_cmpR op_eq (pe_ix ix_tup (pv 0) pe_int (fun _ _ => rfl)) pe_str (nomark _)) (pss_one (ps_ret (pe_op op_add (pv 1) (pe_ix ix_tup (pv 0) pe_int (fun _ _ => rfl))))) pss_nil)
  (pss_one (ps_ret (pe_op op_add (pv 1) pe_int)))), ?_⟩
    have a_ : ∀ H1, Ex H H1 → SqT K H1 p (tupV a) := fun H1 e => SqT.tup (e _ _ ha)
    have hk : ∀ n, kindS n = "foot" ↔ n = 1 := fun n => match n with
      | 0 => ⟨fun z => absurd z (by decide +kernel), fun z => by cases z⟩
      | 1 => ⟨fun _ => rfl, fun _ => rfl⟩
      | n + 2 => ⟨fun z => absurd (show ("tram" : Str) = "foot" from z) (show ¬ ("tram" : Str) = "foot" by decide +kernel), fun z => by omega⟩
    refine q_when (et_test (ev_op (ev_op (ev_var rfl) ev_c (rv_ixT (v := .str (kindS a.sort)) (a_ H (Ex.refl _)) (atI_nat (j := 0) rfl))) ev_c (rv_eq rfl))) (fun hc H1 e1 => ?_) (fun hc H1 e1 => ?_)
    · have h1 : a.sort = 1 := (hk _).mp (V.str.inj (of_decide_eq_true hc))
      refine s_ret (ev_is (ev_op (ev_var rfl) (ev_op (ev_var rfl) ev_c (rv_ixT (v := .int a.off) (a_ H1 e1) (atI_nat (j := 4) rfl))) rv_I0) ?_) fun H2 e2 => k _ (e1.trans e2)
      unfold aloneOf fadeOf readyOf
      simp [h1]
    · have h1 : a.sort ≠ 1 := fun z => of_decide_eq_false hc (congrArg V.str ((hk _).mpr z))
      refine s_ret (ev_is (ev_op (ev_var rfl) ev_c rv_I0) ?_) fun H2 e2 => k _ (e1.trans e2)
      unfold aloneOf fadeOf readyOf
      by_cases h0 : a.sort = 0
      · simp [h0]
        omega
      · simp [h0, h1]
        omega
def spBehind : Sp := fun vs H Q _ => ∃ (a : Addr) (wd : WD) (i j : Nat) (pl : Int), vs = [.ref a, .int (i : Int), .int (j : Int), .int pl] ∧ LWantsAt wd a H ∧ i < wd.length ∧ j < wd.length ∧ 0 < pl ∧ RetV (optV (beh pl wd i j)) H Q
theorem LWantsAt.get {wd : WD} {a : Addr} {H : Hp} (h : LWantsAt wd a H) {i : Nat} (hi : i < wd.length) : ∃ x ta tw l, wd[i]? = some x ∧ H a = some (.lst l) ∧ l[i]? = some (.ref ta) ∧ H ta = some (.tup [.ref tw, .int x.2]) ∧ TupAt x.1 tw H := by
  obtain ⟨as, h1, h2⟩ := h
  have hx : wd[i]? = some wd[i] := List.getElem?_eq_getElem hi
  obtain ⟨ta, hta, tw, h3, h4⟩ := h2.get hx
  exact ⟨_, ta, tw, _, hx, h1, by rw [List.getElem?_map, hta]; rfl, h3, h4⟩
theorem LWantsAt.len {wd : WD} {a : Addr} {H : Hp} (h : LWantsAt wd a H) : ∃ l : List V, SqL K H a l ∧ l.length = wd.length := by
  obtain ⟨as, h1, h2⟩ := h
  exact ⟨_, SqL.lst h1, by rw [List.length_map, h2.1]⟩
theorem ok_law_behind (T : TX K mg) : Fp P w K mg base 2 ("_law_behind", none) ["_law_wanted_here", "_law_i", "_law_j", "_law_places_here"] spBehind := by
  refine Fp.of T.f_law_behind sc_law_behind (fun _ _ _ _ _ _ us hl => match us, hl with | [_, _, _, _], _ => rfl) (fun vs H Q E h => ?_) (fun cdv A outer s H vs Q E hr h => ?_)
  · obtain ⟨_, _, _, _, _, rfl, _⟩ := h; rfl
  · obtain ⟨a, wd, i, j, pl, rfl, ha, hi, hj, hp, k⟩ := h
    refine ⟨_, (pss_cons (ps_if (PW.pt (pw_or (pt_cmpR op_eq (pv 1) (pv 2) (nomark _)) (pw_or1 (pt_not (pt_val (pe_f (ok_law_is_met T) T.g_law_is_met (hr.mono (by decide)) (pa_cons (pe_ix ix_tup (pe_ix ix_list (pv 0) (pv 1) (fun _ _ => rfl)) pe_int (fun _ _ => rfl)) (pa_cons (pe_ix ix_tup (pe_ix ix_list (pv 0) (pv 2) (fun _ _ => rfl)) pe_int (fun _ _ => rfl)) (pa_cons (pv 3) pa_nil))))))))) (pss_one (ps_ret pe_non)) pss_nil)
  (pss_one (ps_ret (pe_op op_add (pe_ix ix_tup (pe_ix ix_list (pv 0) (pv 1) (fun _ _ => rfl)) pe_int (fun _ _ => rfl)) (pe_callB (call_max2 rfl) (by rfl) T.free_max (by decide +kernel) (pa_cons pe_int (pa_cons (pe_op op_sub (pe_ix ix_tup (pe_ix ix_tup (pe_ix ix_list (pv 0) (pv 1) (fun _ _ => rfl)) pe_int (fun _ _ => rfl)) pe_int (fun _ _ => rfl)) (pe_ix ix_tup (pe_ix ix_tup (pe_ix ix_list (pv 0) (pv 2) (fun _ _ => rfl)) pe_int (fun _ _ => rfl)) pe_int (fun _ _ => rfl))) pa_nil))))))), ?_⟩
    obtain ⟨x, xa, xw, l, hx, hl, hxa, hxt, hxw⟩ := ha.get hi
    obtain ⟨y, ya, yw, l', hy, hl', hya, hyt, hyw⟩ := ha.get hj
    rw [hl] at hl'
    obtain rfl : l = l' := by
      have := Option.some.inj hl'
      injection this
    have x_ : ∀ H1, Ex H H1 → Ev (tOp (rIxT K) (tOp (rIxL K) (tVar 0) (tVar 1)) (tC (.int 0))) [some (.ref a), some (.int (i : Int)), some (.int (j : Int)), some (.int pl)] H1 (.ref xw) := fun H1 e => ev_op (ev_op (ev_var rfl) (ev_var rfl) (rv_ixL (SqL.lst (e _ _ hl)) (atI_nat hxa))) ev_c (rv_ixT (SqT.tup (e _ _ hxt)) (atI_nat (j := 0) rfl))
    have y_ : ∀ H1, Ex H H1 → Ev (tOp (rIxT K) (tOp (rIxL K) (tVar 0) (tVar 2)) (tC (.int 0))) [some (.ref a), some (.int (i : Int)), some (.int (j : Int)), some (.int pl)] H1 (.ref yw) := fun H1 e => ev_op (ev_op (ev_var rfl) (ev_var rfl) (rv_ixL (SqL.lst (e _ _ hl)) (atI_nat hya))) ev_c (rv_ixT (SqT.tup (e _ _ hyt)) (atI_nat (j := 0) rfl))
    refine q_when (et_or (et_test (ev_op (ev_var rfl) (ev_var rfl) (rv_eq rfl))) (fun _ => et_not (et_test (ev_callV (z := .bl (isMet pl x.1 y.1)) (ea_cons (x_ H (Ex.refl _)) (ea_cons (y_ H (Ex.refl _)) (ea_cons (ev_var rfl) ea_nil))) (fun H1 e1 Q q _ => ⟨xw, yw, x.1, y.1, pl, rfl, e1 _ _ hxw, e1 _ _ hyw, hp, q⟩))))) (fun hc H1 e1 => ?_) (fun hc H1 e1 => ?_)
    · have r : beh pl wd i j = none := by
        unfold beh
        rw [hx, hy]
        show (if i = j then none else if isMet pl x.1 y.1 then some (x.2 + gapOf x.1 y.1) else none) = none
        rcases Bool.or_eq_true_iff.mp hc with z | z
        · rw [if_pos (by have := int_yes z; omega)]
        · have : isMet pl x.1 y.1 = false := by simpa using z
          rw [this]
          split <;> rfl
      rw [r] at k
      exact s_ret ev_c fun H2 e2 => k _ (e1.trans e2)
    · have r : beh pl wd i j = some (x.2 + gapOf x.1 y.1) := by
        unfold beh
        rw [hx, hy]
        show (if i = j then none else if isMet pl x.1 y.1 then some (x.2 + gapOf x.1 y.1) else none) = _
        obtain ⟨z1, z2⟩ := Bool.or_eq_false_iff.mp hc
        have : isMet pl x.1 y.1 = true := by simpa using z2
        rw [if_neg (fun z => int_no z1 (by omega)), this]
        rfl
      rw [r] at k
      refine s_ret (ev_op (ev_op (ev_op (ev_var rfl) (ev_var rfl) (rv_ixL (SqL.lst (e1 _ _ hl)) (atI_nat hxa))) ev_c (rv_ixT (SqT.tup (e1 _ _ hxt)) (atI_nat (j := 1) rfl))) (ev_max2 ev_c (ev_op (ev_op (x_ H1 e1) ev_c (rv_ixT (v := .int x.1.off) (SqT.tup (e1 _ _ hxw)) (atI_nat (j := 4) rfl))) (ev_op (y_ H1 e1) ev_c (rv_ixT (v := .int y.1.near) (SqT.tup (e1 _ _ hyw)) (atI_nat (j := 5) rfl))) rv_I0)) rv_I0) fun H2 e2 => k _ (e1.trans e2)
end
end Lw


set_option Elab.async false
set_option linter.all false
set_option maxRecDepth 100000
set_option maxHeartbeats 4000000
namespace Lw
open PySem PySem.Spec PyProof.Rows L2 Evl TL
theorem bh_tab (pl : Int) (wd : WD) (i j : Nat) : bh (tabOf pl wd) i j = beh pl wd i j := by
  by_cases hi : i < wd.length
  · have e : (tabOf pl wd).getD i [] = rowOf pl wd i := by
      unfold tabOf
      simp [List.getD_eq_getElem?_getD, hi]
    unfold bh
    rw [e]
    by_cases hj : j < wd.length
    · unfold rowOf
      simp [List.getD_eq_getElem?_getD, hj]
    · have : (rowOf pl wd i).getD j none = none := by
        unfold rowOf
        rw [List.getD_eq_getElem?_getD, List.getElem?_eq_none (by simp; omega)]
        rfl
      rw [this]
      unfold beh
      rw [List.getElem?_eq_none (l := wd) (i := j) (by omega)]
      cases wd[i]? <;> rfl
  · have e : (tabOf pl wd).getD i [] = [] := by
      unfold tabOf
      rw [List.getD_eq_getElem?_getD, List.getElem?_eq_none (by simp; omega)]
      rfl
    unfold bh
    rw [e]
    unfold beh
    rw [List.getElem?_eq_none (l := wd) (i := i) (by omega)]
    rfl
theorem beh_some {pl : Int} {wd : WD} {i j : Nat} {t : Int} (h : beh pl wd i j = some t) : ∃ x y, wd[i]? = some x ∧ wd[j]? = some y ∧ i ≠ j ∧ isMet pl x.1 y.1 = true ∧ t = x.2 + gapOf x.1 y.1 := by
  unfold beh at h
  cases hx : wd[i]? with
  | none => rw [hx] at h; cases h
  | some x =>
    cases hy : wd[j]? with
    | none => rw [hx, hy] at h; cases h
    | some y =>
      rw [hx, hy] at h
      have h2 : (if i = j then none else if isMet pl x.1 y.1 then some (x.2 + gapOf x.1 y.1) else none) = some t := h
      by_cases e : i = j
      · rw [if_pos e] at h2; cases h2
      · rw [if_neg e] at h2
        by_cases m : isMet pl x.1 y.1 = true
        · rw [if_pos m] at h2
          exact ⟨x, y, rfl, rfl, e, m, (Option.some.inj h2).symm⟩
        · rw [if_neg m] at h2; cases h2
structure WtOk (pl : Int) (x : WayD × Int) : Prop where
  ok : WayW pl x.1
  t0 : 1 ≤ x.2
theorem gap_nn (a b : WayD) : 0 ≤ gapOf a b := by
  unfold gapOf
  split <;> omega
theorem good_of {pl : Int} {wd : WD} (h1 : 1 ≤ wd.length) (h5 : wd.length ≤ 5) (h : ∀ x ∈ wd, WtOk pl x) : Good wd.length (wd.map aloneOf) (tabOf pl wd) := by
  have sy : ∀ i j, (bh (tabOf pl wd) i j).isSome = true → (bh (tabOf pl wd) j i).isSome = true := fun i j z => by
    rw [bh_tab] at z ⊢
    obtain ⟨t, ht⟩ := Option.isSome_iff_exists.mp z
    obtain ⟨x, y, hx, hy, ne, m, _⟩ := beh_some ht
    have m2 : isMet pl y.1 x.1 = true := by
      rw [isMet_swap (h y (List.mem_of_getElem? hy)).ok.ok (h x (List.mem_of_getElem? hx)).ok.ok]
      exact m
    unfold beh
    rw [hy, hx]
    show (if j = i then none else if isMet pl y.1 x.1 then some (y.2 + gapOf y.1 x.1) else none).isSome = true
    rw [if_neg (Ne.symm ne), if_pos m2]
    rfl
  refine ⟨h1, h5, by simp, fun a ha => ?_, by simp [tabOf], fun r hr => ?_, fun i j => ?_, fun i => ?_, fun i j t ht => ?_⟩
  · obtain ⟨x, hx, rfl⟩ := List.mem_map.mp ha
    have z := h x hx
    have := z.t0
    have := z.ok.o0
    unfold aloneOf fadeOf readyOf
    by_cases s0 : x.1.sort = 0 <;> by_cases s1 : x.1.sort = 1 <;> simp [s0, s1] <;> omega
  · unfold tabOf at hr
    obtain ⟨i, _, rfl⟩ := List.mem_map.mp hr
    simp [rowOf]
  · have a := sy i j
    have b := sy j i
    cases z1 : (bh (tabOf pl wd) i j).isSome <;> cases z2 : (bh (tabOf pl wd) j i).isSome <;> simp_all
  · rw [bh_tab]
    cases z : beh pl wd i i with
    | none => rfl
    | some t =>
      obtain ⟨x, y, hx, hy, ne, _⟩ := beh_some z
      exact absurd rfl ne
  · rw [bh_tab] at ht
    obtain ⟨x, y, hx, hy, ne, m, rfl⟩ := beh_some ht
    have := (h x (List.mem_of_getElem? hx)).t0
    have := gap_nn x.1 y.1
    omega
/-! ### the wants -/
def manyI (xs : List Int) : Int := if drawI xs 4 4 = 0 then 5 else 1 + drawI xs 3 4
def turnsI (xs : List Int) (k : Nat) : Int := if drawI xs 70 6 = 0 then 1 + drawI xs (60 + (k : Int)) 60 else 1 + drawI xs (60 + (k : Int)) 12
def wtFirst (xs : List Int) (n : Nat) : Int := drawI xs 5 (n : Int)
def wtCount (xs : List Int) (n : Nat) : Nat := (if (n : Int) < manyI xs then (n : Int) else manyI xs).toNat
def noWay : WayD := ⟨0, "", 0, 0, 0, 0, 0⟩
def wtAt (xs : List Int) (ws : List WayD) (k : Nat) : WayD × Int := (ws.getD ((wtFirst xs ws.length + (k : Int)).fmod (ws.length : Int)).toNat noWay, turnsI xs k)
def wantsI (xs : List Int) (ws : List WayD) : WD := (List.range (wtCount xs ws.length)).map (wtAt xs ws)
theorem many_in (xs : List Int) : 1 ≤ manyI xs ∧ manyI xs ≤ 5 := by
  have h1 := draw_lo (xs := xs) (k := 3) (many := 4) (by decide)
  have h2 := draw_hi (xs := xs) (k := 3) (many := 4) (by decide)
  unfold manyI
  split <;> omega
theorem turns_in (xs : List Int) (k : Nat) : 1 ≤ turnsI xs k := by
  have h1 := draw_lo (xs := xs) (k := 60 + (k : Int)) (many := 60) (by decide)
  have h2 := draw_lo (xs := xs) (k := 60 + (k : Int)) (many := 12) (by decide)
  unfold turnsI
  split <;> omega
theorem count_in (xs : List Int) {n : Nat} (h : 1 ≤ n) : 1 ≤ wtCount xs n ∧ wtCount xs n ≤ 5 ∧ wtCount xs n ≤ n := by
  obtain ⟨a, b⟩ := many_in xs
  unfold wtCount
  split <;> omega
theorem wt_idx (xs : List Int) {n : Nat} (h : 1 ≤ n) (k : Nat) : ((wtFirst xs n + (k : Int)).fmod (n : Int)).toNat < n := by
  have h1 := Int.fmod_lt_of_pos (wtFirst xs n + (k : Int)) (b := (n : Int)) (by omega)
  have h0 := Int.fmod_nonneg_of_pos (wtFirst xs n + (k : Int)) (b := (n : Int)) (by omega)
  omega
theorem wt_inj (xs : List Int) {n : Nat} (h : 1 ≤ n) {i j : Nat} (hi : i < n) (hj : j < n) (e : ((wtFirst xs n + (i : Int)).fmod (n : Int)).toNat = ((wtFirst xs n + (j : Int)).fmod (n : Int)).toNat) : i = j := by
  have h1 := Int.fmod_nonneg_of_pos (wtFirst xs n + (i : Int)) (b := (n : Int)) (by omega)
  have h2 := Int.fmod_nonneg_of_pos (wtFirst xs n + (j : Int)) (b := (n : Int)) (by omega)
  have e2 : (wtFirst xs n + (i : Int)).fmod (n : Int) = (wtFirst xs n + (j : Int)).fmod (n : Int) := by omega
  rw [fm (by omega), fm (by omega)] at e2
  have e3 := Int.emod_emod_of_dvd
  have e4 : ((wtFirst xs n + (i : Int)) - (wtFirst xs n + (j : Int))) % (n : Int) = 0 := by
    rw [Int.sub_emod, e2]
    simp
  have e5 : ((i : Int) - (j : Int)) % (n : Int) = 0 := by
    rw [← e4]
    congr 1
    omega
  obtain ⟨c, hc⟩ := Int.dvd_of_emod_eq_zero e5
  rcases Int.lt_trichotomy c 0 with z | z | z
  · have : (n : Int) * c ≤ (n : Int) * (-1) := Int.mul_le_mul_of_nonneg_left (by omega) (by omega)
    omega
  · subst z
    omega
  · have : (n : Int) * 1 ≤ (n : Int) * c := Int.mul_le_mul_of_nonneg_left (by omega) (by omega)
    omega
theorem nodup_get {α : Type} {l : List α} (h : l.Nodup) {i j : Nat} {x : α} (hi : l[i]? = some x) (hj : l[j]? = some x) : i = j := by
  obtain ⟨a, ea⟩ := List.getElem?_eq_some_iff.mp hi
  obtain ⟨b, eb⟩ := List.getElem?_eq_some_iff.mp hj
  have := (List.pairwise_iff_getElem.mp h)
  rcases Nat.lt_trichotomy i j with z | z | z
  · exact absurd (ea.trans eb.symm) (this i j a b z)
  · exact z
  · exact absurd (eb.trans ea.symm) (this j i b a z)
theorem isWay_of {ws : List WayD} (hn : (ws.map WayD.name).Nodup) {i : Nat} {w : WayD} (h : ws[i]? = some w) : IsWay ws w := by
  refine ⟨i, h, fun j v hj hv e => ?_⟩
  have := nodup_get hn (x := w.name) (i := j) (j := i) (by rw [List.getElem?_map, hv, ← e]; rfl) (by rw [List.getElem?_map, h]; rfl)
  omega
theorem wants_get {xs : List Int} {ws : List WayD} (h : 1 ≤ ws.length) {k : Nat} {x : WayD × Int} (hx : (wantsI xs ws)[k]? = some x) : k < wtCount xs ws.length ∧ x = wtAt xs ws k ∧ ws[((wtFirst xs ws.length + (k : Int)).fmod (ws.length : Int)).toNat]? = some x.1 := by
  unfold wantsI at hx
  rw [List.getElem?_map] at hx
  obtain ⟨c, hc, rfl⟩ := Option.map_eq_some_iff.mp hx
  obtain ⟨hk, e⟩ := List.getElem?_eq_some_iff.mp hc
  rw [List.getElem_range] at e
  subst e
  rw [List.length_range] at hk
  refine ⟨hk, rfl, ?_⟩
  have hi := wt_idx xs h k
  show _ = some (ws.getD _ noWay)
  rw [List.getD_eq_getElem?_getD, List.getElem?_eq_getElem hi]
  rfl
theorem wants_wt {xs : List Int} {ws : List WayD} {pl : Int} (h : 1 ≤ ws.length) (hw : ∀ w ∈ ws, WayW pl w) : ∀ x ∈ wantsI xs ws, WtOk pl x := by
  intro x hx
  obtain ⟨k, hk⟩ := List.mem_iff_getElem?.mp hx
  obtain ⟨_, e, hg⟩ := wants_get h hk
  refine ⟨hw _ (List.mem_of_getElem? hg), ?_⟩
  rw [e]
  exact turns_in xs k
theorem wants_ok {xs : List Int} {ws : List WayD} {pl : Int} (h : 1 ≤ ws.length) (hw : ∀ w ∈ ws, WayW pl w) (hn : (ws.map WayD.name).Nodup) (hp : pl ≤ 1000) : WantsOk pl ws (wantsI xs ws) := by
  refine ⟨hp, fun x hx => ?_, fun i j x y ne hx hy e => ?_, by simp [wantsI]; exact (count_in xs h).2.1⟩
  · obtain ⟨k, hk⟩ := List.mem_iff_getElem?.mp hx
    obtain ⟨_, _, hg⟩ := wants_get h hk
    exact ⟨isWay_of hn hg, (hw _ (List.mem_of_getElem? hg)).ok⟩
  · obtain ⟨ci, _, gi⟩ := wants_get h hx
    obtain ⟨cj, _, gj⟩ := wants_get h hy
    have := (count_in xs h).2.2
    have z := nodup_get hn (x := x.1.name) (by rw [List.getElem?_map, gi]; rfl) (by rw [List.getElem?_map, gj, e]; rfl)
    exact ne (wt_inj xs h (by omega) (by omega) z)
section
variable {P : Program} {w : World} {K : PySem.W.Frag} {mg : Str → Option Value} {base : Heap}
theorem ev_min2 {σ : L2.St} {H : Hp} {ta tb : TE} {i j : Int} (ha : Ev ta σ H (.int i)) (hb : Ev tb σ H (.int j)) : Ev (tCB (fun xs H Q => ∃ i j, xs = [.int i, .int j] ∧ Q (.int (if j < i then j else i)) H) (tCons ta (tCons tb tNil))) σ H (.int (if j < i then j else i)) := fun H1 e Q q =>
  ha H1 e _ fun H2 e2 => hb H2 (e.trans e2) _ fun H3 e3 => ⟨i, j, rfl, q H3 (e2.trans e3)⟩
def spWanted (K : PySem.W.Frag) : Sp := fun vs H Q _ => ∃ (a l : Addr) (xs : List Int) (as : List Addr) (ws : List WayD), vs = [.ref a, .ref l] ∧ ScrAt K xs a H ∧ H l = some (.lst (as.map V.ref)) ∧ AllAt TupAt H as ws ∧ 1 ≤ ws.length ∧ ws.length ≤ 12 ∧
  RetP (fun v H' => ∃ p, v = .ref p ∧ LWantsAt (wantsI xs ws) p H') H Q
theorem ok_law_wanted (T : TX K mg) : Fp P w K mg base 2 ("_law_wanted", none) ["_law_script", "_law_ways_here"] (spWanted K) := by
  refine Fp.of T.f_law_wanted sc_law_wanted (fun _ _ _ _ _ _ us hl => match us, hl with | [_, _], _ => rfl) (fun vs H Q E h => ?_) (fun cdv A outer s H vs Q E hr h => ?_)
  · obtain ⟨_, _, _, _, _, rfl, _⟩ := h; rfl
  · obtain ⟨a, wl, xs, as, ws, rfl, ha, hwl, has, h1, h12, k⟩ := h
    refine ⟨_, (pss_cons (ps_set (i := 2) sc_law_wanted.nd rfl (Or.inl rfl) (pe_op op_add pe_int (pe_f (ok_law_draw T) T.g_law_draw (hr.mono (by decide)) (pa_cons (pv 0) (pa_cons pe_int (pa_cons pe_int pa_nil))))))
  (pss_cons (ps_if (pt_cmpR op_eq (pe_f (ok_law_draw T) T.g_law_draw (hr.mono (by decide)) (pa_cons (pv 0) (pa_cons pe_int (pa_cons pe_int pa_nil)))) pe_int (nomark _)) (pss_one (ps_set (i := 2) sc_law_wanted.nd rfl (Or.inl rfl) pe_int)) pss_nil)
  (pss_cons (ps_set (i := 3) sc_law_wanted.nd rfl (Or.inl rfl) (pe_f (ok_law_draw T) T.g_law_draw (hr.mono (by decide)) (pa_cons (pv 0) (pa_cons pe_int (pa_cons (pe_callB call_len_seq (by rfl) T.free_len PySem.boot_len (pa_cons (pv 1) pa_nil)) pa_nil)))))
  (pss_cons (ps_set (i := 4) sc_law_wanted.nd rfl (Or.inl rfl) (pe_lst pa_nil))
  (pss_cons (ps_for PassesOwn.never rfl (pi_range1 (by rfl) T.free_range (pa_cons (pe_callB (call_min2 rfl) (by rfl) T.free_min (by decide +kernel) (pa_cons (pv 2) (pa_cons (pe_callB call_len_seq (by rfl) T.free_len PySem.boot_len (pa_cons (pv 1) pa_nil)) pa_nil))) pa_nil)) (pg_name (i := 5) sc_law_wanted.nd rfl (Or.inl rfl)) (pss_cons (ps_set (i := 6) sc_law_wanted.nd rfl (Or.inl rfl) (pe_op op_add pe_int (pe_f (ok_law_draw T) T.g_law_draw (hr.mono (by decide)) (pa_cons (pv 0) (pa_cons (pe_op op_add pe_int (pv 5)) (pa_cons pe_int pa_nil))))))
  (pss_cons (ps_if (pt_cmpR op_eq (pe_f (ok_law_draw T) T.g_law_draw (hr.mono (by decide)) (pa_cons (pv 0) (pa_cons pe_int (pa_cons pe_int pa_nil)))) pe_int (nomark _)) (pss_one (ps_set (i := 6) sc_law_wanted.nd rfl (Or.inl rfl) (pe_op op_add pe_int (pe_f (ok_law_draw T) T.g_law_draw (hr.mono (by decide)) (pa_cons (pv 0) (pa_cons (pe_op op_add pe_int (pv 5)) (pa_cons pe_int pa_nil))))))) pss_nil)
  (pss_one (ps_expr (pe_bm PySem.F.plainAttrs_list PySem.F.slot_list_append PySem.F.type_list_append mt_append (pv 4) (pa_cons (pe_tup (pa_cons (pe_ix ix_list (pv 1) (pe_op op_modN (pe_op op_add (pv 3) (pv 5)) (pe_callB call_len_seq (by rfl) T.free_len PySem.boot_len (pa_cons (pv 1) pa_nil))) (fun _ _ => rfl)) (pa_cons (pv 6) pa_nil))) pa_nil)))))))
  (pss_one (ps_ret (pv 4)))))))), ?_⟩
    have hz : (as.map V.ref).length = ws.length := by rw [List.length_map, has.1]
    obtain ⟨c1, c5, cn⟩ := count_in xs h1
    refine q_asg (v := .int (1 + drawI xs 3 4)) (ev_op ev_c (ev_draw (ea_cons (ev_var rfl) (ea_cons ev_c (ea_cons ev_c ea_nil))) ha (by decide) (by decide) (by decide)) rv_I0) fun H1 e1 => ?_
    refine q_ifAsg (v := .int (manyI xs)) (et_test (ev_op (ev_draw (ea_cons (ev_var rfl) (ea_cons ev_c (ea_cons ev_c ea_nil))) (ha.up e1) (by decide) (by decide) (by decide)) ev_c (rv_eq rfl))) (fun hb => ?_) (fun hb => ?_) fun H2 e2 => ?_
    · unfold manyI
      rw [if_pos (int_yes hb)]
      exact ev_c
    · unfold manyI
      rw [if_neg (int_no hb)]
      rfl
    have e12 := e1.trans e2
    refine q_asg (v := .int (wtFirst xs ws.length)) (ev_draw (ea_cons (ev_var rfl) (ea_cons ev_c (ea_cons (ev_is (ev_len (ev_var rfl) (SqL.lst (e12 _ _ hwl))) (by rw [hz])) ea_nil))) (ha.up e12) (by decide) (by decide) (by omega)) fun H3 e3 => ?_
    have e13 := e12.trans e3
    refine q_asgL (el_lst ea_nil (Nat.zero_le _)) fun l H4 hl3 e4 hl4 => ?_
    have e14 := e13.trans e4
    have hlH := fresh_back e13 hl3
    have hcnt : (if (ws.length : Int) < manyI xs then (ws.length : Int) else manyI xs) = (wtCount xs ws.length : Int) := by
      have := many_in xs
      unfold wtCount
      split <;> omega
    refine q_forR1 (n := (wtCount xs ws.length : Int)) (ea_cons (ev_is (ev_min2 (ev_var rfl) (ev_len (ev_var rfl) (SqL.lst (e14 _ _ hwl)))) (by rw [hz, hcnt])) ea_nil) (by omega) (fun m σ' H' => Ex H H' ∧ (∃ bs : List Addr, H' l = some (.lst (bs.map V.ref)) ∧ AllAt WTAt H' bs ((List.range m).map (wtAt xs ws))) ∧ ∃ x y, σ' = [some (.ref a), some (.ref wl), some (.int (manyI xs)), some (.int (wtFirst xs ws.length)), some (.ref l), x, y])
      (fun H5 e5 => ⟨e14.trans e5, ⟨[], e5 _ _ hl4, AllAt.nil⟩, none, none, rfl⟩) (fun m σ' H' hm hP => ?_) (fun σ' H' hP => ?_)
    · obtain ⟨e0, ⟨bs, hl0, hbs⟩, x, y, rfl⟩ := hP
      refine q_asg (v := .int (1 + drawI xs (60 + (m : Int)) 12)) (ev_op ev_c (ev_draw (ea_cons (ev_var rfl) (ea_cons (ev_op ev_c (ev_var rfl) rv_I0) (ea_cons ev_c ea_nil))) (ha.up e0) (by omega) (by omega) (by decide)) rv_I0) fun H5 e5 => ?_
      have e05 := e0.trans e5
      refine q_ifAsg (v := .int (turnsI xs m)) (et_test (ev_op (ev_draw (ea_cons (ev_var rfl) (ea_cons ev_c (ea_cons ev_c ea_nil))) (ha.up e05) (by decide) (by decide) (by decide)) ev_c (rv_eq rfl))) (fun hb => ?_) (fun hb => ?_) fun H6 e6 => ?_
      · unfold turnsI
        rw [if_pos (int_yes hb)]
        exact ev_op ev_c (ev_draw (ea_cons (ev_var rfl) (ea_cons (ev_op ev_c (ev_var rfl) rv_I0) (ea_cons ev_c ea_nil))) (ha.up e05) (by omega) (by omega) (by decide)) rv_I0
      · unfold turnsI
        rw [if_neg (int_no hb)]
        rfl
      have e56 := e5.trans e6
      have e06 := e0.trans e56
      have hi := wt_idx xs h1 m
      have h0 := Int.fmod_nonneg_of_pos (wtFirst xs ws.length + (m : Int)) (b := (ws.length : Int)) (by omega)
      have hwy : ws[((wtFirst xs ws.length + (m : Int)).fmod (ws.length : Int)).toNat]? = some (wtAt xs ws m).1 := by
        show _ = some (ws.getD _ noWay)
        rw [List.getD_eq_getElem?_getD, List.getElem?_eq_getElem hi]
        rfl
      obtain ⟨b, hb, hbt⟩ := has.get hwy
      have hl6 := e56 _ _ hl0
      refine s_appU hl6 (ev_var rfl) (eu_tup (ea_cons (ev_op (ev_var rfl) (ev_op (ev_op (ev_var rfl) (ev_var rfl) rv_I0) (ev_is (ev_len (ev_var rfl) (SqL.lst (e06 _ _ hwl))) (by rw [hz])) (rv_mod (by omega))) (rv_ixL (v := .ref b) (SqL.lst (e06 _ _ hwl)) (by
        rw [show (wtFirst xs ws.length + (m : Int)).fmod (ws.length : Int) = ((((wtFirst xs ws.length + (m : Int)).fmod (ws.length : Int)).toNat : Nat) : Int) by omega]
        exact atI_nat (by rw [List.getElem?_map, hb]; rfl)))) (ea_cons (ev_var rfl) ea_nil)) (show 2 ≤ 100000 by decide)) (by rw [List.length_map, hbs.1]; simp; omega) fun p H7 _ e7 hp => ?_
      have hl7 := e7 _ _ hl6
      refine ⟨Ex.mut (e06.trans e7) hlH, ⟨bs ++ [p], ?_, ?_⟩, _, _, rfl⟩
      · rw [upd_same, List.map_append]
        rfl
      · rw [List.range_succ, List.map_append]
        exact ((hbs.imp fun _ _ r => WTAt.tup.up (e56.trans e7) r).snoc (x := wtAt xs ws m) ⟨b, hp, TupAt.tup.up (e06.trans e7) hbt⟩).tups WTAt.tup (tups_upd hl7)
    · obtain ⟨e0, ⟨bs, hl0, hbs⟩, x, y, rfl⟩ := hP
      rw [Int.toNat_natCast] at hbs
      exact s_ret (ev_var rfl) fun H5 e5 => k _ H5 (e0.trans e5) ⟨l, rfl, bs, e5 _ _ hl0, hbs.imp fun _ _ r => WTAt.tup.up e5 r⟩
end
end Lw


set_option Elab.async false
set_option linter.all false
set_option maxRecDepth 100000
set_option maxHeartbeats 4000000
namespace Lw
open PySem PySem.Spec PyProof.Rows L2 Evl TL
theorem rv_notN {x : V} {H : Hp} : RV (fun x y H Q => y = V.non ∧ Q (V.bl (!decide (x = V.non))) H) x .non H (.bl (!decide (x = .non))) := fun H3 _ Q q => ⟨rfl, q H3 (Ex.refl _)⟩
theorem rv_isN {x : V} {H : Hp} : RV (fun x y H Q => y = V.non ∧ Q (V.bl (decide (x = V.non))) H) x .non H (.bl (decide (x = .non))) := fun H3 _ Q q => ⟨rfl, q H3 (Ex.refl _)⟩
/-! ### pairs in a list -/
def PairAt (p : Nat × Nat) (a : Addr) (H : Hp) : Prop := H a = some (.tup [.int (p.1 : Int), .int (p.2 : Int)])
theorem PairAt.tup : TupR PairAt := fun _ _ _ _ h r => h _ _ trivial r
def PairsAt (o : Ord) (l : Addr) (H : Hp) : Prop := ∃ as : List Addr, H l = some (.lst (as.map V.ref)) ∧ AllAt PairAt H as o
theorem PairsAt.up {o : Ord} {l : Addr} {H H' : Hp} (h : PairsAt o l H) (e : Ex H H') : PairsAt o l H' := let ⟨as, h1, h2⟩ := h; ⟨as, e _ _ h1, h2.imp fun _ _ r => PairAt.tup.up e r⟩
def pD (p : Nat × Nat) : PyData := .tuple [.int (p.1 : Int), .int (p.2 : Int)]
theorem AllAt.tail {α : Type} {R : α → Addr → Hp → Prop} {H : Hp} {a : Addr} {x : α} {as : List Addr} {xs : List α} (h : AllAt R H (a :: as) (x :: xs)) : R x a H ∧ AllAt R H as xs :=
  ⟨h.2 0 a x rfl rfl, by have := h.1; simpa using this, fun i b y hb hy => h.2 (i + 1) b y hb hy⟩
theorem dp_pair {K : PySem.W.Frag} {H : Hp} {p : Nat × Nat} {a : Addr} (h : PairAt p a H) : Dp K H (.ref a) (pD p) := .tup (SqT.tup h) (.cons (.int _) (.cons (.int _) .nil))
theorem dp_pairs {K : PySem.W.Frag} {H : Hp} : ∀ {as : List Addr} {o : Ord}, AllAt PairAt H as o → DpAll K H (as.map V.ref) (o.map pD)
  | [], [], _ => .nil
  | [], _ :: _, h => by have := h.1; cases this
  | _ :: _, [], h => by have := h.1; cases this
  | a :: as, p :: o, h => .cons (dp_pair h.tail.1) (dp_pairs h.tail.2)
theorem pD_lay : ∀ o : Ord, PyData.canLayAll0 (o.map pD) = true
  | [] => by simp [PyData.canLayAll0]
  | p :: o => by
    have := pD_lay o
    simp [PyData.canLayAll0, PyData.canLay0, pD] at *
    exact this
theorem pD_depth : ∀ o : Ord, PyData.depthAll (o.map pD) ≤ 1
  | [] => by simp [PyData.depthAll]
  | p :: o => by
    have := pD_depth o
    simp [PyData.depthAll, PyData.depth, pD] at *
    omega
theorem pD_shaped (p : Nat × Nat) : SeqAt.shaped (pD p) = true := by
  simp [SeqAt.shaped, PyData.canLay0, PyData.canLayAll0, PyData.depth, PyData.depthAll, pD]
theorem pDs_shaped (o : Ord) : SeqAt.shaped (.list (o.map pD)) = true := by
  unfold SeqAt.shaped
  rw [Bool.and_eq_true_iff]
  constructor
  · rw [PyData.canLay0]
    exact pD_lay o
  · rw [decide_eq_true_eq, PyData.depth]
    have := pD_depth o
    omega
theorem pD_eqv (p q : Nat × Nat) : PyData.eqv (pD p) (pD q) = decide (q = p) := by
  obtain ⟨a, b⟩ := p
  obtain ⟨c, d⟩ := q
  have e : PyData.eqv (pD (a, b)) (pD (c, d)) = (((a : Int) == (c : Int)) && (((b : Int) == (d : Int)) && true)) := by
    unfold pD
    simp only [PyData.eqv, PyData.eqvAll]
  rw [e]
  by_cases h1 : a = c <;> by_cases h2 : b = d
  · subst h1 h2; simp
  · have h3 : ¬ (b : Int) = (d : Int) := by omega
    have h4 : ¬ d = b := by omega
    simp [h3, h4]
  · have h3 : ¬ (a : Int) = (c : Int) := by omega
    have h4 : ¬ c = a := by omega
    simp [h3, h4]
  · have h3 : ¬ (a : Int) = (c : Int) := by omega
    have h4 : ¬ c = a := by omega
    simp [h3, h4]
theorem pD_any (p : Nat × Nat) : ∀ o : Ord, ((o.map pD).any fun z => PyData.eqv z (pD p)) = o.contains p
  | [] => rfl
  | q :: o => by
    rw [List.map_cons, List.any_cons, pD_any p o, pD_eqv, List.contains_cons]
    congr 1
    by_cases h : p = q <;> simp [h]
section
variable {K : PySem.W.Frag} {σ : L2.St} {H : Hp} {ta tb tl : TE} {o : Ord} {l : Addr} {i j : Int}
theorem ev_inP (p : Nat × Nat) (ha : Ev ta σ H (.int i)) (hb : Ev tb σ H (.int j)) (hl : Ev tl σ H (.ref l)) (ho : PairsAt o l H) (hi : i = (p.1 : Int)) (hj : j = (p.2 : Int)) : Ev (tOp (rInD K) (tTup (tCons ta (tCons tb tNil))) tl) σ H (.bl (o.contains p)) := by
  subst hi hj
  refine fun H1 e1 Q q => (eu_tup (ea_cons ha (ea_cons hb ea_nil)) (show 2 ≤ 100000 by decide)) H1 e1 _ fun b H2 _ e2 hp => hl H2 (e1.trans e2) _ fun H3 e3 => ?_
  obtain ⟨as, h1, h2⟩ := ho.up ((e1.trans e2).trans e3)
  refine ⟨pD p, o.map pD, dp_pair (show PairAt p b H3 from e3 _ _ hp), .lst (SqL.lst h1) (dp_pairs h2), pD_shaped p, pDs_shaped o, ?_⟩
  rw [pD_any]
  exact q H3 (e2.trans e3)
theorem ev_niP (p : Nat × Nat) (ha : Ev ta σ H (.int i)) (hb : Ev tb σ H (.int j)) (hl : Ev tl σ H (.ref l)) (ho : PairsAt o l H) (hi : i = (p.1 : Int)) (hj : j = (p.2 : Int)) : Ev (tOp (rNotInD K) (tTup (tCons ta (tCons tb tNil))) tl) σ H (.bl (!o.contains p)) := by
  subst hi hj
  refine fun H1 e1 Q q => (eu_tup (ea_cons ha (ea_cons hb ea_nil)) (show 2 ≤ 100000 by decide)) H1 e1 _ fun b H2 _ e2 hp => hl H2 (e1.trans e2) _ fun H3 e3 => ?_
  obtain ⟨as, h1, h2⟩ := ho.up ((e1.trans e2).trans e3)
  refine ⟨pD p, o.map pD, dp_pair (show PairAt p b H3 from e3 _ _ hp), .lst (SqL.lst h1) (dp_pairs h2), pD_shaped p, pDs_shaped o, ?_⟩
  rw [pD_any]
  exact q H3 (e2.trans e3)
end
section
variable {P : Program} {w : World} {K : PySem.W.Frag} {mg : Str → Option Value} {base : Heap}
theorem sp_behind {a : Addr} {wd : WD} {i j : Nat} {pl : Int} {H : Hp} {v : V} (h : LWantsAt wd a H) (hi : i < wd.length) (hj : j < wd.length) (hp : 0 < pl) (hv : v = optV (bh (tabOf pl wd) i j)) : SpV spBehind [.ref a, .int (i : Int), .int (j : Int), .int pl] H v := fun H1 e Q q _ => ⟨a, wd, i, j, pl, rfl, h.up e, hi, hj, hp, by
  rw [hv, bh_tab] at q
  exact q⟩
def spAhead : Sp := fun vs H Q _ => ∃ (a : Addr) (wd : WD) (pl : Int), vs = [.ref a, .int pl] ∧ LWantsAt wd a H ∧ 0 < pl ∧ 1 ≤ wd.length ∧ wd.length ≤ 5 ∧ RetP (fun v H' => ∃ l, v = .ref l ∧ PairsAt (firstN (tabOf pl wd) wd.length) l H') H Q
theorem bh_00 (pl : Int) (wd : WD) (i : Nat) : bh (tabOf pl wd) i i = none := by
  rw [bh_tab]
  cases z : beh pl wd i i with
  | none => rfl
  | some t =>
    obtain ⟨x, y, hx, hy, ne, _⟩ := beh_some z
    exact absurd rfl ne
theorem ok_law_ahead (T : TX K mg) : Fp P w K mg base 3 ("_law_ahead", none) ["_law_wanted_here", "_law_places_here"] spAhead := by
  refine Fp.of T.f_law_ahead sc_law_ahead (fun _ _ _ _ _ _ us hl => match us, hl with | [_, _], _ => rfl) (fun vs H Q E h => ?_) (fun cdv A outer s H vs Q E hr h => ?_)
  · obtain ⟨_, _, _, rfl, _⟩ := h; rfl
  · obtain ⟨a, wd, pl, rfl, ha, hp, h1, h5, k⟩ := h
    refine ⟨_, (pss_one (ps_ret (pe_lc (own := [("_law_j", 2)]) (g := gName 2) rfl sc_law_ahead.nd (pi_range2 (by rfl) T.free_range (pa_cons pe_int (pa_cons (pe_callB call_len_seq (by rfl) T.free_len PySem.boot_len (pa_cons (pv 0) pa_nil)) pa_nil))) (blkOk_by (own := [("_law_j", 2)]) (N := N_law_ahead) (sc := defScope s_law_ahead) (by decide +kernel)) (fun _ _ _ _ _ => pg_name (i := 2) sc_law_ahead.nd rfl (Or.inl rfl)) (fun _ _ _ _ _ => pts_one (pt_cmpR op_notN (pe_f (ok_law_behind T) T.g_law_behind (hr.mono (by decide)) (pa_cons (pv 0) (pa_cons pe_int (pa_cons (pv 2) (pa_cons (pv 1) pa_nil))))) pe_non (nomark _))) (fun _ _ _ _ _ => (pe_tup (pa_cons pe_int (pa_cons (pv 2) pa_nil))))))), ?_⟩
    obtain ⟨ll, hll, hllen⟩ := LWantsAt.len (K := K) ha
    generalize hB : tabOf pl wd = B at *
    have hf1 : firstN B 1 = [] := by
      rw [firstN_snoc, ← hB, bh_00]
      rfl
    refine s_retP (ep_lcR2 (lo := 1) (n := (wd.length : Int)) (fun i acc Dl H' => ∃ as : List Addr, acc = as.map V.ref ∧ AllAt PairAt H' as (firstN B (1 + i))) (fun i => (bh B 0 (1 + i)).isSome)
      ⟨fun Dl H1 => ⟨[], rfl, by rw [hf1]; exact AllAt.nil⟩, fun i acc Dl H1 H2 e ⟨as, h1, h2⟩ => ⟨as, h1, h2.imp fun _ _ r => PairAt.tup.up e r⟩, fun i acc Dl H1 h ⟨as, h1, h2⟩ => ⟨as, h1, by
        rw [show 1 + (i + 1) = (1 + i) + 1 by omega, firstN_snoc, h]
        simpa using h2⟩, fun i acc Dl H1 ⟨as, h1, h2⟩ => (by
        have : ∀ c, (firstN B (1 + c)).length ≤ c := fun c => by
          induction c with
          | zero => rw [hf1]; exact Nat.le_refl _
          | succ c ih =>
            rw [show 1 + (c + 1) = (1 + c) + 1 by omega, firstN_snoc, List.length_append]
            split <;> simp <;> omega
        rw [h1, List.length_map, h2.1]
        exact this i)⟩
      (ea_cons ev_c (ea_cons (ev_is (ev_len (ev_var rfl) hll) (by rw [hllen])) ea_nil)) (by omega) (fun _ => rfl) (fun i H2 e2 hi => ?_) (fun i H2 e2 hi hf acc Dl H3 e3 hD ⟨as, ha1, ha2⟩ => ?_)) fun v H2 e2 r => ?_
    · have c0 : (1 : Int) + (i : Int) = ((1 + i : Nat) : Int) := by omega
      rw [c0]
      refine et_is (et_test (ev_op (ev_callV (z := optV (bh B 0 (1 + i))) (ea_cons (ev_var rfl) (ea_cons ev_c (ea_cons (ev_var rfl) (ea_cons (ev_var rfl) ea_nil)))) (sp_behind (i := 0) (ha.up e2) (by omega) (by omega) hp (by rw [hB]))) ev_c rv_notN)) ?_
      cases bh B 0 (1 + i) with
      | none => rfl
      | some t => simp [optV]
    · have c0 : (1 : Int) + (i : Int) = ((1 + i : Nat) : Int) := by omega
      rw [c0]
      intro H5 e5 Q q
      refine (eu_tup (ea_cons ev_c (ea_cons (ev_var rfl) ea_nil)) (show 2 ≤ 100000 by decide) : EvU _ _ H3 [.int 0, .int ((1 + i : Nat) : Int)]) H5 e5 _ fun b H6 hb e6 h6 => q _ H6 e6 ⟨as ++ [b], by rw [ha1, List.map_append]; rfl, ?_⟩
      have hf2 : (bh B 0 (1 + i)).isSome = true := hf
      rw [show 1 + (i + 1) = (1 + i) + 1 by omega, firstN_snoc, if_pos hf2]
      have hD6 : H6 Dl = some (.lst acc) := e6 _ _ (e5 _ _ hD)
      exact ((ha2.imp fun _ _ r => PairAt.tup.up (e5.trans e6) r).snoc (x := (0, 1 + i)) h6).tups PairAt.tup (tups_upd hD6)
    · obtain ⟨l, acc, rfl, _, hl, as, rfl, has⟩ := r
      have : 1 + ((wd.length : Int) - 1).toNat = wd.length := by omega
      rw [this] at has
      exact k _ H2 e2 ⟨l, rfl, as, hl, has⟩
/-- t.count(i) -/
theorem ev_cnt {σ : L2.St} {H : Hp} {to te : TE} {p : Addr} {ns : List Int} {i : Int} (h : Ev to σ H (.ref p)) (hs : KnT (ns.map V.int) p H) (hi : Ev te σ H (.int i)) : Ev (tCntF K to (tCons te tNil)) σ H (.int (ns.count i : Nat)) := fun H1 e Q q =>
  h H1 e _ fun H2 e2 => ⟨let ⟨o, h1, h2⟩ := hs.up (e.trans e2); ⟨p, o, _, rfl, h2, h1⟩, hi H2 (e.trans e2) _ fun H3 e3 => ⟨p, ns, i, rfl, rfl, (hs.up ((e.trans e2).trans e3)).sq, q H3 (e2.trans e3)⟩⟩
end
end Lw


set_option Elab.async false
set_option linter.all false
set_option maxRecDepth 100000
set_option maxHeartbeats 4000000
namespace Lw
open PySem PySem.Spec PyProof.Rows L2 Evl TL
theorem count_nd : ∀ {ring : List Nat}, ring.Nodup → ∀ i : Nat, (ring.map fun k : Nat => (k : Int)).count (i : Int) ≤ 1
  | [], _, i => by simp
  | a :: r, h, i => by
    obtain ⟨h1, h2⟩ := List.nodup_cons.mp h
    have ih := count_nd h2 i
    rw [List.map_cons, List.count_cons]
    by_cases e : a = i
    · subst e
      have : (r.map fun k : Nat => (k : Int)).count (a : Int) = 0 := by
        rw [List.count_eq_zero]
        intro z
        obtain ⟨b, hb, e⟩ := List.mem_map.mp z
        have : b = a := by omega
        exact h1 (this ▸ hb)
      rw [this]
      split <;> omega
    · have : ((a : Int) == (i : Int)) = false := by simp; omega
      rw [this]
      simpa using ih
theorem natV_cast (ring : List Nat) : (ring.map fun k : Nat => (k : Int)).map V.int = natV ring := by
  unfold natV
  rw [List.map_map]
  rfl
theorem rrF_le {o : Ord} {ring : List Nat} : ∀ {m r : Nat}, rrF o ring m = some r → r ≤ m
  | 0, r, h => by
    have : 0 = r := Option.some.inj h
    omega
  | m + 1, r, h => by
    have h2 : (match rrF o ring m with | none => none | some r => if (nxt ring m, ring.getD m 0) ∈ o then some (r + 1) else if (ring.getD m 0, nxt ring m) ∈ o then some r else none) = some r := h
    cases hq : rrF o ring m with
    | none => rw [hq] at h2; cases h2
    | some q =>
      have ih := rrF_le hq
      rw [hq] at h2
      have h3 : (if (nxt ring m, ring.getD m 0) ∈ o then some (q + 1) else if (ring.getD m 0, nxt ring m) ∈ o then some q else none) = some r := h2
      split at h3
      · have := Option.some.inj h3
        omega
      · split at h3
        · have := Option.some.inj h3
          omega
        · cases h3
section
variable {P : Program} {w : World} {K : PySem.W.Frag} {mg : Str → Option Value} {base : Heap}
abbrev GoodW (pl : Int) (wd : WD) : Prop := Good wd.length (wd.map aloneOf) (tabOf pl wd)
def spRingB : Sp := fun vs H Q _ => ∃ (a t l : Addr) (wd : WD) (pl size : Int) (ring : List Nat) (o : Ord), vs = [.ref a, .int pl, .int size, .ref t, .ref l] ∧ LWantsAt wd a H ∧ 0 < pl ∧ NatAt ring t H ∧ PairsAt o l H ∧ GoodW pl wd ∧ OrdOk (tabOf pl wd) o ∧ (∀ k ∈ ring, k < wd.length) ∧ ring.Nodup ∧ RetV (.bl (ringBears (tabOf pl wd) size ring o)) H Q
theorem ok_law_ring_bears (T : TX K mg) : Fp P w K mg base 3 ("_law_ring_bears", none) ["_law_wanted_here", "_law_places_here", "_law_size", "_law_ring", "_law_ahead_here"] spRingB := by
  refine Fp.of T.f_law_ring_bears sc_law_ring_bears (fun _ _ _ _ _ _ us hl => match us, hl with | [_, _, _, _, _], _ => rfl) (fun vs H Q E h => ?_) (fun cdv A outer s H vs Q E hr h => ?_)
  · obtain ⟨_, _, _, _, _, _, _, _, rfl, _⟩ := h; rfl
  · obtain ⟨a, t, l, wd, pl, size, ring, o, rfl, ha, hp, ht, hl, g, ok, hlt, hnd, k⟩ := h
    refine ⟨_, (pss_cons (ps_set (i := 5) sc_law_ring_bears.nd rfl (Or.inl rfl) pe_int)
  (pss_cons (ps_set (i := 6) sc_law_ring_bears.nd rfl (Or.inl rfl) pe_int)
  (pss_cons (ps_for PassesOwn.never rfl (pi_range1 (by rfl) T.free_range (pa_cons (pe_callB call_len_seq (by rfl) T.free_len PySem.boot_len (pa_cons (pv 3) pa_nil)) pa_nil)) (pg_name (i := 7) sc_law_ring_bears.nd rfl (Or.inl rfl)) (pss_cons (ps_set (i := 8) sc_law_ring_bears.nd rfl (Or.inl rfl) (pe_ix ix_tup (pv 3) (pv 7) (fun _ _ => rfl)))
  (pss_cons (ps_set (i := 9) sc_law_ring_bears.nd rfl (Or.inl rfl) (pe_ix ix_tup (pv 3) (pe_op op_modN (pe_op op_add (pv 7) pe_int) (pe_callB call_len_seq (by rfl) T.free_len PySem.boot_len (pa_cons (pv 3) pa_nil))) (fun _ _ => rfl)))
  (pss_cons (ps_if (PW.pt (pw_or (pt_cmpR op_gt (pe_tcnt (pv 3) (pa_cons (pv 8) pa_nil)) pe_int (nomark _)) (pw_or (pt_cmpR op_lt (pe_callB call_len_seq (by rfl) T.free_len PySem.boot_len (pa_cons (pv 3) pa_nil)) pe_int (nomark _)) (pw_or1 (PW.pt (pw_and (pt_cmpR (op_notInD (hu65 hr)) (pe_tup (pa_cons (pv 8) (pa_cons (pv 9) pa_nil))) (pv 4) rfl) (pw_and1 (pt_cmpR (op_notInD (hu65 hr)) (pe_tup (pa_cons (pv 9) (pa_cons (pv 8) pa_nil))) (pv 4) rfl)))))))) (pss_one (ps_ret pe_bl)) pss_nil)
  (pss_cons (ps_set (i := 5) sc_law_ring_bears.nd rfl (Or.inl rfl) (pe_op op_add (pv 5) (pe_f (ok_law_behind T) T.g_law_behind (hr.mono (by decide)) (pa_cons (pv 0) (pa_cons (pv 8) (pa_cons (pv 9) (pa_cons (pv 1) pa_nil)))))))
  (pss_one (ps_if (pt_cmpR (op_inD (hu65 hr)) (pe_tup (pa_cons (pv 9) (pa_cons (pv 8) pa_nil))) (pv 4) rfl) (pss_one (ps_set (i := 6) sc_law_ring_bears.nd rfl (Or.inl rfl) (pe_op op_add (pv 6) pe_int))) pss_nil)))))))
  (pss_one (ps_ret (pe_and (pe_cmpR op_gt (pe_callB call_len_seq (by rfl) T.free_len PySem.boot_len (pa_cons (pv 3) pa_nil)) pe_int (nomark _)) (pe_one (pe_cmpR op_gt (pv 5) (pe_op op_mul (pv 2) (pv 6)) (nomark _))))))))), ?_⟩
    have g5 := g.n5
    have hrl : ring.length ≤ wd.length := by
      have := List.Nodup.length_le_of_subset (l₂ := List.range wd.length) hnd fun x hx => List.mem_range.mpr (hlt x hx)
      rwa [List.length_range] at this
    have t_ : ∀ H1, Ex H H1 → SqT K H1 t (natV ring) := fun H1 e => (ht.up e).sq
    refine q_asg ev_c fun H1 e1 => ?_
    refine q_asg ev_c fun H2 e2 => ?_
    have e12 := e1.trans e2
    refine q_forR1 (n := (ring.length : Int)) (ea_cons (ev_is (ev_lenT (ev_var rfl) (t_ H2 e12)) (by rw [natV_len])) ea_nil) (by omega)
      (fun m σ' H' => Ex H H' ∧ ∃ r : Nat, rrF o ring m = some r ∧ ∃ x y z, σ' = [some (.ref a), some (.int pl), some (.int size), some (.ref t), some (.ref l), some (.int (rtF (tabOf pl wd) ring m)), some (.int (r : Int)), x, y, z])
      (fun H3 e3 => ⟨e12.trans e3, 0, rfl, none, none, none, rfl⟩) (fun m σ' H' hm hP => ?_) (fun σ' H' hP => ?_)
    · obtain ⟨e0, r, er, x, y, z, rfl⟩ := hP
      have hm' : m < ring.length := by omega
      refine q_asg (v := .int ((ring.getD m 0 : Nat) : Int)) (ev_op (ev_var rfl) (ev_var rfl) (rv_ixT (t_ H' e0) (atI_nat (natV_get hm')))) fun H3 e3 => ?_
      have e03 := e0.trans e3
      refine q_asg (ev_nxt (t_ H3 e03) hm' (ev_var rfl) (ev_var rfl)) fun H4 e4 => ?_
      have e04 := e03.trans e4
      have hil : ring.getD m 0 < wd.length := hlt _ (by
        rw [List.getD_eq_getElem?_getD, List.getElem?_eq_getElem hm']
        exact List.getElem_mem _)
      have hjl : nxt ring m < wd.length := hlt _ (by
        have : (m + 1) % ring.length < ring.length := Nat.mod_lt _ (by omega)
        unfold nxt
        rw [List.getD_eq_getElem?_getD, List.getElem?_eq_getElem this]
        exact List.getElem_mem _)
      have hs : rrF o ring (m + 1) = if (nxt ring m, ring.getD m 0) ∈ o then some (r + 1) else if (ring.getD m 0, nxt ring m) ∈ o then some r else none := by
        show (match rrF o ring m with | none => none | some r => _) = _
        rw [er]
      refine q_when (et_or (et_test (ev_op (ev_cnt (ns := ring.map fun k : Nat => (k : Int)) (i := ((ring.getD m 0 : Nat) : Int)) (ev_var rfl) (by rw [natV_cast]; exact ht.up e04) (ev_var rfl)) ev_c rv_I0)) (fun _ => et_or (et_test (ev_op (ev_lenT (ev_var rfl) (t_ H4 e04)) ev_c rv_I0)) (fun _ => et_and (et_test (ev_niP (ring.getD m 0, nxt ring m) (ev_var rfl) (ev_var rfl) (ev_var rfl) (hl.up e04) rfl rfl)) (fun _ => et_test (ev_niP (nxt ring m, ring.getD m 0) (ev_var rfl) (ev_var rfl) (ev_var rfl) (hl.up e04) rfl rfl))))) (fun hb H5 e5 => ?_) (fun hb H5 e5 => ?_)
      · have hz : ringBears (tabOf pl wd) size ring o = false := by
          unfold ringBears
          rcases Bool.or_eq_true_iff.mp hb with c | c
          · have := of_decide_eq_true c
            have := count_nd hnd (ring.getD m 0)
            omega
          · rcases Bool.or_eq_true_iff.mp c with c | c
            · have := of_decide_eq_true c
              rw [natV_len] at this
              have : ¬ ring.length > 1 := by omega
              simp [this]
            · obtain ⟨c1, c2⟩ := Bool.and_eq_true_iff.mp c
              have n1 : (ring.getD m 0, nxt ring m) ∉ o := by simpa using c1
              have n2 : (nxt ring m, ring.getD m 0) ∉ o := by simpa using c2
              rw [if_neg n2, if_neg n1] at hs
              have hno : ringRounds o ring = none := by
                have := rr_none hs (ring.length - (m + 1))
                rw [show m + 1 + (ring.length - (m + 1)) = ring.length by omega] at this
                exact this
              rw [hno]
              simp
        rw [hz] at k
        exact s_ret ev_c fun H6 e6 => k _ ((e04.trans e5).trans e6)
      · have hor : (ring.getD m 0, nxt ring m) ∈ o ∨ (nxt ring m, ring.getD m 0) ∈ o := by
          have c := (Bool.or_eq_false_iff.mp (Bool.or_eq_false_iff.mp hb).2).2
          rcases Bool.and_eq_false_iff.mp c with c | c
          · left; simpa using c
          · right; simpa using c
        have hadj : (bh (tabOf pl wd) (ring.getD m 0) (nxt ring m)).isSome = true := by
          rcases hor with c | c
          · exact ok.meets _ _ c
          · rw [g.sym]
            exact ok.meets _ _ c
        obtain ⟨tt, htt⟩ := Option.isSome_iff_exists.mp hadj
        have e05 := e04.trans e5
        refine q_asg (ev_op (ev_var rfl) (ev_callV (ea_cons (ev_var rfl) (ea_cons (ev_var rfl) (ea_cons (ev_var rfl) (ea_cons (ev_var rfl) ea_nil)))) (sp_behind (v := .int tt) (ha.up e05) hil hjl hp (by rw [htt]; rfl))) rv_I0) fun H6 e6 => ?_
        have e06 := e05.trans e6
        have hrt : rtF (tabOf pl wd) ring (m + 1) = rtF (tabOf pl wd) ring m + tt := by
          show _ + bi (tabOf pl wd) _ _ = _
          unfold bi
          rw [htt]
          rfl
        refine s_when (et_test (ev_inP (nxt ring m, ring.getD m 0) (ev_var rfl) (ev_var rfl) (ev_var rfl) (hl.up e06) rfl rfl)) (fun hc H7 e7 => ?_) (fun hc H7 e7 => ?_)
        · have hin : (nxt ring m, ring.getD m 0) ∈ o := by simpa using hc
          rw [if_pos hin] at hs
          refine s_asg (ev_op (ev_var rfl) ev_c rv_I0) fun H8 e8 => ⟨(e06.trans e7).trans e8, r + 1, hs, some (.int (m : Int)), some (.int ((ring.getD m 0 : Nat) : Int)), some (.int ((nxt ring m : Nat) : Int)), ?_⟩
          rw [hrt]
          rfl
        · have hin : (nxt ring m, ring.getD m 0) ∉ o := by simpa using hc
          rw [if_neg hin, if_pos (hor.resolve_right hin)] at hs
          refine ⟨e06.trans e7, r, hs, some (.int (m : Int)), some (.int ((ring.getD m 0 : Nat) : Int)), some (.int ((nxt ring m : Nat) : Int)), ?_⟩
          rw [hrt]
          rfl
    · obtain ⟨e0, r, er, x, y, z, rfl⟩ := hP
      rw [Int.toNat_natCast] at er
      have hrr : ringRounds o ring = some r := er
      have hr5 := rrF_le er
      refine s_ret (ev_is (ev_andV (ev_op (ev_lenT (ev_var rfl) (t_ H' e0)) ev_c rv_I0) (fun _ => ev_op (ev_var rfl) (ev_op (ev_var rfl) (ev_var rfl) (rv_mul (by omega))) rv_I0)) ?_) fun H3 e3 => k _ (e0.trans e3)
      unfold ringBears
      rw [hrr, natV_len, Int.toNat_natCast]
      congr 1
      show (decide ((ring.length : Int) > 1) && decide (rtF (tabOf pl wd) ring ring.length > size * (r : Int))) = (decide (ring.length > 1) && decide (ringTurns (tabOf pl wd) ring > size * (r : Int)))
      congr 1
      rw [decide_eq_decide]
      omega
end
end Lw


set_option Elab.async false
set_option linter.all false
set_option maxRecDepth 100000
set_option maxHeartbeats 4000000
namespace Lw
open PySem PySem.Spec PyProof.Rows L2 Evl TL
def ppD : Pp → Nat
  | .alone _ => 0
  | .ring _ => 0
  | .case _ _ p q => (if ppD p ≤ ppD q then ppD q else ppD p) + 1
theorem wf_ppD {n : Nat} : ∀ {pp : Pp} {d : Nat}, wf n pp d → ppD pp + d ≤ 10
  | .alone _, d, h => by have := h.2; show 0 + d ≤ 10; omega
  | .ring _, d, h => by have := h.2.2; show 0 + d ≤ 10; omega
  | .case _ _ p q, d, h => by
    have h1 := wf_ppD h.2.2.2.1
    have h2 := wf_ppD h.2.2.2.2
    show (if ppD p ≤ ppD q then ppD q else ppD p) + 1 + d ≤ 10
    split <;> omega
section
variable {K : PySem.W.Frag} {σ : L2.St} {H : Hp} {ta tb tl : TE} {o : Ord} {l : Addr} {i j : Int}
/-- l + [(i, j)] -/
theorem ep_catP (p : Nat × Nat) (hl : Ev tl σ H (.ref l)) (ho : PairsAt o l H) (ha : Ev ta σ H (.int i)) (hb : Ev tb σ H (.int j)) (hi : i = (p.1 : Int)) (hj : j = (p.2 : Int)) (hz : o.length ≤ 1000) :
    EvP (tOp rCat tl (tLst (tCons (tTup (tCons ta (tCons tb tNil))) tNil))) σ H (fun v H' => ∃ l', v = .ref l' ∧ PairsAt (o ++ [p]) l' H') := by
  subst hi hj
  refine fun H1 e1 Q q => hl H1 e1 _ fun H2 e2 => (ep_lstP (S := fun vs H' => ∃ b, vs = [.ref b] ∧ PairAt p b H') (fun H3 e3 Q3 q3 => (ap_last (ep_u (eu_tup (ea_cons ha (ea_cons hb ea_nil)) (show 2 ≤ 100000 by decide)))) H3 e3 Q3 fun vs H4 e4 r => q3 vs H4 e4 (by
    obtain ⟨v, rfl, b, rfl, hb⟩ := r
    exact ⟨b, rfl, hb⟩)) (fun vs H3 ⟨b, e, _⟩ => by subst e; show 1 ≤ 100000; decide) (fun vs H3 H4 e ⟨b, e2, r⟩ => ⟨b, e2, PairAt.tup.up e r⟩)) H2 (e1.trans e2) _ fun v H3 e3 r => ?_
  obtain ⟨m, vs, rfl, _, hm, b, rfl, hb⟩ := r
  obtain ⟨as, h1, h2⟩ := ho.up ((e1.trans e2).trans e3)
  refine ⟨l, m, _, _, rfl, rfl, h1, hm, sz_of (by rw [List.length_map, h2.1]; show o.length + 1 ≤ 100000; omega), fun r hr => q _ _ ((e2.trans e3).trans (Ex.new hr)) ⟨r, rfl, as ++ [b], ?_, ?_⟩⟩
  · rw [upd_same, List.map_append]
    rfl
  · have ex : Ex H3 (upd H3 r (.lst (as.map V.ref ++ [V.ref b]))) := Ex.new hr
    exact (h2.imp fun _ _ z => PairAt.tup.up ex z).snoc (PairAt.tup.up ex hb)
end
section
variable {P : Program} {w : World} {K : PySem.W.Frag} {mg : Str → Option Value} {base : Heap}
def spBears (f : Nat) : Sp := fun vs H Q _ => ∃ (a l : Addr) (vp : V) (wd : WD) (pl size : Int) (pp : Pp) (o : Ord) (d : Nat), vs = [.ref a, .int pl, .int size, vp, .ref l] ∧ LWantsAt wd a H ∧ 0 < pl ∧ PaperR pp vp H ∧ PairsAt o l H ∧ GoodW pl wd ∧ OrdOk (tabOf pl wd) o ∧ wf wd.length pp d ∧ ppD pp ≤ f ∧
  RetV (.bl (bearsP (tabOf pl wd) (wd.map aloneOf) size pp o)) H Q
def spBearsR : Nat → Sp
  | 0 => fun _ _ _ _ => False
  | f + 1 => spBears f
theorem sp_bears {a l : Addr} {vp : V} {wd : WD} {pl size : Int} {pp : Pp} {o : Ord} {d f : Nat} {H : Hp} (ha : LWantsAt wd a H) (hp : 0 < pl) (hv : PaperR pp vp H) (hl : PairsAt o l H) (g : GoodW pl wd) (ok : OrdOk (tabOf pl wd) o) (hw : wf wd.length pp d) (hd : ppD pp ≤ f) :
    SpV (spBears f) [.ref a, .int pl, .int size, vp, .ref l] H (.bl (bearsP (tabOf pl wd) (wd.map aloneOf) size pp o)) := fun H1 e Q q _ => ⟨a, l, vp, wd, pl, size, pp, o, d, rfl, ha.up e, hp, PaperR.up _ _ _ e hv, hl.up e, g, ok, hw, hd, q⟩
theorem ok_bears_step (T : TX K mg) {f k : Nat} (rec : Fp P w K mg base (k + 3) ("_law_bears", none) ["_law_wanted_here", "_law_places_here", "_law_size", "_law_paper", "_law_ahead_here"] (spBearsR f)) : Fp P w K mg base (k + 4) ("_law_bears", none) ["_law_wanted_here", "_law_places_here", "_law_size", "_law_paper", "_law_ahead_here"] (spBears f) := by
  refine Fp.of T.f_law_bears sc_law_bears (fun _ _ _ _ _ _ us hl => match us, hl with | [_, _, _, _, _], _ => rfl) (fun vs H Q E h => ?_) (fun cdv A outer s H vs Q E hr h => ?_)
  · obtain ⟨_, _, _, _, _, _, _, _, _, rfl, _⟩ := h; rfl
  · obtain ⟨a, l, vp, wd, pl, size, pp, o, d, rfl, ha, hp, hv, hl, g, ok, hw, hd, k⟩ := h
    refine ⟨_, (pss_cons (ps_if (pt_cmpR op_eq (pe_ix ix_tup (pv 3) pe_int (fun _ _ => rfl)) pe_str (nomark _)) (pss_one (ps_ret (pe_cmpR op_gt (pe_f (ok_law_alone T) T.g_law_alone (hr.mono (by omega)) (pa_cons (pe_ix ix_tup (pe_ix ix_list (pv 0) (pe_ix ix_tup (pv 3) pe_int (fun _ _ => rfl)) (fun _ _ => rfl)) pe_int (fun _ _ => rfl)) (pa_cons (pe_ix ix_tup (pe_ix ix_list (pv 0) (pe_ix ix_tup (pv 3) pe_int (fun _ _ => rfl)) (fun _ _ => rfl)) pe_int (fun _ _ => rfl)) pa_nil))) (pv 2) (nomark _)))) pss_nil)
  (pss_cons (ps_if (pt_cmpR op_eq (pe_ix ix_tup (pv 3) pe_int (fun _ _ => rfl)) pe_str (nomark _)) (pss_one (ps_ret (pe_f (ok_law_ring_bears T) T.g_law_ring_bears (hr.mono (by omega)) (pa_cons (pv 0) (pa_cons (pv 1) (pa_cons (pv 2) (pa_cons (pe_ix ix_tup (pv 3) pe_int (fun _ _ => rfl)) (pa_cons (pv 4) pa_nil)))))))) pss_nil)
  (pss_cons (ps_set (i := 5) sc_law_bears.nd rfl (Or.inl rfl) (pe_ix ix_tup (pv 3) pe_int (fun _ _ => rfl)))
  (pss_cons (ps_set (i := 6) sc_law_bears.nd rfl (Or.inl rfl) (pe_ix ix_tup (pv 3) pe_int (fun _ _ => rfl)))
  (pss_cons (ps_if (PW.pt (pw_or (pt_cmpR op_isN (pe_f (ok_law_behind T) T.g_law_behind (hr.mono (by omega)) (pa_cons (pv 0) (pa_cons (pv 5) (pa_cons (pv 6) (pa_cons (pv 1) pa_nil))))) pe_non (nomark _)) (pw_or (pt_cmpR (op_inD (hu65 hr)) (pe_tup (pa_cons (pv 5) (pa_cons (pv 6) pa_nil))) (pv 4) rfl) (pw_or1 (pt_cmpR (op_inD (hu65 hr)) (pe_tup (pa_cons (pv 6) (pa_cons (pv 5) pa_nil))) (pv 4) rfl))))) (pss_one (ps_ret pe_bl)) pss_nil)
  (pss_cons (ps_if (pt_not (pt_val (pe_f rec T.g_law_bears (hr.mono (by omega)) (pa_cons (pv 0) (pa_cons (pv 1) (pa_cons (pv 2) (pa_cons (pe_ix ix_tup (pv 3) pe_int (fun _ _ => rfl)) (pa_cons (pe_op op_cat (pv 4) (pe_lst (pa_cons (pe_tup (pa_cons (pv 5) (pa_cons (pv 6) pa_nil))) pa_nil))) pa_nil)))))))) (pss_one (ps_ret pe_bl)) pss_nil)
  (pss_one (ps_ret (pe_f rec T.g_law_bears (hr.mono (by omega)) (pa_cons (pv 0) (pa_cons (pv 1) (pa_cons (pv 2) (pa_cons (pe_ix ix_tup (pv 3) pe_int (fun _ _ => rfl)) (pa_cons (pe_op op_cat (pv 4) (pe_lst (pa_cons (pe_tup (pa_cons (pv 6) (pa_cons (pv 5) pa_nil))) pa_nil))) pa_nil)))))))))))))), ?_⟩
    match pp, hv, hw, hd, k with
    | .alone c, ⟨t, hvt, ht⟩, hw, hd, k =>
      subst hvt
      obtain ⟨x, ta, tw, ll, hx, hll, hta, htt, htw⟩ := ha.get hw.1
      refine q_when (et_test (ev_op (ev_op (ev_var rfl) ev_c (rv_ixT (v := .str "alone") (SqT.tup ht) (atI_nat (j := 0) rfl))) ev_c (rv_eq rfl))) (fun hb H1 e1 => ?_) (fun hb H1 e1 => by cases hb)
      have row : ∀ {te : TE}, Ev te [some (.ref a), some (.int pl), some (.int size), some (.ref t), some (.ref l), none, none] H1 (.int 0) → True := fun _ => trivial
      have i_ : Ev (tOp (rIxT K) (tVar 3) (tC (.int 1))) [some (.ref a), some (.int pl), some (.int size), some (.ref t), some (.ref l), none, none] H1 (.int (c : Int)) := ev_op (ev_var rfl) ev_c (rv_ixT (SqT.tup (e1 _ _ ht)) (atI_nat (j := 1) rfl))
      refine s_ret (ev_is (ev_op (ev_callV (z := .int (aloneOf x)) (ea_cons (ev_op (ev_op (ev_var rfl) i_ (rv_ixL (SqL.lst (e1 _ _ hll)) (atI_nat hta))) ev_c (rv_ixT (v := .ref tw) (SqT.tup (e1 _ _ htt)) (atI_nat (j := 0) rfl))) (ea_cons (ev_op (ev_op (ev_var rfl) i_ (rv_ixL (SqL.lst (e1 _ _ hll)) (atI_nat hta))) ev_c (rv_ixT (v := .int x.2) (SqT.tup (e1 _ _ htt)) (atI_nat (j := 1) rfl))) ea_nil)) (fun H2 e2 Q q _ => ⟨tw, x, rfl, (e1.trans e2) _ _ htw, q⟩)) (ev_var rfl) rv_I0) ?_) fun H2 e2 => k _ (e1.trans e2)
      unfold bearsP
      rw [List.getD_eq_getElem?_getD, List.getElem?_map, hx]
      rfl
    | .ring ks, ⟨t, r, hvt, ht, hr0⟩, hw, hd, k =>
      subst hvt
      refine q_when (et_test (ev_op (ev_op (ev_var rfl) ev_c (rv_ixT (v := .str "ring") (SqT.tup ht) (atI_nat (j := 0) rfl))) ev_c (rv_eq rfl))) (fun hb H1 e1 => absurd hb (by decide +kernel)) (fun _ H1 e1 => ?_)
      refine q_when (et_test (ev_op (ev_op (ev_var rfl) ev_c (rv_ixT (v := .str "ring") (SqT.tup (e1 _ _ ht)) (atI_nat (j := 0) rfl))) ev_c (rv_eq rfl))) (fun _ H2 e2 => ?_) (fun hb H2 e2 => by cases hb)
      have e12 := e1.trans e2
      refine s_ret (ev_callV (z := .bl (ringBears (tabOf pl wd) size ks o)) (ea_cons (ev_var rfl) (ea_cons (ev_var rfl) (ea_cons (ev_var rfl) (ea_cons (ev_op (ev_var rfl) ev_c (rv_ixT (v := .ref r) (SqT.tup (e12 _ _ ht)) (atI_nat (j := 1) rfl))) (ea_cons (ev_var rfl) ea_nil))))) (fun H3 e3 Q q _ => ⟨a, r, l, wd, pl, size, ks, o, rfl, ha.up (e12.trans e3), hp, hr0.up (e12.trans e3), hl.up (e12.trans e3), g, ok, hw.1, hw.2.1, q⟩)) fun H3 e3 => k _ (e12.trans e3)
    | .case i j p1 p2, ⟨t, v1, v2, hvt, ht, hv1, hv2⟩, hw, hd, k =>
      subst hvt
      obtain ⟨hi, hj, hd10, hw1, hw2⟩ := hw
      have h25 := (OrdOk.small g ok).2
      have hd' : (if ppD p1 ≤ ppD p2 then ppD p2 else ppD p1) + 1 ≤ f := hd
      obtain ⟨f', rfl⟩ : ∃ f', f = f' + 1 := ⟨f - 1, by omega⟩
      have hd1 : ppD p1 ≤ f' := by split at hd' <;> omega
      have hd2 : ppD p2 ≤ f' := by split at hd' <;> omega
      refine q_when (et_test (ev_op (ev_op (ev_var rfl) ev_c (rv_ixT (v := .str "case") (SqT.tup ht) (atI_nat (j := 0) rfl))) ev_c (rv_eq rfl))) (fun hb H1 e1 => absurd hb (by decide +kernel)) (fun _ H1 e1 => ?_)
      refine q_when (et_test (ev_op (ev_op (ev_var rfl) ev_c (rv_ixT (v := .str "case") (SqT.tup (e1 _ _ ht)) (atI_nat (j := 0) rfl))) ev_c (rv_eq rfl))) (fun hb H2 e2 => absurd hb (by decide +kernel)) (fun _ H2 e2 => ?_)
      have e12 := e1.trans e2
      refine q_asg (ev_op (ev_var rfl) ev_c (rv_ixT (v := .int (i : Int)) (SqT.tup (e12 _ _ ht)) (atI_nat (j := 1) rfl))) fun H3 e3 => ?_
      have e13 := e12.trans e3
      refine q_asg (ev_op (ev_var rfl) ev_c (rv_ixT (v := .int (j : Int)) (SqT.tup (e13 _ _ ht)) (atI_nat (j := 2) rfl))) fun H4 e4 => ?_
      have e14 := e13.trans e4
      refine q_when (b := !((bh (tabOf pl wd) i j).isSome && (!o.contains (i, j) && !o.contains (j, i)))) (et_is (et_or (et_test (ev_op (ev_callV (ea_cons (ev_var rfl) (ea_cons (ev_var rfl) (ea_cons (ev_var rfl) (ea_cons (ev_var rfl) ea_nil)))) (sp_behind (ha.up e14) hi hj hp rfl)) ev_c rv_isN)) (fun _ => et_or (et_test (ev_inP (i, j) (ev_var rfl) (ev_var rfl) (ev_var rfl) (hl.up e14) rfl rfl)) (fun _ => et_test (ev_inP (j, i) (ev_var rfl) (ev_var rfl) (ev_var rfl) (hl.up e14) rfl rfl)))) ?_) (fun hb H5 e5 => ?_) (fun hb H5 e5 => ?_)
      · cases bh (tabOf pl wd) i j <;> cases o.contains (i, j) <;> cases o.contains (j, i) <;> simp [optV]
      · have hz : bearsP (tabOf pl wd) (wd.map aloneOf) size (.case i j p1 p2) o = false := by
          unfold bearsP
          cases hq : ((bh (tabOf pl wd) i j).isSome && (!o.contains (i, j) && !o.contains (j, i))) with
          | true => rw [hq] at hb; cases hb
          | false => rfl
        rw [hz] at k
        exact s_ret ev_c fun H6 e6 => k _ ((e14.trans e5).trans e6)
      · have hc : ((bh (tabOf pl wd) i j).isSome && (!o.contains (i, j) && !o.contains (j, i))) = true := by
          cases hq : ((bh (tabOf pl wd) i j).isSome && (!o.contains (i, j) && !o.contains (j, i))) with
          | true => rfl
          | false => rw [hq] at hb; cases hb
        obtain ⟨c1, c2⟩ := Bool.and_eq_true_iff.mp hc
        obtain ⟨c3, c4⟩ := Bool.and_eq_true_iff.mp c2
        have n1 : (i, j) ∉ o := by simpa using c3
        have n2 : (j, i) ∉ o := by simpa using c4
        have hne : i ≠ j := fun e => by
          subst e
          rw [g.irr] at c1
          cases c1
        have ok1 := ok.add (i := i) (j := j) c1 hne n1 n2
        have ok2 := ok.add (i := j) (j := i) (by
          show (bh (tabOf pl wd) j i).isSome = true
          rw [g.sym]
          exact c1) (Ne.symm hne) n2 n1
        have e15 := e14.trans e5
        refine q_when (et_not (et_test (ev_ep (ep_callP (R := fun v _ => v = .bl (bearsP (tabOf pl wd) (wd.map aloneOf) size p1 (o ++ [(i, j)]))) (ap_consV (ev_var rfl) (ap_consV (ev_var rfl) (ap_consV (ev_var rfl) (ap_consV (ev_op (ev_var rfl) ev_c (rv_ixT (v := v1) (SqT.tup (e15 _ _ ht)) (atI_nat (j := 3) rfl))) (ap_last (ep_catP (i, j) (ev_var rfl) (hl.up e15) (ev_var rfl) (ev_var rfl) rfl rfl (by omega))))))) ?_)))) (fun hb2 H6 e6 => ?_) (fun hb2 H6 e6 => ?_)
        · rintro vs H6 e6 ⟨_, rfl, _, rfl, _, rfl, _, rfl, _, rfl, l', rfl, hl'⟩
          exact fun H7 e7 Q q E => sp_bears ((ha.up e15).up e6) hp (PaperR.up _ _ _ (e15.trans e6) hv1) hl' g ok1 hw1 hd1 H7 e7 Q (fun H8 e8 => q _ H8 e8 rfl) E
        · have hz : bearsP (tabOf pl wd) (wd.map aloneOf) size (.case i j p1 p2) o = false := by
            show (((bh (tabOf pl wd) i j).isSome && (!o.contains (i, j) && !o.contains (j, i))) && (bearsP (tabOf pl wd) (wd.map aloneOf) size p1 (o ++ [(i, j)]) && bearsP (tabOf pl wd) (wd.map aloneOf) size p2 (o ++ [(j, i)]))) = false
            have : bearsP (tabOf pl wd) (wd.map aloneOf) size p1 (o ++ [(i, j)]) = false := by simpa using hb2
            rw [this]
            simp
          rw [hz] at k
          exact s_ret ev_c fun H7 e7 => k _ ((e15.trans e6).trans e7)
        · have e16 := e15.trans e6
          refine s_ret (ev_ep (ep_callP (R := fun v _ => v = .bl (bearsP (tabOf pl wd) (wd.map aloneOf) size (.case i j p1 p2) o)) (ap_consV (ev_var rfl) (ap_consV (ev_var rfl) (ap_consV (ev_var rfl) (ap_consV (ev_op (ev_var rfl) ev_c (rv_ixT (v := v2) (SqT.tup (e16 _ _ ht)) (atI_nat (j := 4) rfl))) (ap_last (ep_catP (j, i) (ev_var rfl) (hl.up e16) (ev_var rfl) (ev_var rfl) rfl rfl (by omega))))))) ?_)) fun H7 e7 => k _ (e16.trans e7)
          rintro vs H7 e7 ⟨_, rfl, _, rfl, _, rfl, _, rfl, _, rfl, l', rfl, hl'⟩
          refine fun H8 e8 Q q E => sp_bears ((ha.up e16).up e7) hp (PaperR.up _ _ _ (e16.trans e7) hv2) hl' g ok2 hw2 hd2 H8 e8 Q (fun H9 e9 => q _ H9 e9 ?_) E
          have b1 : bearsP (tabOf pl wd) (wd.map aloneOf) size p1 (o ++ [(i, j)]) = true := by simpa using hb2
          show _ = V.bl (((bh (tabOf pl wd) i j).isSome && (!o.contains (i, j) && !o.contains (j, i))) && (bearsP (tabOf pl wd) (wd.map aloneOf) size p1 (o ++ [(i, j)]) && bearsP (tabOf pl wd) (wd.map aloneOf) size p2 (o ++ [(j, i)])))
          rw [hc, b1]
          rfl
theorem ok_law_bears (T : TX K mg) : ∀ f, Fp P w K mg base (f + 4) ("_law_bears", none) ["_law_wanted_here", "_law_places_here", "_law_size", "_law_paper", "_law_ahead_here"] (spBears f)
  | 0 => ok_bears_step (k := 0) T (Fp.never T.f_law_bears (fun _ _ _ _ _ _ us hl => match us, hl with | [_, _, _, _, _], _ => rfl))
  | f + 1 => ok_bears_step (k := f + 1) T (ok_law_bears T f)
end
end Lw


set_option Elab.async false
set_option linter.all false
set_option maxRecDepth 100000
set_option maxHeartbeats 4000000
namespace Lw
open PySem PySem.Spec PyProof.Rows L2 Evl TL
section
variable {K : PySem.W.Frag} {σ : L2.St} {H : Hp} {ta tb tc : TE} {x y z : V}
theorem ev_isi {a b : String} {r : Bool} (h : Ev ta σ H x) (ty : ∀ H', Ex H H' → TyX K H' x (.type a)) (hk : kitB a b = some r) : Ev (tCB (rIsi K) (tCons ta (tCons (tC (.ty b)) tNil))) σ H (.bl r) := fun H1 e Q q =>
  h H1 e _ fun H2 e2 => ⟨x, .ty b, .type a, .type b, r, rfl, .ty b, ty H2 (e.trans e2), kit_ty hk, q H2 e2⟩
theorem k_ii : kitB "int" "int" = some true := by decide +kernel
theorem k_ib : kitB "int" "bool" = some false := by decide +kernel
theorem k_tt : kitB "tuple" "tuple" = some true := by decide +kernel
theorem k_ll : kitB "list" "list" = some true := by decide +kernel
theorem ev_isInt {i : Int} (h : Ev ta σ H (.int i)) : Ev (tCB (rIsi K) (tCons ta (tCons (tC (.ty "int")) tNil))) σ H (.bl true) := ev_isi h (fun _ _ => .base (.int i)) k_ii
theorem ev_isBool {i : Int} (h : Ev ta σ H (.int i)) : Ev (tCB (rIsi K) (tCons ta (tCons (tC (.ty "bool")) tNil))) σ H (.bl false) := ev_isi h (fun _ _ => .base (.int i)) k_ib
theorem ev_isTup {t : Addr} {xs : List V} (h : Ev ta σ H (.ref t)) (ht : H t = some (.tup xs)) : Ev (tCB (rIsi K) (tCons ta (tCons (tC (.ty "tuple")) tNil))) σ H (.bl true) := ev_isi h (fun _ e => .base (.tup (e _ _ ht))) k_tt
theorem ev_isKn {t : Addr} {xs : List V} (h : Ev ta σ H (.ref t)) (ht : KnT xs t H) : Ev (tCB (rIsi K) (tCons ta (tCons (tC (.ty "tuple")) tNil))) σ H (.bl true) := ev_isi h (fun _ e => let ⟨o, _, z⟩ := ht.up e; .fTuple z) k_tt
theorem ev_isList {t : Addr} {xs : List V} (h : Ev ta σ H (.ref t)) (ht : H t = some (.lst xs)) : Ev (tCB (rIsi K) (tCons ta (tCons (tC (.ty "list")) tNil))) σ H (.bl true) := ev_isi h (fun _ e => .base (.lst (e _ _ ht))) k_ll
theorem ev_chain {r r' : R2} {b c : Bool} (ha : Ev ta σ H x) (hb : Ev tb σ H y) (hr : RV r x y H (.bl b)) (hc : Ev tc σ H z) (hr' : RV r' y z H (.bl c)) : Ev (tChain r r' ta tb tc) σ H (.bl (b && c)) := fun H1 e Q q =>
  ha H1 e _ fun H2 e2 => hb H2 (e.trans e2) _ fun H3 e3 => hr H3 ((e.trans e2).trans e3) _ fun H4 e4 => ⟨b, rfl, by
    have e14 := (e2.trans e3).trans e4
    cases b with
    | true => exact hc H4 (e.trans e14) _ fun H5 e5 => hr' H5 ((e.trans e14).trans e5) Q fun H6 e6 => q H6 ((e14.trans e5).trans e6)
    | false => exact q H4 e14⟩
end
section
variable {P : Program} {w : World} {K : PySem.W.Frag} {mg : Str → Option Value} {base : Heap}
def spWant : Sp := fun vs H Q _ => ∃ (c n : Nat), vs = [.int (c : Int), .int (n : Int)] ∧ c < n ∧ RetV (.bl true) H Q
theorem ok_law_is_want (T : TX K mg) : Fp P w K mg base 1 ("_law_is_want", none) ["_law_k", "_law_many"] spWant := by
  refine Fp.of T.f_law_is_want sc_law_is_want (fun _ _ _ _ _ _ us hl => match us, hl with | [_, _], _ => rfl) (fun vs H Q E h => ?_) (fun cdv A outer s H vs Q E hr h => ?_)
  · obtain ⟨_, _, rfl, _⟩ := h; rfl
  · obtain ⟨c, n, rfl, hc, k⟩ := h
    refine ⟨_, (pss_one (ps_ret (pe_and (pe_callB call_isi (by rfl) T.free_isinstance (by decide +kernel) (pa_cons (pv 0) (pa_cons (pe_bltn (v := .ty "int") rfl T.free_int (by decide +kernel) rfl) pa_nil))) (pe_and (pe_not (pe_callB call_isi (by rfl) T.free_isinstance (by decide +kernel) (pa_cons (pv 0) (pa_cons (pe_bltn (v := .ty "bool") rfl T.free_bool (by decide +kernel) rfl) pa_nil)))) (pe_one (pe_chain op_le op_lt pe_int (pv 0) (pv 1))))))), ?_⟩
    refine s_ret (ev_is (ev_andV (ev_isInt (ev_var rfl)) (fun _ => ev_andV (ev_notV (ev_isBool (ev_var rfl))) (fun _ => ev_chain ev_c (ev_var rfl) rv_I0 (ev_var rfl) rv_I0))) ?_) k
    have h1 : (0 : Int) ≤ (c : Int) := by omega
    have h2 : (c : Int) < (n : Int) := by omega
    simp [h1, h2]
theorem sp_want {c n : Nat} {H : Hp} (h : c < n) : SpV spWant [.int (c : Int), .int (n : Int)] H (.bl true) := fun H1 e Q q _ => ⟨c, n, rfl, h, q⟩
def spFormed (f : Nat) : Sp := fun vs H Q _ => ∃ (vp : V) (n d : Nat) (pp : Pp), vs = [vp, .int (n : Int), .int (d : Int)] ∧ PaperR pp vp H ∧ wf n pp d ∧ ppD pp ≤ f ∧ n ≤ 1000 ∧ RetV (.bl true) H Q
def spFormedR : Nat → Sp
  | 0 => fun _ _ _ _ => False
  | f + 1 => spFormed f
theorem sp_formed {vp : V} {n d f : Nat} {pp : Pp} {H : Hp} (hv : PaperR pp vp H) (hw : wf n pp d) (hd : ppD pp ≤ f) (hn : n ≤ 1000) : SpV (spFormed f) [vp, .int (n : Int), .int (d : Int)] H (.bl true) := fun H1 e Q q _ => ⟨vp, n, d, pp, rfl, PaperR.up _ _ _ e hv, hw, hd, hn, q⟩
theorem ok_formed_step (T : TX K mg) {f k : Nat} (rec : Fp P w K mg base (k + 1) ("_law_is_formed", none) ["_law_paper", "_law_many", "_law_deep"] (spFormedR f)) : Fp P w K mg base (k + 2) ("_law_is_formed", none) ["_law_paper", "_law_many", "_law_deep"] (spFormed f) := by
  refine Fp.of T.f_law_is_formed sc_law_is_formed (fun _ _ _ _ _ _ us hl => match us, hl with | [_, _, _], _ => rfl) (fun vs H Q E h => ?_) (fun cdv A outer s H vs Q E hr h => ?_)
  · obtain ⟨_, _, _, _, rfl, _⟩ := h; rfl
  · obtain ⟨vp, n, d, pp, rfl, hv, hw, hd, hn, k⟩ := h
    refine ⟨_, (pss_cons (ps_if (PW.pt (pw_or (pt_not (pt_val (pe_callB call_isi (by rfl) T.free_isinstance (by decide +kernel) (pa_cons (pv 0) (pa_cons (pe_bltn (v := .ty "tuple") rfl T.free_tuple (by decide +kernel) rfl) pa_nil))))) (pw_or (pt_cmpR op_lt (pe_callB call_len_seq (by rfl) T.free_len PySem.boot_len (pa_cons (pv 0) pa_nil)) pe_int (nomark _)) (pw_or1 (pt_cmpR op_gt (pv 2) pe_int (nomark _)))))) (pss_one (ps_ret pe_bl)) pss_nil)
  (pss_cons (ps_if (pt_cmpR op_eq (pe_ix ix_tup (pv 0) pe_int (fun _ _ => rfl)) pe_str (nomark _)) (pss_one (ps_ret (pe_and (pe_cmpR op_eq (pe_callB call_len_seq (by rfl) T.free_len PySem.boot_len (pa_cons (pv 0) pa_nil)) pe_int (nomark _)) (pe_one (pe_f (ok_law_is_want T) T.g_law_is_want (hr.mono (by omega)) (pa_cons (pe_ix ix_tup (pv 0) pe_int (fun _ _ => rfl)) (pa_cons (pv 1) pa_nil))))))) pss_nil)
  (pss_cons (ps_if (pt_cmpR op_eq (pe_ix ix_tup (pv 0) pe_int (fun _ _ => rfl)) pe_str (nomark _)) (pss_cons (ps_if (PW.pt (pw_or (pt_cmpR op_ne (pe_callB call_len_seq (by rfl) T.free_len PySem.boot_len (pa_cons (pv 0) pa_nil)) pe_int (nomark _)) (pw_or1 (pt_not (pt_val (pe_callB call_isi (by rfl) T.free_isinstance (by decide +kernel) (pa_cons (pe_ix ix_tup (pv 0) pe_int (fun _ _ => rfl)) (pa_cons (pe_bltn (v := .ty "tuple") rfl T.free_tuple (by decide +kernel) rfl) pa_nil)))))))) (pss_one (ps_ret pe_bl)) pss_nil)
  (pss_one (ps_ret (pe_cmpR op_eq (pe_callB call_len_seq (by rfl) T.free_len PySem.boot_len (pa_cons (pe_lc (own := [("_law_k", 3)]) (g := gName 3) rfl sc_law_is_formed.nd (pi_tup (pe_ix ix_tup (pv 0) pe_int (fun _ _ => rfl))) (blkOk_by (own := [("_law_k", 3)]) (N := N_law_is_formed) (sc := defScope s_law_is_formed) (by decide +kernel)) (fun _ _ _ _ _ => pg_name (i := 3) sc_law_is_formed.nd rfl (Or.inl rfl)) (fun _ _ _ _ _ => pts_one (pt_not (pt_val (pe_f (ok_law_is_want T) T.g_law_is_want (hr.mono (by omega)) (pa_cons (pv 3) (pa_cons (pv 1) pa_nil)))))) (fun _ _ _ _ _ => (pv 3))) pa_nil)) pe_int (nomark _))))) pss_nil)
  (pss_cons (ps_if (PW.pt (pw_or (pt_cmpR op_ne (pe_ix ix_tup (pv 0) pe_int (fun _ _ => rfl)) pe_str (nomark _)) (pw_or1 (pt_cmpR op_ne (pe_callB call_len_seq (by rfl) T.free_len PySem.boot_len (pa_cons (pv 0) pa_nil)) pe_int (nomark _))))) (pss_one (ps_ret pe_bl)) pss_nil)
  (pss_cons (ps_if (PW.pt (pw_or (pt_not (pt_val (pe_f (ok_law_is_want T) T.g_law_is_want (hr.mono (by omega)) (pa_cons (pe_ix ix_tup (pv 0) pe_int (fun _ _ => rfl)) (pa_cons (pv 1) pa_nil))))) (pw_or1 (pt_not (pt_val (pe_f (ok_law_is_want T) T.g_law_is_want (hr.mono (by omega)) (pa_cons (pe_ix ix_tup (pv 0) pe_int (fun _ _ => rfl)) (pa_cons (pv 1) pa_nil)))))))) (pss_one (ps_ret pe_bl)) pss_nil)
  (pss_one (ps_ret (pe_and (pe_f rec T.g_law_is_formed (hr.mono (by omega)) (pa_cons (pe_ix ix_tup (pv 0) pe_int (fun _ _ => rfl)) (pa_cons (pv 1) (pa_cons (pe_op op_add (pv 2) pe_int) pa_nil)))) (pe_one (pe_f rec T.g_law_is_formed (hr.mono (by omega)) (pa_cons (pe_ix ix_tup (pv 0) pe_int (fun _ _ => rfl)) (pa_cons (pv 1) (pa_cons (pe_op op_add (pv 2) pe_int) pa_nil))))))))))))), ?_⟩
    match pp, hv, hw, hd with
    | .alone c, ⟨t, hvt, ht⟩, hw, hd =>
      subst hvt
      have hd10 : d ≤ 10 := hw.2
      refine q_when (b := false) (et_is (et_or (et_not (et_test (ev_isTup (ev_var rfl) ht))) (fun _ => et_or (et_test (ev_op (ev_lenT (ev_var rfl) (SqT.tup ht)) ev_c rv_I0)) (fun _ => et_test (ev_op (ev_var rfl) ev_c rv_I0)))) (by simp; omega)) (fun hb H1 e1 => by cases hb) (fun _ H1 e1 => ?_)
      refine q_when (et_test (ev_op (ev_op (ev_var rfl) ev_c (rv_ixT (v := .str "alone") (SqT.tup (e1 _ _ ht)) (atI_nat (j := 0) rfl))) ev_c (rv_eq rfl))) (fun _ H2 e2 => ?_) (fun hb H2 e2 => by cases hb)
      have e12 := e1.trans e2
      exact s_ret (ev_is (ev_andV (ev_op (ev_lenT (ev_var rfl) (SqT.tup (e12 _ _ ht))) ev_c (rv_eq rfl)) (fun _ => ev_callV (ea_cons (ev_op (ev_var rfl) ev_c (rv_ixT (v := .int (c : Int)) (SqT.tup (e12 _ _ ht)) (atI_nat (j := 1) rfl))) (ea_cons (ev_var rfl) ea_nil)) (sp_want hw.1))) rfl) fun H3 e3 => k _ (e12.trans e3)
    | .ring ks, ⟨t, r, hvt, ht, hr0⟩, hw, hd =>
      subst hvt
      have hd10 : d ≤ 10 := hw.2.2
      refine q_when (b := false) (et_is (et_or (et_not (et_test (ev_isTup (ev_var rfl) ht))) (fun _ => et_or (et_test (ev_op (ev_lenT (ev_var rfl) (SqT.tup ht)) ev_c rv_I0)) (fun _ => et_test (ev_op (ev_var rfl) ev_c rv_I0)))) (by simp; omega)) (fun hb H1 e1 => by cases hb) (fun _ H1 e1 => ?_)
      refine q_when (et_test (ev_op (ev_op (ev_var rfl) ev_c (rv_ixT (v := .str "ring") (SqT.tup (e1 _ _ ht)) (atI_nat (j := 0) rfl))) ev_c (rv_eq rfl))) (fun hb H2 e2 => absurd hb (by decide +kernel)) (fun _ H2 e2 => ?_)
      have e12 := e1.trans e2
      refine q_when (et_test (ev_op (ev_op (ev_var rfl) ev_c (rv_ixT (v := .str "ring") (SqT.tup (e12 _ _ ht)) (atI_nat (j := 0) rfl))) ev_c (rv_eq rfl))) (fun _ H3 e3 => ?_) (fun hb H3 e3 => by cases hb)
      have e13 := e12.trans e3
      have r_ : ∀ {σ : L2.St} (H4 : Hp), Ex H H4 → σ[0]? = some (some (.ref t)) → Ev (tOp (rIxT K) (tVar 0) (tC (.int 1))) σ H4 (.ref r) := fun H4 e4 hσ => ev_op (ev_var hσ) ev_c (rv_ixT (v := .ref r) (SqT.tup (e4 _ _ ht)) (atI_nat (j := 1) rfl))
      refine q_when (b := false) (et_is (et_or (et_test (ev_op (ev_lenT (ev_var rfl) (SqT.tup (e13 _ _ ht))) ev_c (rv_ne rfl))) (fun _ => et_not (et_test (ev_isKn (r_ H3 e13 rfl) (hr0.up e13))))) rfl) (fun hb H4 e4 => by cases hb) (fun _ H4 e4 => ?_)
      have e14 := e13.trans e4
      have hnat : ∀ (i : Nat) (x : V), (natV ks)[i]? = some x → ∃ c : Nat, x = .int (c : Int) ∧ c < n := fun i x hx => by
        unfold natV at hx
        rw [List.getElem?_map] at hx
        obtain ⟨c, hc, rfl⟩ := Option.map_eq_some_iff.mp hx
        exact ⟨c, rfl, hw.1 c (List.mem_of_getElem? hc)⟩
      refine s_ret (ev_is (ev_op (ev_lenN (xs := []) (by
        have z := el_lcNT (K := K) (σ := [some (.ref t), some (.int (n : Int)), some (.int (d : Int)), none]) (H := H4) (j := 3) (vs := [3]) (xs := natV ks) (tl := tOp (rIxT K) (tVar 0) (tC (.int 1))) (t := tNot (tTest (tCall spWant [] E0 (tCons (tVar 3) (tCons (tVar 1) tNil))))) (te := tVar 3) (fun _ => false) (fun i => .non)
          ((ep_ev (r_ H4 e14 rfl)).imp fun v H5 e5 q => ⟨r, q, (hr0.up (e14.trans e5)).sq⟩) (by
            rw [natV_len]
            have := List.Nodup.length_le_of_subset (l₂ := List.range n) hw.2.1 fun x hx => List.mem_range.mpr (hw.1 x hx)
            rw [List.length_range] at this
            omega) (fun _ => rfl) (fun i x H5 e5 hi => by
            obtain ⟨c, rfl, hc⟩ := hnat i x hi
            exact et_is (et_not (et_test (ev_callV (ea_cons (ev_var rfl) (ea_cons (ev_var rfl) ea_nil)) (sp_want hc)))) rfl) (fun i x H5 e5 hi hf => by cases hf)
        have hg : given (natV ks).length (fun _ => false) (fun _ => V.non) = [] := by
          unfold given
          rw [List.filter_eq_nil_iff.mpr (fun _ _ => by simp)]
          rfl
        rw [hg] at z
        exact z)) ev_c (rv_eq rfl)) rfl) fun H5 e5 => k _ (e14.trans e5)
    | .case i j p1 p2, ⟨t, v1, v2, hvt, ht, hv1, hv2⟩, hw, hd =>
      subst hvt
      obtain ⟨hi, hj, hd10, hw1, hw2⟩ := hw
      have hd' : (if ppD p1 ≤ ppD p2 then ppD p2 else ppD p1) + 1 ≤ f := hd
      obtain ⟨f', rfl⟩ : ∃ f', f = f' + 1 := ⟨f - 1, by omega⟩
      have hd1 : ppD p1 ≤ f' := by split at hd' <;> omega
      have hd2 : ppD p2 ≤ f' := by split at hd' <;> omega
      refine q_when (b := false) (et_is (et_or (et_not (et_test (ev_isTup (ev_var rfl) ht))) (fun _ => et_or (et_test (ev_op (ev_lenT (ev_var rfl) (SqT.tup ht)) ev_c rv_I0)) (fun _ => et_test (ev_op (ev_var rfl) ev_c rv_I0)))) (by simp; omega)) (fun hb H1 e1 => by cases hb) (fun _ H1 e1 => ?_)
      refine q_when (et_test (ev_op (ev_op (ev_var rfl) ev_c (rv_ixT (v := .str "case") (SqT.tup (e1 _ _ ht)) (atI_nat (j := 0) rfl))) ev_c (rv_eq rfl))) (fun hb H2 e2 => absurd hb (by decide +kernel)) (fun _ H2 e2 => ?_)
      have e12 := e1.trans e2
      refine q_when (et_test (ev_op (ev_op (ev_var rfl) ev_c (rv_ixT (v := .str "case") (SqT.tup (e12 _ _ ht)) (atI_nat (j := 0) rfl))) ev_c (rv_eq rfl))) (fun hb H3 e3 => absurd hb (by decide +kernel)) (fun _ H3 e3 => ?_)
      have e13 := e12.trans e3
      refine q_when (b := false) (et_is (et_or (et_test (ev_op (ev_op (ev_var rfl) ev_c (rv_ixT (v := .str "case") (SqT.tup (e13 _ _ ht)) (atI_nat (j := 0) rfl))) ev_c (rv_ne rfl))) (fun _ => et_test (ev_op (ev_lenT (ev_var rfl) (SqT.tup (e13 _ _ ht))) ev_c (rv_ne rfl)))) (by simp)) (fun hb H4 e4 => by cases hb) (fun _ H4 e4 => ?_)
      have e14 := e13.trans e4
      refine q_when (b := false) (et_is (et_or (et_not (et_test (ev_callV (ea_cons (ev_op (ev_var rfl) ev_c (rv_ixT (v := .int (i : Int)) (SqT.tup (e14 _ _ ht)) (atI_nat (j := 1) rfl))) (ea_cons (ev_var rfl) ea_nil)) (sp_want hi)))) (fun _ => et_not (et_test (ev_callV (ea_cons (ev_op (ev_var rfl) ev_c (rv_ixT (v := .int (j : Int)) (SqT.tup (e14 _ _ ht)) (atI_nat (j := 2) rfl))) (ea_cons (ev_var rfl) ea_nil)) (sp_want hj))))) rfl) (fun hb H5 e5 => by cases hb) (fun _ H5 e5 => ?_)
      have e15 := e14.trans e5
      have ed : ∀ H6 : Hp, Ev (tOp (rI0 fun i j => .int (i + j)) (tVar 2) (tC (.int 1))) [some (.ref t), some (.int (n : Int)), some (.int (d : Int)), none] H6 (.int ((d + 1 : Nat) : Int)) := fun H6 => ev_op (ev_var rfl) ev_c rv_I0
      exact s_ret (ev_is (ev_andV (ev_callV (ea_cons (ev_op (ev_var rfl) ev_c (rv_ixT (v := v1) (SqT.tup (e15 _ _ ht)) (atI_nat (j := 3) rfl))) (ea_cons (ev_var rfl) (ea_cons (ed H5) ea_nil))) (sp_formed (PaperR.up _ _ _ e15 hv1) hw1 hd1 hn)) (fun _ => ev_callV (ea_cons (ev_op (ev_var rfl) ev_c (rv_ixT (v := v2) (SqT.tup (e15 _ _ ht)) (atI_nat (j := 4) rfl))) (ea_cons (ev_var rfl) (ea_cons (ed H5) ea_nil))) (sp_formed (PaperR.up _ _ _ e15 hv2) hw2 hd2 hn))) rfl) fun H6 e6 => k _ (e15.trans e6)
theorem ok_law_is_formed (T : TX K mg) : ∀ f, Fp P w K mg base (f + 2) ("_law_is_formed", none) ["_law_paper", "_law_many", "_law_deep"] (spFormed f)
  | 0 => ok_formed_step (k := 0) T (Fp.never T.f_law_is_formed (fun _ _ _ _ _ _ us hl => match us, hl with | [_, _, _], _ => rfl))
  | f + 1 => ok_formed_step (k := f + 1) T (ok_law_is_formed T f)
end
end Lw


set_option Elab.async false
set_option linter.all false
set_option maxRecDepth 100000
set_option maxHeartbeats 4000000
namespace Lw
open PySem PySem.Spec PyProof.Rows L2 Evl TL
section
variable {P : Program} {w : World} {K : PySem.W.Frag} {mg : Str → Option Value} {base : Heap}
structure DoOk (pl : Int) (wd : WD) (s : Int) (bs : List Int) : Prop where
  one : 1 ≤ s
  len : bs.length = wd.length
  n5 : wd.length ≤ 5
  alone : ∀ x ∈ wd, aloneOf x ≤ s
  gap : ∀ i j t, bh (tabOf pl wd) i j = some t → t ≤ (bs.getD j 0 - bs.getD i 0).fmod s
def spDo (K : PySem.W.Frag) : Sp := fun vs H Q _ => ∃ (a l : Addr) (wd : WD) (pl s : Int) (bs : List Int), vs = [.ref a, .int pl, .int s, .ref l] ∧ LWantsAt wd a H ∧ 0 < pl ∧ SqL K H l (bs.map V.int) ∧ DoOk pl wd s bs ∧ RetV (.bl true) H Q
theorem ok_law_do (T : TX K mg) : Fp P w K mg base 3 ("_law_do", none) ["_law_wanted_here", "_law_places_here", "_law_size", "_law_begins"] (spDo K) := by
  refine Fp.of T.f_law_do sc_law_do (fun _ _ _ _ _ _ us hl => match us, hl with | [_, _, _, _], _ => rfl) (fun vs H Q E h => ?_) (fun cdv A outer s H vs Q E hr h => ?_)
  · obtain ⟨_, _, _, _, _, _, rfl, _⟩ := h; rfl
  · obtain ⟨a, l, wd, pl, s, bs, rfl, ha, hp, hl, ok, k⟩ := h
    refine ⟨_, (pss_cons (ps_for PassesOwn.never rfl (pi_range1 (by rfl) T.free_range (pa_cons (pe_callB call_len_seq (by rfl) T.free_len PySem.boot_len (pa_cons (pv 0) pa_nil)) pa_nil)) (pg_name (i := 4) sc_law_do.nd rfl (Or.inl rfl)) (pss_cons (ps_if (pt_cmpR op_gt (pe_f (ok_law_alone T) T.g_law_alone (hr.mono (by decide)) (pa_cons (pe_ix ix_tup (pe_ix ix_list (pv 0) (pv 4) (fun _ _ => rfl)) pe_int (fun _ _ => rfl)) (pa_cons (pe_ix ix_tup (pe_ix ix_list (pv 0) (pv 4) (fun _ _ => rfl)) pe_int (fun _ _ => rfl)) pa_nil))) (pv 2) (nomark _)) (pss_one (ps_ret pe_bl)) pss_nil)
  (pss_one (ps_for PassesOwn.never rfl (pi_range1 (by rfl) T.free_range (pa_cons (pe_callB call_len_seq (by rfl) T.free_len PySem.boot_len (pa_cons (pv 0) pa_nil)) pa_nil)) (pg_name (i := 5) sc_law_do.nd rfl (Or.inl rfl)) (pss_cons (ps_set (i := 6) sc_law_do.nd rfl (Or.inl rfl) (pe_f (ok_law_behind T) T.g_law_behind (hr.mono (by decide)) (pa_cons (pv 0) (pa_cons (pv 4) (pa_cons (pv 5) (pa_cons (pv 1) pa_nil))))))
  (pss_one (ps_if (PW.pt (pw_and (pt_cmpR op_notN (pv 6) pe_non (nomark _)) (pw_and1 (pt_cmpR op_lt (pe_op op_modN (pe_op op_sub (pe_ix ix_list (pv 3) (pv 5) (fun _ _ => rfl)) (pe_ix ix_list (pv 3) (pv 4) (fun _ _ => rfl))) (pv 2)) (pv 6) (nomark _))))) (pss_one (ps_ret pe_bl)) pss_nil)))))))
  (pss_one (ps_ret pe_bl))), ?_⟩
    have n5 := ok.n5
    have bget : ∀ i, i < wd.length → (bs.map V.int)[i]? = some (.int (bs.getD i 0)) := fun i hi => by
      have : i < bs.length := by rw [ok.len]; exact hi
      rw [List.getElem?_map, List.getD_eq_getElem?_getD, List.getElem?_eq_getElem this]
      rfl
    have lenE : ∀ {σ : L2.St} (H1 : Hp), Ex H H1 → σ[0]? = some (some (.ref a)) → Ev (tCB (rLenS K) (tCons (tVar 0) tNil)) σ H1 (.int (wd.length : Int)) := fun H1 e hσ => by
      obtain ⟨ll, hll, hlen⟩ := LWantsAt.len (K := K) (ha.up e)
      exact ev_is (ev_len (ev_var hσ) hll) (by rw [hlen])
    refine q_forR1 (n := (wd.length : Int)) (ea_cons (lenE H (Ex.refl _) rfl) ea_nil) (by omega) (fun m σ' H' => Ex H H' ∧ ∃ x y z, σ' = [some (.ref a), some (.int pl), some (.int s), some (.ref l), x, y, z]) (fun H1 e1 => ⟨e1, none, none, none, rfl⟩) (fun i σ' H' hi hP => ?_) (fun σ' H' hP => ?_)
    · obtain ⟨e0, x0, y0, z0, rfl⟩ := hP
      have hi' : i < wd.length := by omega
      obtain ⟨x, ta, tw, ll, hx, hll, hta, htt, htw⟩ := (ha.up e0).get hi'
      have hal : ¬ aloneOf x > s := by have := ok.alone x (List.mem_of_getElem? hx); omega
      refine q_when (b := false) (et_is (et_test (ev_op (ev_callV (z := .int (aloneOf x)) (ea_cons (ev_op (ev_op (ev_var rfl) (ev_var rfl) (rv_ixL (i := (i : Int)) (SqL.lst hll) (atI_nat hta))) ev_c (rv_ixT (v := .ref tw) (SqT.tup htt) (atI_nat (j := 0) rfl))) (ea_cons (ev_op (ev_op (ev_var rfl) (ev_var rfl) (rv_ixL (i := (i : Int)) (SqL.lst hll) (atI_nat hta))) ev_c (rv_ixT (v := .int x.2) (SqT.tup htt) (atI_nat (j := 1) rfl))) ea_nil)) (fun H2 e2 Q q _ => ⟨tw, x, rfl, e2 _ _ htw, q⟩ : SpV spAlone _ H' _)) (ev_var rfl) rv_I0)) (by simpa using hal)) (fun hb H1 e1 => by cases hb) (fun _ H1 e1 => ?_)
      have e01 := e0.trans e1
      refine s_forR1 (n := (wd.length : Int)) (ea_cons (lenE H1 e01 rfl) ea_nil) (by omega) (fun m σ' H' => Ex H H' ∧ ∃ y z, σ' = [some (.ref a), some (.int pl), some (.int s), some (.ref l), some (.int (i : Int)), y, z]) (fun H2 e2 => ⟨e01.trans e2, _, _, rfl⟩) (fun j σ2 H2 hj hP2 => ?_) (fun σ2 H2 hP2 => ?_)
      · obtain ⟨e02, y1, z1, rfl⟩ := hP2
        have hj' : j < wd.length := by omega
        refine q_asg (ev_callV (ea_cons (ev_var rfl) (ea_cons (ev_var rfl) (ea_cons (ev_var rfl) (ea_cons (ev_var rfl) ea_nil)))) (sp_behind (ha.up e02) hi' hj' hp rfl)) fun H3 e3 => ?_
        have e03 := e02.trans e3
        cases hbh : bh (tabOf pl wd) i j with
        | none =>
          refine s_when (b := false) (et_and (a := false) (b := false) (et_test (ev_op (ev_var rfl) ev_c rv_notN)) (fun hb => by cases hb)) (fun hb H4 e4 => by cases hb) (fun _ H4 e4 => ⟨e03.trans e4, _, _, rfl⟩)
        | some t =>
          have ht := ok.gap i j t hbh
          have hnl : ¬ (bs.getD j 0 - bs.getD i 0).fmod s < t := by omega
          refine s_when (b := false) (et_is (et_and (a := true) (et_test (ev_op (ev_var rfl) ev_c rv_notN)) (fun _ => et_test (ev_op (y := .int t) (ev_op (ev_op (ev_op (ev_var rfl) (ev_var rfl) (rv_ixL (i := (j : Int)) (ex_l e03 hl) (atI_nat (bget j hj')))) (ev_op (ev_var rfl) (ev_var rfl) (rv_ixL (i := (i : Int)) (ex_l e03 hl) (atI_nat (bget i hi')))) rv_I0) (ev_var rfl) (rv_mod (by have := ok.one; omega))) (ev_var rfl) rv_I0))) (by rw [Bool.true_and]; exact decide_eq_false hnl)) (fun hb H4 e4 => by cases hb) (fun _ H4 e4 => ⟨e03.trans e4, _, _, rfl⟩)
      · obtain ⟨e02, y1, z1, rfl⟩ := hP2
        exact ⟨e02, _, _, _, rfl⟩
    · obtain ⟨e0, x0, y0, z0, rfl⟩ := hP
      exact s_ret ev_c fun H1 e1 => k _ (e0.trans e1)
def spAre : Sp := fun vs H Q _ => ∃ (l : Addr) (n : Nat) (s : Int) (bs : List Int), vs = [.ref l, .int (n : Int), .int s] ∧ H l = some (.lst (bs.map V.int)) ∧ bs.length = n ∧ (∀ b ∈ bs, 0 ≤ b ∧ b < s) ∧ RetV (.bl true) H Q
theorem ok_law_are_begins (T : TX K mg) : Fp P w K mg base 1 ("_law_are_begins", none) ["_law_begins", "_law_many", "_law_size"] spAre := by
  refine Fp.of T.f_law_are_begins sc_law_are_begins (fun _ _ _ _ _ _ us hl => match us, hl with | [_, _, _], _ => rfl) (fun vs H Q E h => ?_) (fun cdv A outer s H vs Q E hr h => ?_)
  · obtain ⟨_, _, _, _, rfl, _⟩ := h; rfl
  · obtain ⟨l, n, s, bs, rfl, hl, hn, hb, k⟩ := h
    refine ⟨_, (pss_cons (ps_if (PW.pt (pw_or (pt_not (pt_val (pe_callB call_isi (by rfl) T.free_isinstance (by decide +kernel) (pa_cons (pv 0) (pa_cons (pe_bltn (v := .ty "list") rfl T.free_list (by decide +kernel) rfl) pa_nil))))) (pw_or1 (pt_cmpR op_ne (pe_callB call_len_seq (by rfl) T.free_len PySem.boot_len (pa_cons (pv 0) pa_nil)) (pv 1) (nomark _))))) (pss_one (ps_ret pe_bl)) pss_nil)
  (pss_cons (ps_for PassesOwn.never rfl (pi_list (pv 0)) (pg_name (i := 3) sc_law_are_begins.nd rfl (Or.inl rfl)) (pss_one (ps_if (PW.pt (pw_or (pt_not (pt_val (pe_callB call_isi (by rfl) T.free_isinstance (by decide +kernel) (pa_cons (pv 3) (pa_cons (pe_bltn (v := .ty "int") rfl T.free_int (by decide +kernel) rfl) pa_nil))))) (pw_or (pt_val (pe_callB call_isi (by rfl) T.free_isinstance (by decide +kernel) (pa_cons (pv 3) (pa_cons (pe_bltn (v := .ty "bool") rfl T.free_bool (by decide +kernel) rfl) pa_nil)))) (pw_or (pt_cmpR op_lt (pv 3) pe_int (nomark _)) (pw_or1 (pt_cmpR op_ge (pv 3) (pv 2) (nomark _))))))) (pss_one (ps_ret pe_bl)) pss_nil)))
  (pss_one (ps_ret pe_bl)))), ?_⟩
    refine q_when (b := false) (et_is (et_or (et_not (et_test (ev_isList (ev_var rfl) hl))) (fun _ => et_test (ev_op (ev_len (ev_var rfl) (SqL.lst hl)) (ev_var rfl) (rv_ne rfl)))) (by rw [List.length_map, hn]; simp)) (fun hb H1 e1 => by cases hb) (fun _ H1 e1 => ?_)
    refine q_forLn (ev_var rfl) (SqL.lst (e1 _ _ hl)) (fun m σ' H' => Ex H H' ∧ ∃ x, σ' = [some (.ref l), some (.int (n : Int)), some (.int s), x]) (fun H2 e2 => ⟨e1.trans e2, none, rfl⟩) (fun m σ' H' _ hP => SqL.lst (hP.1 _ _ hl)) (fun m x σ' H' hx hP => ?_) (fun σ' H' hP => ?_)
    · obtain ⟨e0, y, rfl⟩ := hP
      rw [List.getElem?_map] at hx
      obtain ⟨b, hbm, rfl⟩ := Option.map_eq_some_iff.mp hx
      obtain ⟨b0, b1⟩ := hb b (List.mem_of_getElem? hbm)
      refine s_when (b := false) (et_is (et_or (et_not (et_test (ev_isInt (i := b) (ev_var rfl)))) (fun _ => et_or (et_test (ev_isBool (i := b) (ev_var rfl))) (fun _ => et_or (et_test (ev_op (ev_var rfl) ev_c rv_I0)) (fun _ => et_test (ev_op (ev_var rfl) (ev_var rfl) rv_I0))))) (by
        have h1 : ¬ b < 0 := by omega
        have h2 : ¬ b ≥ s := by omega
        simp [h1]; omega)) (fun hb H4 e4 => by cases hb) (fun _ H4 e4 => ⟨e0.trans e4, _, rfl⟩)
    · obtain ⟨e0, y, rfl⟩ := hP
      exact s_ret ev_c fun H1 e1 => k _ (e0.trans e1)
end
end Lw


set_option Elab.async false
set_option linter.all false
set_option maxRecDepth 100000
set_option maxHeartbeats 4000000
namespace Lw
open PySem PySem.Spec PyProof.Rows L2 Evl TL
theorem WantAt.tup : TupR WantAt := fun _ _ _ _ h r => h _ _ trivial r
def wD (x : WayD × Int) : PyData := .tuple [.str x.1.name, .int x.2]
theorem dp_wants {K : PySem.W.Frag} {H : Hp} : ∀ {ts : List Addr} {wd : WD}, AllAt WantAt H ts wd → DpAll K H (ts.map V.ref) (wd.map wD)
  | [], [], _ => .nil
  | [], _ :: _, h => by have := h.1; cases this
  | _ :: _, [], h => by have := h.1; cases this
  | a :: as, p :: o, h => .cons (.tup (SqT.tup h.tail.1) (.cons (.str _) (.cons (.int _) .nil))) (dp_wants h.tail.2)
theorem str_ok {x : Str} (h : NameOk x) : PyData.strOk x = true := by
  unfold PyData.strOk
  rw [← Array.all_toList, List.all_eq_true]
  intro c hc
  have := h.2.2 c hc
  exact decide_eq_true (by omega)
theorem wD_lay : ∀ wd : WD, (∀ x ∈ wd, NameOk x.1.name) → PyData.canLayAll0 (wd.map wD) = true
  | [], _ => by simp [PyData.canLayAll0]
  | p :: o, h => by
    have h1 := wD_lay o fun y hy => h y (List.mem_cons_of_mem _ hy)
    have h2 := str_ok (h p (List.mem_cons_self ..))
    simp [PyData.canLayAll0, PyData.canLay0, wD, h2] at *
    exact h1
theorem wD_depth : ∀ wd : WD, PyData.depthAll (wd.map wD) ≤ 1
  | [] => by simp [PyData.depthAll]
  | p :: o => by
    have := wD_depth o
    simp [PyData.depthAll, PyData.depth, wD] at *
    omega
theorem wD_shaped {wd : WD} (h : ∀ x ∈ wd, NameOk x.1.name) : SeqAt.shaped (.list (wd.map wD)) = true := by
  unfold SeqAt.shaped
  rw [Bool.and_eq_true_iff]
  constructor
  · rw [PyData.canLay0]
    exact wD_lay wd h
  · rw [decide_eq_true_eq, PyData.depth]
    have := wD_depth wd
    omega
theorem wD_eqv : ∀ wd : WD, PyData.eqvAll (wd.map wD) (wd.map wD) = true
  | [] => by simp [PyData.eqvAll]
  | p :: o => by
    have := wD_eqv o
    simp [PyData.eqvAll, PyData.eqv, wD] at *
    exact this
theorem rv_neD {K : PySem.W.Frag} {H : Hp} {a b : Addr} {wd : WD} (ha : WantsAt wd a H) (hb : WantsAt wd b H) (hn : ∀ x ∈ wd, NameOk x.1.name) : RV (rNeD K) (.ref a) (.ref b) H (.bl false) := fun H1 e Q q => by
  obtain ⟨ts, h1, h2⟩ := ha.up e
  obtain ⟨us, h3, h4⟩ := hb.up e
  refine ⟨.list (wd.map wD), .list (wd.map wD), .lst (SqL.lst h1) (dp_wants h2), .lst (SqL.lst h3) (dp_wants h4), wD_shaped hn, wD_shaped hn, ?_⟩
  have : PyData.eqv (.list (wd.map wD)) (.list (wd.map wD)) = true := by
    rw [PyData.eqv]
    exact wD_eqv wd
  rw [this]
  exact q H1 (Ex.refl _)
theorem told_do {pl : Int} {wd : WD} {H H' : Hp} {v vp : V} {t l : Addr} {m : Nat} {s : Int} {pp : Pp} (g : GoodW pl wd) (r : ToldR wd.length (wd.map aloneOf) (tabOf pl wd) H v H' t l m s vp pp) :
    DoOk pl wd s (settledB (tabOf pl wd) s (bestOf wd.length (wd.map aloneOf) (tabOf pl wd) m).2 wd.length) ∧ ∀ b ∈ settledB (tabOf pl wd) s (bestOf wd.length (wd.map aloneOf) (tabOf pl wd) m).2 wd.length, 0 ≤ b ∧ b < s := by
  obtain ⟨s', hs, T, _⟩ := told g r.fin
  have hb := r.best
  unfold bestOf at hb ⊢
  rw [hs] at hb
  obtain rfl := Option.some.inj hb
  refine ⟨⟨T.one, T.len, g.n5, fun x hx => ?_, fun i j t h => ?_⟩, T.range⟩
  · exact Int.le_trans (maxL_le _ _ (List.mem_map.mpr ⟨x, hx, rfl⟩)) T.max
  · have := T.do_ i j (show (bh (tabOf pl wd) i j).isSome = true by rw [h]; rfl)
    unfold bi at this
    rw [h] at this
    exact this
section
variable {P : Program} {w : World} {K : PySem.W.Frag} {mg : Str → Option Value} {base : Heap}
theorem sp_short {c a : Addr} {pl : Int} {ws : List WayD} {wd : WD} {H : Hp} (hc : CrossAt K pl ws c H) (ha : WantsAt wd a H) (ok : WantsOk pl ws wd) (g : GoodW pl wd) :
    SpP (spShort K) [.ref c, .ref a] H (fun v H' => ∃ H0, Ex H H0 ∧ Ex H0 H' ∧ ∃ t l m s vp pp, ToldR wd.length (wd.map aloneOf) (tabOf pl wd) H0 v H' t l m s vp pp) := fun H1 e Q q _ =>
  ⟨c, a, pl, ws, wd, rfl, hc.up e, ha.up e, ok, g, fun v H' t l m s vp pp e2 r => q v H' e2 ⟨H1, e, e2, t, l, m, s, vp, pp, r⟩⟩
theorem s_clear {σ : L2.St} {H : Hp} {D : Ends} {tz : TS} {ta : TE} {l : Addr} {xs : List V} (hl : H l = some (.lst xs)) (ha : Ev ta σ H (.ref l)) (k : ∀ H1, Ex H H1 → tz D σ (upd H1 l (.lst []))) : tSeq (tDrop (tBM0 K "list" rClear ta)) tz D σ H := ha H (Ex.refl H) _ fun H1 e1 =>
  ⟨Or.inl ⟨rfl, xs, sq_of (e1 l _ hl)⟩, l, xs, rfl, rfl, e1 l _ hl, k H1 e1⟩
def spLaw (K : PySem.W.Frag) : Sp := fun vs H Q _ => ∃ (a : Addr) (xs : List Int), vs = [.ref a] ∧ ScrAt K xs a H ∧ ∀ H', Q (.bl true) H'
theorem fnOf {k : Nat} {p : Str × Option Str} {x qual : Str} {st : Stmt} {N ps : List Str} {sp : Sp} {fd : FuncData}
    (F : FunD K x qual (defArgs st) (defBody st) (defScope st) [] [] (He.fAd K p) fd) (S : FnScope N ps (defScope st)) (len : ∀ vs H Q E, sp vs H Q E → vs.length = ps.length)
    (hbody : ∀ (cdv : Value) (A : Around) (outer : List Env) (s : Shared) (H : Hp) (vs : List V) (Q : VK) (E : XK), Room k (A.deeper (envOfC qual (defScope st) s.heap.objs.size (He.fAd K p) cdv)) → sp vs H Q E →
      ∃ t, PSs (cxOf CX0 P w K mg base N qual (defScope st) (He.fAd K p) cdv A outer s H E).nox (defBody st) t ∧ t { nx := fun _ H' => Q .non H', rt := Q } (start N vs) H) : FnOk P w K mg base CX0 (k + 1) (He.fAd K p) fd ps sp :=
  F.ok S len fun cdv A outer s H vs Q E hr h => let ⟨t, h1, h2⟩ := hbody cdv A outer s H vs Q E hr h; ⟨t, h1.nox, h2⟩
theorem ok_law (T : TX K mg) {fd : FuncData} (F : FunD K "law" "law" (defArgs s_law) (defBody s_law) (defScope s_law) [] [] (He.fAd K ("law", none)) fd) : FnOk P w K mg base CX0 15 (He.fAd K ("law", none)) fd ["_law_script"] (spLaw K) := by
  refine fnOf F sc_law (fun vs H Q E h => ?_) (fun cdv A outer s H vs Q E hr h => ?_)
  · obtain ⟨_, _, rfl, _⟩ := h; rfl
  · obtain ⟨a, xs, rfl, ha, k⟩ := h
    refine ⟨_, (pss_cons (ps_set (i := 1) sc_law.nd rfl (Or.inl rfl) (pe_f (ok_law_places T) T.g_law_places (hr.mono (by decide)) (pa_cons (pv 0) pa_nil)))
  (pss_cons (ps_set (i := 2) sc_law.nd rfl (Or.inl rfl) (pe_f (ok_law_ways T) T.g_law_ways (hr.mono (by decide)) (pa_cons (pv 0) (pa_cons (pe_op op_add pe_int (pe_f (ok_law_draw T) T.g_law_draw (hr.mono (by decide)) (pa_cons (pv 0) (pa_cons pe_int (pa_cons pe_int pa_nil))))) (pa_cons (pv 1) pa_nil)))))
  (pss_cons (ps_set (i := 3) sc_law.nd rfl (Or.inl rfl) (pe_f (ok_read_crossing T) T.g_read_crossing (hr.mono (by decide)) (pa_cons (pe_f (ok_law_text T) T.g_law_text (hr.mono (by decide)) (pa_cons (pv 1) (pa_cons (pv 2) pa_nil))) pa_nil)))
  (pss_cons (ps_set (i := 4) sc_law.nd rfl (Or.inl rfl) (pe_f (ok_law_wanted T) T.g_law_wanted (hr.mono (by decide)) (pa_cons (pv 0) (pa_cons (pv 2) pa_nil))))
  (pss_cons (ps_setLc (i := 5) (own := [("_law_one", 6)]) (g := gName 6) rfl sc_law.nd rfl rfl (sw_true rfl rfl rfl (by decide +kernel)) (pi_list (pv 4)) (blkOk_by (own := [("_law_one", 6)]) (N := N_law) (sc := defScope s_law) (by decide +kernel)) (fun _ _ _ _ _ => pg_name (i := 6) sc_law.nd rfl (Or.inl rfl)) (fun _ _ _ _ _ => pts_nil) (fun _ _ _ _ _ => (pe_tup (pa_cons (pe_ix (r := rIxT K) ix_tup (pe_ix (r := rIxT K) ix_tup (pv 6) pe_int (fun _ _ => rfl)) pe_int (fun _ _ => rfl)) (pa_cons (pe_ix (r := rIxT K) ix_tup (pv 6) pe_int (fun _ _ => rfl)) pa_nil)))))
  (pss_cons (ps_set (i := 7) sc_law.nd rfl (Or.inl rfl) (pe_callTy call_list_of (by rfl) T.free_list (by decide +kernel) (pa_cons (pv 5) pa_nil)))
  (pss_cons (ps_set (i := 8) sc_law.nd rfl (Or.inl rfl) (pe_f (ok_shortest T) T.g_shortest (hr.mono (by decide)) (pa_cons (pv 3) (pa_cons (pv 7) pa_nil))))
  (pss_cons (ps_if (PW.pt (pw_or (pt_not (pt_val (pe_callB call_isi (by rfl) T.free_isinstance (by decide +kernel) (pa_cons (pv 8) (pa_cons (pe_bltn (v := .ty "tuple") rfl T.free_tuple (by decide +kernel) rfl) pa_nil))))) (pw_or (pt_cmpR op_ne (pe_callB call_len_seq (by rfl) T.free_len PySem.boot_len (pa_cons (pv 8) pa_nil)) pe_int (nomark _)) (pw_or1 (pt_cmpR (op_neD hr.units) (pv 7) (pv 5) (nomark _)))))) (pss_one (ps_ret pe_bl)) pss_nil)
  (pss_cons (ps_set (i := 9) sc_law.nd rfl (Or.inl rfl) (pe_ix ix_tup (pv 8) pe_int (fun _ _ => rfl)))
  (pss_cons (ps_if (PW.pt (pw_or (pt_not (pt_val (pe_callB call_isi (by rfl) T.free_isinstance (by decide +kernel) (pa_cons (pv 9) (pa_cons (pe_bltn (v := .ty "int") rfl T.free_int (by decide +kernel) rfl) pa_nil))))) (pw_or (pt_val (pe_callB call_isi (by rfl) T.free_isinstance (by decide +kernel) (pa_cons (pv 9) (pa_cons (pe_bltn (v := .ty "bool") rfl T.free_bool (by decide +kernel) rfl) pa_nil)))) (pw_or1 (pt_cmpR op_lt (pv 9) pe_int (nomark _)))))) (pss_one (ps_ret pe_bl)) pss_nil)
  (pss_cons (ps_set (i := 10) sc_law.nd rfl (Or.inl rfl) (pe_ix ix_tup (pv 8) pe_int (fun _ _ => rfl)))
  (pss_cons (ps_if (PW.pt (pw_or (pt_not (pt_val (pe_f (ok_law_are_begins T) T.g_law_are_begins (hr.mono (by decide)) (pa_cons (pv 10) (pa_cons (pe_callB call_len_seq (by rfl) T.free_len PySem.boot_len (pa_cons (pv 5) pa_nil)) (pa_cons (pv 9) pa_nil)))))) (pw_or1 (pt_not (pt_val (pe_f (ok_law_do T) T.g_law_do (hr.mono (by decide)) (pa_cons (pv 4) (pa_cons (pv 1) (pa_cons (pv 9) (pa_cons (pv 10) pa_nil)))))))))) (pss_one (ps_ret pe_bl)) pss_nil)
  (pss_cons (ps_if (pt_not (pt_val (pe_f (ok_law_is_formed T 10) T.g_law_is_formed (hr.mono (by decide)) (pa_cons (pe_ix ix_tup (pv 8) pe_int (fun _ _ => rfl)) (pa_cons (pe_callB call_len_seq (by rfl) T.free_len PySem.boot_len (pa_cons (pv 5) pa_nil)) (pa_cons pe_int pa_nil)))))) (pss_one (ps_ret pe_bl)) pss_nil)
  (pss_cons (ps_if (pt_not (pt_val (pe_f (ok_law_bears T 10) T.g_law_bears (hr.mono (by decide)) (pa_cons (pv 4) (pa_cons (pv 1) (pa_cons (pe_op op_sub (pv 9) pe_int) (pa_cons (pe_ix ix_tup (pv 8) pe_int (fun _ _ => rfl)) (pa_cons (pe_f (ok_law_ahead T) T.g_law_ahead (hr.mono (by decide)) (pa_cons (pv 4) (pa_cons (pv 1) pa_nil))) pa_nil)))))))) (pss_one (ps_ret pe_bl)) pss_nil)
  (pss_cons (ps_expr (pe_bm0 PySem.F.plainAttrs_list PySem.F.slot_list_clear PySem.F.type_list_clear mt_clear (pv 7)))
  (pss_cons (ps_expr (pe_bm PySem.F.plainAttrs_list PySem.F.slot_list_append PySem.F.type_list_append mt_append (pv 10) (pa_cons pe_int pa_nil)))
  (pss_cons (ps_set (i := 11) sc_law.nd rfl (Or.inl rfl) (pe_f (ok_shortest T) T.g_shortest (hr.mono (by decide)) (pa_cons (pv 3) (pa_cons (pe_callTy call_list_of (by rfl) T.free_list (by decide +kernel) (pa_cons (pv 5) pa_nil)) pa_nil))))
  (pss_one (ps_ret (pe_and (pe_cmpR op_eq (pe_ix ix_tup (pv 11) pe_int (fun _ _ => rfl)) (pv 9) (nomark _)) (pe_and (pe_f (ok_law_do T) T.g_law_do (hr.mono (by decide)) (pa_cons (pv 4) (pa_cons (pv 1) (pa_cons (pv 9) (pa_cons (pe_ix ix_tup (pv 11) pe_int (fun _ _ => rfl)) pa_nil))))) (pe_one (pe_cmpR op_eq (pe_callB call_len_seq (by rfl) T.free_len PySem.boot_len (pa_cons (pe_ix ix_tup (pv 11) pe_int (fun _ _ => rfl)) pa_nil)) (pe_callB call_len_seq (by rfl) T.free_len PySem.boot_len (pa_cons (pv 5) pa_nil)) (nomark _)))))))))))))))))))))))), ?_⟩
    obtain ⟨p4, p99⟩ := places_in xs
    -- places
    refine q_asg (v := .int (placesI xs)) (ev_callV (ea_cons (ev_var rfl) ea_nil) (fun H1 e1 Q q _ => ⟨a, xs, rfl, ha.up e1, q⟩ : SpV (spPlaces K) _ H _)) fun H1 e1 => ?_
    generalize hpl : placesI xs = pl at *
    -- ways
    have d0 := draw_lo (xs := xs) (k := 2) (many := 6) (by decide)
    have d1 := draw_hi (xs := xs) (k := 2) (many := 6) (by decide)
    obtain ⟨n, hn⟩ := Int.eq_ofNat_of_zero_le (a := 1 + drawI xs 2 6) (by omega)
    refine q_asgP (ep_call (R := fun v H' => ∃ (l : Addr) (as : List Addr), v = .ref l ∧ H' l = some (.lst (as.map V.ref)) ∧ AllAt TupAt H' as (waysI xs pl n)) (ea_cons (ev_var rfl) (ea_cons (ev_is (ev_op ev_c (ev_draw (ea_cons (ev_var rfl) (ea_cons ev_c (ea_cons ev_c ea_nil))) (ha.up e1) (by decide) (by decide) (by decide)) rv_I0) (congrArg V.int hn)) (ea_cons (ev_var rfl) ea_nil))) (fun H2 e2 Q q _ => ⟨a, xs, pl, n, rfl, ha.up (e1.trans e2), by omega, by omega, q⟩)) fun v H2 e2 r2 => ?_
    obtain ⟨wl, was, rfl, hwl, hwas⟩ := r2
    have wlen : (waysI xs pl n).length = n := by simp [waysI]
    have wok : ∀ w ∈ waysI xs pl n, WayW pl w := fun w hw => by
      obtain ⟨k, hk, rfl⟩ := List.mem_map.mp hw
      exact way_ok xs (by omega) (by omega) (List.mem_range.mp hk)
    have wnd : ((waysI xs pl n).map WayD.name).Nodup := by
      rw [ways_names]
      exact names_nodup xs (by omega)
    generalize hws : waysI xs pl n = ws at *
    -- crossing
    refine q_asgP (ep_call (R := fun v H' => ∃ p, v = .ref p ∧ CrossAt K pl ws p H') (ea_cons (ev_callV (z := .str (textOf (lawRows pl ws))) (ea_cons (ev_var rfl) (ea_cons (ev_var rfl) ea_nil)) (fun H3 e3 Q q _ => ⟨pl, wl, was, ws, rfl, e3 _ _ hwl, hwas.imp fun _ _ r => TupAt.tup.up e3 r, wok, by omega, p99, by omega, q⟩ : SpV (spText K) _ H2 _)) ea_nil) (fun H3 e3 Q q _ => ⟨pl, ws, rfl, by omega, p99, wok, by omega, by omega, wnd, q⟩)) fun v H3 e3 r3 => ?_
    obtain ⟨c, rfl, hc⟩ := r3
    have e13 := (e1.trans e2).trans e3
    -- wanted
    refine q_asgP (ep_call (R := fun v H' => ∃ p, v = .ref p ∧ LWantsAt (wantsI xs ws) p H') (ea_cons (ev_var rfl) (ea_cons (ev_var rfl) ea_nil)) (fun H4 e4 Q q _ => ⟨a, wl, xs, was, ws, rfl, ha.up (e13.trans e4), (e3.trans e4) _ _ hwl, hwas.imp fun _ _ r => TupAt.tup.up (e3.trans e4) r, by omega, by omega, q⟩)) fun v H4 e4 r4 => ?_
    obtain ⟨wt, rfl, hwt⟩ := r4
    have c1 := count_in xs (n := ws.length) (by omega)
    have hwok := wants_wt (xs := xs) (ws := ws) (pl := pl) (by omega) wok
    have hwants := wants_ok (xs := xs) (ws := ws) (pl := pl) (by omega) wok wnd (by omega)
    have dlen : (wantsI xs ws).length = wtCount xs ws.length := by simp [wantsI]
    have g : GoodW pl (wantsI xs ws) := good_of (by omega) (by omega) hwok
    generalize hwd : wantsI xs ws = wd at *
    have hnames : ∀ x ∈ wd, NameOk x.1.name := fun x hx => (hwok x hx).ok.name
    have hc4 := hc.up e4
    -- wants
    obtain ⟨las, hla, hlas⟩ := id hwt
    have hlz : (las.map V.ref).length = wd.length := by rw [List.length_map, hlas.1]
    refine q_asgP (ep_lcL (K := K) (xs := las.map V.ref) (fun i acc Dl H' => ∃ ts : List Addr, acc = ts.map V.ref ∧ AllAt WantAt H' ts (wd.take i)) (fun _ => true)
      ⟨fun Dl H1 => ⟨[], rfl, AllAt.nil⟩, fun i acc Dl H1 H2 e ⟨ts, h1, h2⟩ => ⟨ts, h1, h2.imp fun _ _ r => WantAt.tup.up e r⟩, fun i acc Dl H1 h _ => (by cases h), fun i acc Dl H1 ⟨ts, h1, h2⟩ => (by
        rw [h1, List.length_map, h2.1, List.length_take]; omega)⟩
      ((ep_ev (ev_var rfl)).imp fun v H5 e5 q => ⟨wt, q, SqL.lst (e5 _ _ hla)⟩) (by omega) (fun _ => rfl) (fun i x H5 e5 hi => et_yes) (fun i x H5 e5 hi _ acc Dl H6 e6 hD ⟨ts, h1, h2⟩ => ?_)) fun v H5 e5 r5 => ?_
    · rw [List.getElem?_map] at hi
      obtain ⟨b, hb, rfl⟩ := Option.map_eq_some_iff.mp hi
      have hiw : i < wd.length := by
        rw [← hlas.1]
        exact (List.getElem?_eq_some_iff.mp hb).1
      have hx : wd[i]? = some wd[i] := List.getElem?_eq_getElem hiw
      obtain ⟨tw, hb1, hb2⟩ := hlas.2 i b _ hb hx
      have e56 := e5.trans e6
      intro H7 e7 Q q
      refine (eu_tup (ea_cons (ev_op (ev_op (ev_var rfl) ev_c (rv_ixT (v := .ref tw) (SqT.tup (e56 _ _ hb1)) (atI_nat (j := 0) rfl))) ev_c (rv_ixT (v := .str wd[i].1.name) (SqT.tup (e56 _ _ hb2)) (atI_nat (j := 1) rfl))) (ea_cons (ev_op (ev_var rfl) ev_c (rv_ixT (v := .int wd[i].2) (SqT.tup (e56 _ _ hb1)) (atI_nat (j := 1) rfl))) ea_nil)) (show 2 ≤ 100000 by decide)) H7 e7 _ fun p H8 _ e8 hp => q _ H8 e8 ⟨ts ++ [p], by rw [h1, List.map_append]; rfl, ?_⟩
      rw [take_succ_at hx]
      have hD8 : H8 Dl = some (.lst acc) := e8 _ _ (e7 _ _ hD)
      exact ((h2.imp fun _ _ r => WantAt.tup.up (e7.trans e8) r).snoc (x := wd[i]) hp).tups WantAt.tup (tups_upd hD8)
    obtain ⟨wa, acc, rfl, _, hwa, ts, rfl, hts⟩ := r5
    rw [hlz, List.take_length] at hts
    have hW5 : WantsAt wd wa H5 := ⟨ts, hwa, hts⟩
    have hc5 := hc4.up e5
    have hL5 := hwt.up e5
    have htz : (ts.map V.ref).length = wd.length := by rw [List.length_map, hts.1]
    -- handed
    refine q_asgL (el_list (ev_var rfl) (SqL.lst hwa)) fun hd H6 hd5 e6 hd6 => ?_
    have hH6 : WantsAt wd hd H6 := ⟨ts, hd6, hts.imp fun _ _ r => WantAt.tup.up e6 r⟩
    -- told
    refine q_asgP (ep_call (ea_cons (ev_var rfl) (ea_cons (ev_var rfl) ea_nil)) (sp_short (hc5.up e6) hH6 hwants g)) fun v H7 e7 r7 => ?_
    obtain ⟨H0, f60, f07, t, bl, m, sz, vp, pp, R⟩ := r7
    obtain rfl := R.v
    obtain ⟨dok, drange⟩ := told_do g R
    have e57 := e6.trans e7
    have one := dok.one
    refine q_when (b := false) (et_is (et_or (et_not (et_test (ev_isTup (ev_var rfl) R.tup))) (fun _ => et_or (et_test (ev_op (ev_lenT (ev_var rfl) (SqT.tup R.tup)) ev_c (rv_ne rfl))) (fun _ => et_test (ev_op (ev_var rfl) (ev_var rfl) (rv_neD (hH6.up e7) (hW5.up e57) hnames))))) (by simp)) (fun hb H8 e8 => by cases hb) (fun _ H8 e8 => ?_)
    have e58 := e57.trans e8
    refine q_asg (ev_op (ev_var rfl) ev_c (rv_ixT (v := .int sz) (SqT.tup (e8 _ _ R.tup)) (atI_nat (j := 0) rfl))) fun H9 e9 => ?_
    refine q_when (b := false) (et_is (et_or (et_not (et_test (ev_isInt (i := sz) (ev_var rfl)))) (fun _ => et_or (et_test (ev_isBool (i := sz) (ev_var rfl))) (fun _ => et_test (ev_op (ev_var rfl) ev_c rv_I0)))) (by simp; omega)) (fun hb H10 e10 => by cases hb) (fun _ H10 e10 => ?_)
    have e710 := (e8.trans e9).trans e10
    refine q_asg (ev_op (ev_var rfl) ev_c (rv_ixT (v := .ref bl) (SqT.tup (e710 _ _ R.tup)) (atI_nat (j := 1) rfl))) fun H11 e11 => ?_
    have e711 := e710.trans e11
    have e511 := e57.trans e711
    have hbl11 := e711 _ _ R.lst
    refine q_when (b := false) (et_is (et_or (et_not (et_test (ev_callV (z := .bl true) (ea_cons (ev_var rfl) (ea_cons (ev_len (ev_var rfl) (SqL.lst (e511 _ _ hwa))) (ea_cons (ev_var rfl) ea_nil))) (fun H12 e12 Q q _ => ⟨bl, wd.length, sz, _, by rw [htz], e12 _ _ hbl11, dok.len, drange, q⟩ : SpV spAre _ H11 _)))) (fun _ => et_not (et_test (ev_callV (z := .bl true) (ea_cons (ev_var rfl) (ea_cons (ev_var rfl) (ea_cons (ev_var rfl) (ea_cons (ev_var rfl) ea_nil)))) (fun H12 e12 Q q _ => ⟨wt, bl, wd, pl, sz, _, rfl, hL5.up (e511.trans e12), by omega, SqL.lst (e12 _ _ hbl11), dok, q⟩ : SpV (spDo K) _ H11 _))))) rfl) (fun hb H12 e12 => by cases hb) (fun _ H12 e12 => ?_)
    have e712 := e711.trans e12
    have e512 := e57.trans e712
    have hpp12 : PaperR pp vp H12 := PaperR.up _ _ _ e712 R.paper
    have hd10 : ppD pp ≤ 10 := wf_ppD R.wf
    have n5 := g.n5
    refine q_when (b := false) (et_is (et_not (et_test (ev_callV (z := .bl true) (ea_cons (ev_op (ev_var rfl) ev_c (rv_ixT (v := vp) (SqT.tup (e712 _ _ R.tup)) (atI_nat (j := 2) rfl))) (ea_cons (ev_is (ev_len (ev_var rfl) (SqL.lst (e512 _ _ hwa))) (by rw [htz])) (ea_cons ev_c ea_nil))) (sp_formed (n := wd.length) (d := 0) hpp12 R.wf hd10 (by omega))))) rfl) (fun hb H13 e13 => by cases hb) (fun _ H13 e13b => ?_)
    have e713 := e712.trans e13b
    have e513 := e57.trans e713
    have hpp13 : PaperR pp vp H13 := PaperR.up _ _ _ e713 R.paper
    refine q_when (b := false) (et_is (et_not (et_test (ev_ep (ep_callP (R := fun v _ => v = .bl true) (ap_consV (ev_var rfl) (ap_consV (ev_var rfl) (ap_consV (ev_op (ev_var rfl) ev_c rv_I0) (ap_consV (ev_op (ev_var rfl) ev_c (rv_ixT (v := vp) (SqT.tup (e713 _ _ R.tup)) (atI_nat (j := 2) rfl))) (ap_last (ep_call (R := fun v H' => ∃ l, v = .ref l ∧ PairsAt (firstN (tabOf pl wd) wd.length) l H') (ea_cons (ev_var rfl) (ea_cons (ev_var rfl) ea_nil)) (fun H14 e14 Q q _ => ⟨wt, wd, pl, rfl, hL5.up (e513.trans e14), by omega, by omega, by omega, q⟩))))))) ?_)))) rfl) (fun hb H14 e14 => by cases hb) (fun _ H14 e14 => ?_)
    · rintro vs H14 e14 ⟨_, rfl, _, rfl, _, rfl, _, rfl, _, rfl, l', rfl, hl'⟩
      exact fun H15 e15 Q q E => sp_bears ((hL5.up e513).up e14) (by omega) (PaperR.up _ _ _ e14 hpp13) hl' g (first_ok g) R.wf hd10 H15 e15 Q (fun H16 e16 => q _ H16 e16 (by rw [R.bears])) E
    have e714 := e713.trans e14
    have e514 := e57.trans e714
    -- the handed list is emptied, the begins are changed
    have hd14 : H14 hd = some (.lst (ts.map V.ref)) := (e7.trans e714) _ _ hd6
    have hbl5 : H5 bl = none := fresh_back (e6.trans f60) R.new
    refine s_clear hd14 (ev_var rfl) fun H15 e15 => ?_
    have x15 : Ex H5 (upd H15 hd (.lst [])) := Ex.mut (e514.trans e15) hd5
    have nbh : bl ≠ hd := fun z => by
      subst z
      have := f60 _ _ hd6
      rw [R.new] at this
      cases this
    have hbl15 : (upd H15 hd (.lst [])) bl = some (.lst (intV (settledB (tabOf pl wd) sz (bestOf wd.length (wd.map aloneOf) (tabOf pl wd) m).2 wd.length))) := by
      rw [upd_ne nbh]
      exact e15 _ _ (e714 _ _ R.lst)
    refine q_app hbl15 (ev_var rfl) ev_c (by
      unfold intV
      rw [List.length_map, dok.len]
      omega) fun H16 e16 => ?_
    have x16 : Ex H5 (upd H16 bl (.lst (intV (settledB (tabOf pl wd) sz (bestOf wd.length (wd.map aloneOf) (tabOf pl wd) m).2 wd.length) ++ [.int 0]))) := Ex.mut (x15.trans e16) hbl5
    generalize hH17 : upd H16 bl (.lst (intV (settledB (tabOf pl wd) sz (bestOf wd.length (wd.map aloneOf) (tabOf pl wd) m).2 wd.length) ++ [.int 0])) = H17 at *
    -- again
    refine q_asgP (ep_callP (R := fun v H' => ∃ H0, Ex H17 H0 ∧ Ex H0 H' ∧ ∃ t l m s vp pp, ToldR wd.length (wd.map aloneOf) (tabOf pl wd) H0 v H' t l m s vp pp) (ap_consV (ev_var rfl) (ap_last (ep_l (el_list (ev_var rfl) (SqL.lst (x16 _ _ hwa)))))) ?_) fun v H18 e18 r18 => ?_
    · rintro vs H18 e18 ⟨_, rfl, _, rfl, l', rfl, _, hl'⟩
      intro H19 e19 Q q E
      refine sp_short ((hc5.up x16).up e18) (show WantsAt wd l' H18 from ⟨ts, hl', hts.imp fun _ _ r => WantAt.tup.up (x16.trans e18) r⟩) hwants g H19 e19 Q (fun v H20 e20 ⟨H0, g1, g2, r⟩ => q v H20 e20 ⟨H0, e18.trans g1, g2, r⟩) E
    obtain ⟨H0', f1, f2, t', bl', m', sz', vp', pp', R'⟩ := r18
    obtain rfl := R'.v
    have hm : m = m' := R.fin.uniq R'.fin
    subst hm
    have hsz : sz = sz' := by
      have a1 := R.best
      have a2 := R'.best
      rw [a1] at a2
      exact Option.some.inj a2
    subst hsz
    have x18 := x16.trans e18
    refine s_ret (ev_is (ev_andV (ev_op (ev_op (ev_var rfl) ev_c (rv_ixT (v := .int sz) (SqT.tup R'.tup) (atI_nat (j := 0) rfl))) (ev_var rfl) (rv_eq rfl)) (fun _ => ev_andV (ev_callV (z := .bl true) (ea_cons (ev_var rfl) (ea_cons (ev_var rfl) (ea_cons (ev_var rfl) (ea_cons (ev_op (ev_var rfl) ev_c (rv_ixT (v := .ref bl') (SqT.tup R'.tup) (atI_nat (j := 1) rfl))) ea_nil)))) (fun H19 e19 Q q _ => ⟨wt, bl', wd, pl, sz, _, rfl, hL5.up (x18.trans e19), by omega, SqL.lst (e19 _ _ R'.lst), dok, q⟩ : SpV (spDo K) _ H18 _)) (fun _ => ev_op (ev_len (ev_op (ev_var rfl) ev_c (rv_ixT (v := .ref bl') (SqT.tup R'.tup) (atI_nat (j := 1) rfl))) (SqL.lst R'.lst)) (ev_len (ev_var rfl) (SqL.lst (x18 _ _ hwa))) (rv_eq rfl)))) ?_) fun H19 e19 => k _
    unfold intV
    rw [List.length_map, dok.len, htz]
    simp
end
end Lw


set_option Elab.async false
set_option linter.all false
set_option maxRecDepth 100000
set_option maxHeartbeats 0
namespace Lw
open PySem PySem.Spec PyProof.Rows L2
theorem facts {P : Program} {w : World} {K : PySem.W.Frag} {h : Heap} {mg : Str → Option Value} {f : Addr} (X : K.In h) (G : h.Ns mainGlobals mg) (hfa : mg ("law" : Str) = some (.ref f)) (c : He.SaysD fa fn K) (e : exB K = true) :
    ∃ fd : FuncData, (∀ (s : Shared) (v : Value), BindsTo s fd ⟨[v], []⟩ [("_law_script", v)]) ∧ ∀ base : Heap, K.In base → base.Ns mainGlobals mg → FnOk P w K mg base CX0 15 f fd ["_law_script"] (spLaw K) := by
  have T : TX K mg := ⟨c, e, h, X, G⟩
  obtain ⟨fd, F⟩ := T.f_law
  have ef := hfa.symm.trans T.g_law
  cases ef
  have b := FunD.bindsA (ps := ["_law_script"]) F fun _ _ _ _ _ _ us hl => match us, hl with | [_], _ => rfl
  exact ⟨fd, fun s v => b s [v] rfl, fun base _ _ => ok_law T F⟩
end Lw
open PySem PySem.W PySem.Calls PyProof.Rows
theorem PySem.Challenge.cw_lampway_k64_whole_shortest_round_holds : PySem.Challenge.rw_lampway_k64_whole_shortest_round.Holds := by
  w_on; o_law
  refine HandSHeadRun.head_any (r := OpenLaw.row PySem.Challenge.rw_lampway_k64_whole_shortest_round) (q := view (OpenLaw.row PySem.Challenge.rw_lampway_k64_whole_shortest_round).prog [62]) (H := Lw.hookY 5) (ob := Lw.ob) (M := 20000) (loose := Lw.names) (d := HandSHeadRun.topDef (OpenLaw.row PySem.Challenge.rw_lampway_k64_whole_shortest_round).prog 62) (kwd := []) Lw.ob_eq
    (by kernel_rfl) (fun s => by kernel_rfl) Lw.run (by kernel_rfl) (by kernel_rfl) (by kernel_rfl) (by rfl) (by first | assumption | decide +kernel) (by decide +kernel) ⟨rfl, rfl, rfl, rfl, rfl, by decide +kernel⟩ ?hw ?hc
  case hw => w_witness2
  case hc =>
    refine L2.walk_ofE (l := PySem.Challenge.rw_lampway_k64_whole_shortest_round) (n := 63) (k := 15) (x := "_law_script") (CX := L2.CX0) rfl (by decide) (by kernel_rfl) ⟨rfl, by decide, by decide⟩ ?F (fun _ _ _ _ z => z)
    intro w mg fa h Y G hmg0
    obtain ⟨K, KX, c, e⟩ := Y
    have hmg : mg ("law" : PySem.Str) = some (.ref fa) := by
      have e : (HandSHeadRun.topDef (OpenLaw.row PySem.Challenge.rw_lampway_k64_whole_shortest_round).prog 62).name = ("law" : PySem.Str) := by kernel_rfl
      rw [← e]
      exact hmg0
    obtain ⟨fd, hb, hF⟩ := Lw.facts (P := (PySem.Challenge.rw_lampway_k64_whole_shortest_round).prog) (w := w) KX G hmg c e
    exact ⟨K, fd, Lw.spLaw K, KX, hb, fun H a ns hl _ hS => ⟨a, ns, rfl, hS, fun _ => rfl⟩, hF⟩

