import PyProof.Rows.All
import Wide.All
import OpenK.AllK
import Wide.FinOn
import KE.KStateDown
import Lean
import HandS.ForMost
import HandS.Exc
import HandS.ExcInit
import HandS.Defaults
import HandS.More
import HandS.Head0
import HandS.Head1
import HandS.Head2
import HandS.HeadHook1
import HandS.HeadHook2
import PySem.Challenge.RW_roundless_k86_whole_any_text_of_programs
import HandS.HeadEnd
import KE.KExcIs
import HandS.Codes
import HandS.JoinGen
import PyProof.Rows.RegReprOcc
import KE.IntTextLaws
import HandS.Set
import HandS.IsInst
import HandS.CallLocal
import HandS.Style
import HandS.NoneIn
import HandS.TupAny
import HandS.Wide
import HandS.RaiseMore
import HandS.SortKw
import KE.KDictKeyed
import KE.KDictWalk
import KE.SortData
import KE.KDictItemsList
import HandS.Walk
import PyProof.Rows.ReprR
import HandS.ListItems
import HandS.TupSets
import PyProof.Rows.CountFlat
import PyProof.Rows.StrMul
set_option Elab.async false
set_option linter.all false
set_option maxRecDepth 100000
set_option maxHeartbeats 4000000
/-! the text by places; what the top leaves, as facts by names -/
namespace K86
open PySem PySem.Spec PyProof.Rows L2
def top (i : Nat) : Stmt := PySem.Challenge.pw_roundless_k86_whole_any_text_of_programs.main.body.getD i (.Pass ⟨0, 0, 0, 0⟩)
abbrev FnP (K : PySem.W.Frag) (x : Str) (st : Stmt) (f : Addr) (fd : FuncData) : Prop := FunD K x x (defArgs st) (defBody st) (defScope st) [] [] f fd
abbrev FnM (K : PySem.W.Frag) (x q : Str) (st : Stmt) (f : Addr) (fd : FuncData) : Prop := FunD K x q (defArgs st) (defBody st) (defScope st) [] [] f fd
def defOfTop (x : Str) (st : Stmt) : He.DefD := ⟨(x, none), x, x, defArgs st, defBody st, defScope st, [], []⟩
def defOfCls (c x q : Str) (st : Stmt) : He.DefD := ⟨(c, some x), x, q, defArgs st, defBody st, defScope st, [], []⟩
abbrev s_is_name : Stmt := top 14
abbrev s_number_of : Stmt := top 15
abbrev s_words_of : Stmt := top 16
abbrev s_common_divisor : Stmt := top 19
abbrev s_fraction : Stmt := top 20
abbrev s_plus : Stmt := top 21
abbrev s_poly_of : Stmt := top 26
abbrev s_mono_product : Stmt := top 27
abbrev s_is_small : Stmt := top 32
abbrev s_pairs_of : Stmt := top 33
abbrev s_form_of : Stmt := top 34
abbrev s_added : Stmt := top 35
abbrev s_share_in : Stmt := top 37
abbrev s_count_in : Stmt := top 38
abbrev s_pair_in : Stmt := top 39
abbrev s_form_in : Stmt := top 40
abbrev s_term_in : Stmt := top 42
abbrev s_poly_in : Stmt := top 43
abbrev s_read_program : Stmt := top 52
abbrev s_law_mixed : Stmt := top 54
abbrev s_law_draw : Stmt := top 55
abbrev s_law_take : Stmt := top 56
abbrev s_law_boxes : Stmt := top 57
abbrev s_law_mono : Stmt := top 58
abbrev s_law_number : Stmt := top 59
abbrev s_law_poly : Stmt := top 60
abbrev s_law_form : Stmt := top 61
abbrev s_law_row : Stmt := top 62
abbrev s_law_rows : Stmt := top 63
abbrev s_law_term_text : Stmt := top 64
abbrev s_law_poly_text : Stmt := top 65
abbrev s_law_form_text : Stmt := top 66
abbrev s_law_text_rows : Stmt := top 67
abbrev s_law_is_name : Stmt := top 68
abbrev s_law_figures : Stmt := top 69
abbrev s_law_is_number : Stmt := top 70
abbrev s_law_mono_of : Stmt := top 71
abbrev s_law_poly_term : Stmt := top 72
abbrev s_law_form_term : Stmt := top 73
abbrev s_law_plus : Stmt := top 74
abbrev s_law_sum_in : Stmt := top 75
abbrev s_law_poly_in : Stmt := top 76
abbrev s_law_form_in : Stmt := top 77
abbrev s_law_fail : Stmt := top 78
abbrev s_law_next : Stmt := top 79
abbrev s_law_told : Stmt := top 80
abbrev s_law_pairs : Stmt := top 81
abbrev s_law_one : Stmt := top 82
abbrev s_law_within : Stmt := top 83
abbrev s_law_due : Stmt := top 84
abbrev s_law_bent : Stmt := top 85
abbrev s_law_said : Stmt := top 86
abbrev s_law : Stmt := top 87
abbrev s_BadRow_init : Stmt := inClass (top 2) 0
abbrev s_Lines_init : Stmt := inClass (top 51) 0
abbrev s_Lines_need : Stmt := inClass (top 51) 1
abbrev s_Lines_take : Stmt := inClass (top 51) 2
abbrev s_Lines_need_alone : Stmt := inClass (top 51) 3
abbrev s_Lines_take_pairs : Stmt := inClass (top 51) 4
abbrev s_Lines_take_row : Stmt := inClass (top 51) 5
abbrev s_Lines_take_within : Stmt := inClass (top 51) 6
abbrev s_Lines_take_all : Stmt := inClass (top 51) 7
def fn1 : List He.DefD := [defOfTop "is_name" s_is_name, defOfTop "number_of" s_number_of, defOfTop "words_of" s_words_of, defOfTop "common_divisor" s_common_divisor, defOfTop "fraction" s_fraction, defOfTop "plus" s_plus, defOfTop "poly_of" s_poly_of, defOfTop "mono_product" s_mono_product, defOfTop "is_small" s_is_small, defOfTop "pairs_of" s_pairs_of, defOfTop "form_of" s_form_of, defOfTop "added" s_added, defOfTop "share_in" s_share_in, defOfTop "count_in" s_count_in, defOfTop "pair_in" s_pair_in, defOfTop "form_in" s_form_in, defOfTop "term_in" s_term_in, defOfTop "poly_in" s_poly_in, defOfTop "read_program" s_read_program, defOfTop "_law_mixed" s_law_mixed, defOfTop "_law_draw" s_law_draw, defOfTop "_law_take" s_law_take, defOfTop "_law_boxes" s_law_boxes, defOfTop "_law_mono" s_law_mono, defOfTop "_law_number" s_law_number, defOfTop "_law_poly" s_law_poly, defOfTop "_law_form" s_law_form, defOfTop "_law_row" s_law_row, defOfTop "_law_rows" s_law_rows, defOfTop "_law_term_text" s_law_term_text]
def fn2 : List He.DefD := [defOfTop "_law_poly_text" s_law_poly_text, defOfTop "_law_form_text" s_law_form_text, defOfTop "_law_text_rows" s_law_text_rows, defOfTop "_law_is_name" s_law_is_name, defOfTop "_law_figures" s_law_figures, defOfTop "_law_is_number" s_law_is_number, defOfTop "_law_mono_of" s_law_mono_of, defOfTop "_law_poly_term" s_law_poly_term, defOfTop "_law_form_term" s_law_form_term, defOfTop "_law_plus" s_law_plus, defOfTop "_law_sum_in" s_law_sum_in, defOfTop "_law_poly_in" s_law_poly_in, defOfTop "_law_form_in" s_law_form_in, defOfTop "_law_fail" s_law_fail, defOfTop "_law_next" s_law_next, defOfTop "_law_told" s_law_told, defOfTop "_law_pairs" s_law_pairs, defOfTop "_law_one" s_law_one, defOfTop "_law_within" s_law_within, defOfTop "_law_due" s_law_due, defOfTop "_law_bent" s_law_bent, defOfTop "_law_said" s_law_said, defOfTop "law" s_law]
def fn3 : List He.DefD := [defOfCls "BadRow" "__init__" "BadRow.__init__" s_BadRow_init, defOfCls "Lines" "__init__" "Lines.__init__" s_Lines_init, defOfCls "Lines" "need" "Lines.need" s_Lines_need, defOfCls "Lines" "take" "Lines.take" s_Lines_take, defOfCls "Lines" "need_alone" "Lines.need_alone" s_Lines_need_alone, defOfCls "Lines" "take_pairs" "Lines.take_pairs" s_Lines_take_pairs, defOfCls "Lines" "take_row" "Lines.take_row" s_Lines_take_row, defOfCls "Lines" "take_within" "Lines.take_within" s_Lines_take_within, defOfCls "Lines" "take_all" "Lines.take_all" s_Lines_take_all]
def fn : List He.DefD := fn1 ++ (fn2 ++ fn3)
def fa1 : List He.Fa := [.glo "is_name", .glo "number_of", .glo "words_of", .glo "common_divisor", .glo "fraction", .glo "plus", .glo "poly_of", .glo "mono_product", .glo "is_small", .glo "pairs_of", .glo "form_of", .glo "added", .glo "share_in", .glo "count_in", .glo "pair_in", .glo "form_in", .glo "term_in", .glo "poly_in", .glo "read_program", .glo "_law_mixed", .glo "_law_draw", .glo "_law_take", .glo "_law_boxes", .glo "_law_mono", .glo "_law_number", .glo "_law_poly", .glo "_law_form", .glo "_law_row", .glo "_law_rows", .glo "_law_term_text"]
def fa2 : List He.Fa := [.glo "_law_poly_text", .glo "_law_form_text", .glo "_law_text_rows", .glo "_law_is_name", .glo "_law_figures", .glo "_law_is_number", .glo "_law_mono_of", .glo "_law_poly_term", .glo "_law_form_term", .glo "_law_plus", .glo "_law_sum_in", .glo "_law_poly_in", .glo "_law_form_in", .glo "_law_fail", .glo "_law_next", .glo "_law_told", .glo "_law_pairs", .glo "_law_one", .glo "_law_within", .glo "_law_due", .glo "_law_bent", .glo "_law_said", .glo "law"]
def fa3 : List He.Fa := [.glo "LoopError", .glo "BadRow", .glo "BadLoop", .glo "Hindered", .glo "BadPaper", .glo "TooGreat", .glo "BadQuestion", .glo "OutOfPlace", .glo "Lines"]
def fa4 : List He.Fa := [.free "len", .free "isinstance", .free "all", .free "any", .free "sorted", .free "tuple", .free "dict", .free "set", .free "abs", .free "int", .free "str", .free "repr", .free "range", .free "max", .free "min", .free "list"]
def fa5 : List He.Fa := [.int "MOST_LETTERS" (8), .int "MOST_FIGURES" (40), .int "MOST_DEGREE" (12), .int "MOST_TERMS" (300), .int "MOST_NUMBER" ((10 ^ 50) ^ 20), .int "MOST_PAIRS_forms" (1000), .int "MOST_PLACE" (99), .int "GREATEST" ((10 ^ 50) ^ 20), .int "MOST_ROWS" (12), .int "MOST_PAIRS_programs" (6), .int "MOST_FORMS" (40), .int "MOST_DEEP" (3), .int "MOST_TOGETHER" (60)]
def fa6 : List He.Fa := [.str "LETTERS" "abcdefghijklmnopqrstuvwxyz", .str "FIGURES" "0123456789"]
def fa7 : List He.Fa := [.cls "Lines", .mkr "Lines", .noat "Lines" "texts", .noat "Lines" "at", .noat "Lines" "together", .meth "Lines" "need", .meth "Lines" "take", .meth "Lines" "need_alone", .meth "Lines" "take_pairs", .meth "Lines" "take_row", .meth "Lines" "take_within", .meth "Lines" "take_all"]
def fa8 : List He.Fa := [.exm "BadRow" "LoopError" true, .keep "BadRow", .noat "BadRow" "row", .noat "BadRow" "word", .free "ValueError", .glo "NOUGHT", .glo "HEADS"]
def fa : List He.Fa := fa1 ++ (fa2 ++ (fa3 ++ (fa4 ++ (fa5 ++ (fa6 ++ (fa7 ++ fa8))))))
def loose0 : List PySem.Str := ["LoopError", "BadRow", "BadLoop", "Hindered", "BadPaper", "TooGreat", "BadQuestion", "OutOfPlace", "LETTERS", "FIGURES", "MOST_LETTERS", "MOST_FIGURES", "is_name", "number_of", "words_of", "NOUGHT", "common_divisor", "fraction", "plus", "MOST_DEGREE"]
def loose1 : List PySem.Str := ["MOST_TERMS", "MOST_NUMBER", "poly_of", "mono_product", "MOST_PAIRS_forms", "MOST_PLACE", "GREATEST", "is_small", "pairs_of", "form_of", "added", "share_in", "count_in", "pair_in", "form_in", "term_in", "poly_in", "MOST_ROWS", "MOST_PAIRS_programs", "MOST_FORMS"]
def loose2 : List PySem.Str := ["MOST_DEEP", "MOST_TOGETHER", "HEADS", "Lines", "read_program", "_law_mixed", "_law_draw", "_law_take", "_law_boxes", "_law_mono", "_law_number", "_law_poly", "_law_form", "_law_row", "_law_rows", "_law_term_text", "_law_poly_text", "_law_form_text", "_law_text_rows", "_law_is_name"]
def loose3 : List PySem.Str := ["_law_figures", "_law_is_number", "_law_mono_of", "_law_poly_term", "_law_form_term", "_law_plus", "_law_sum_in", "_law_poly_in", "_law_form_in", "_law_fail", "_law_next", "_law_told", "_law_pairs", "_law_one", "_law_within", "_law_due", "_law_bent", "_law_said"]
def loose : List PySem.Str := loose0 ++ (loose1 ++ (loose2 ++ loose3))
/-! what is further told of the top's objects, as one Bool -/
def oexB (K : PySem.W.Frag) (C : Addr) : Bool := (match K.lookup C with
  | some ⟨.type t, _, .cls cd, sl⟩ => (match cd.mro, sl.toList with
    | .ref c :: bm, [_, _, _, _, some (.builtin n), _] => decide (t = "type") && (decide (c = C) && (decide (n = "ValueError.__new__") && (!cd.hasDel && (cd.hasDict && PySem.HandSPX.refsVE bm))))
    | _, _ => false)
  | _ => false)
def optB {α : Type} [DecidableEq α] (a b : Option α) : Bool := decide (a = b)
/-- an own error: made, told apart, its __init__ -/
def excB (K : PySem.W.Frag) : Bool := oexB K (He.ga K "BadRow") &&
  (decide (PySem.W.findIn K (.ref (He.ga K "BadRow")) "__setattr__" = some (some (.builtin "object.__setattr__"))) &&
  (decide (PySem.W.subIn K (.ref (He.ga K "BadRow")) (.type "BaseException") = some true) &&
  (decide (PySem.W.typeIn K (.ref (He.ga K "BadRow")) = some (.type "type")) &&
  (decide (PySem.W.findIn K (.ref (He.ga K "BadRow")) "__init__" = some (some (.ref (He.ma K (He.ga K "BadRow") "__init__")))) &&
  decide (PySem.W.typeIn K (.ref (He.ma K (He.ga K "BadRow") "__init__")) = some (.type "function"))))))
/-- an own error asked for its class -/
def excC (K : PySem.W.Frag) : Bool := (PySem.W.clsIn K (He.ga K "BadRow")).isSome &&
  (decide (PySem.W.findIn K (.ref (He.ga K "BadRow")) "__class__" = some (some (.builtin "object.__class__"))) &&
  (decide (PySem.W.specialIn K (.builtin "object.__class__") "__get__" = some (some (.builtin "getset_descriptor.__get__"))) &&
  (decide (PySem.W.takesIn K (.builtin "object.__class__") = some true) && decide (PySem.W.mroIn K (He.ga K "BadRow") (.type "object") = some true))))
def excB2 (K : PySem.W.Frag) : Bool :=
  decide (PySem.W.findIn K (.ref (He.ga K "BadRow")) "__getattribute__" = some (some (.builtin "BaseException.__getattribute__"))) &&
  (decide (PySem.W.findIn K (.ref (He.ga K "BadRow")) "__getattr__" = some none) &&
  (decide (PySem.W.kitAny K (.ref (He.ga K "BadRow")) [.ref (He.ga K "BadLoop"), .ref (He.ga K "BadPaper"), .ref (He.ga K "BadQuestion"), .ref (He.ga K "Hindered"), .ref (He.ga K "OutOfPlace"), .ref (He.ga K "TooGreat")] = some false) &&
  (decide (PySem.W.kitOne K (.ref (He.ga K "BadRow")) (.ref (He.ga K "BadRow")) = some true) &&
  (decide (PySem.W.kitOne K (.ref (He.ga K "BadRow")) (.type "ValueError") = some true) &&
  ((match PySem.W.findCls K (.ref (He.ga K "LoopError")) (.type "type") "__init__" with
    | some (.val (.builtin s)) => decide (s = "ValueError.__init__")
    | _ => false) &&
  (PySem.W.readsIn K (He.ga K "LoopError") (.type "type") && (PySem.W.hasDictIn K (He.ga K "BadRow") && excC K)))))))
def ex (K : PySem.W.Frag) : Bool := He.tupB K "NOUGHT" [.int 0, .int 1] && (He.tupB K "HEADS" [.str "both", .str "loop", .str "jump", .str "by", .str "end"] && (excB K && excB2 K))
abbrev AlM : Type := He.AlD × Bool
/-- what the names reach, and the statics -/
def asM (g : Addr → Option Obj) : List Addr := He.asD g 5 ++ [cStatics]
def obsM (g : Addr → Option Obj) : AlM := (He.obsD fa fn (He.frG g (asM g)), ex (He.frG g (asM g)))
def valM : AlM := (He.valD fn, true)
structure Says (K : PySem.W.Frag) : Prop where
  d : He.SaysD fa fn K
  x : ex K = true
def hk : PySem.W.Hook where
  α := AlM
  obs := fun s => obsM s.heap.get?
  val := fun _ => valM
  says := fun _ h => ∃ K : PySem.W.Frag, K.In h ∧ Says K
  of := fun _ _ e => ⟨_, He.frG_in, congrArg (fun z : AlM => z.1) e, congrArg (fun z : AlM => z.2) e⟩
  keeps := fun _ _ _ ⟨K, hK, c⟩ k => ⟨K, PySem.W.Frag.In.keeps hK k, c⟩
def ob (s : PySem.W.SharedT) : AlM := obsM (HandSHeadRun.getT s)
theorem ob_eq (s : PySem.W.SharedT) : ob s = hk.obs s.abs := by
  have e : HandSHeadRun.getT s = s.abs.heap.get? := funext (HandSHeadRun.getT_eq s)
  show obsM (HandSHeadRun.getT s) = obsM s.abs.heap.get?
  rw [e]
abbrev R : PySem.W.OpenRow := PySem.W.OpenLaw.row PySem.Challenge.rw_roundless_k86_whole_any_text_of_programs
end K86
set_option Elab.async false
set_option linter.all false
set_option maxRecDepth 100000
set_option maxHeartbeats 0
namespace K86
open PySem PySem.Spec PyProof.Rows L2
theorem run (w : World) : HandSHeadRun.RunEq R (PySem.W.view R.prog [87]) hk ob 6000 loose w := by
  intro os
  kernel_rfl
end K86
set_option Elab.async false
set_option linter.all false
set_option maxRecDepth 100000
set_option maxHeartbeats 4000000
/-! data that stand in the abstract heap; dicts whose keys are nested tuples -/
namespace K86
open PySem PySem.Spec PyProof.Rows L2
/-! ### heaps that grow -/
def Gr (H H' : Hp) : Prop := ∀ a o, H a = some o → H' a = some o
theorem Gr.rfl' (H : Hp) : Gr H H := fun _ _ e => e
theorem Gr.trans {H H1 H2 : Hp} (a : Gr H H1) (b : Gr H1 H2) : Gr H H2 := fun x o e => b x o (a x o e)
theorem Gr.new {H : Hp} {p : Addr} {o : HO} (h : H p = none) : Gr H (upd H p o) := fun b u e => by
  rw [upd_ne (ne_of_none e h)]
  exact e
theorem Gr.more {H H1 : Hp} {p : Addr} {o : HO} (a : Gr H H1) (h : H1 p = none) : Gr H (upd H1 p o) := a.trans (Gr.new h)
theorem Gr.mut {H H1 : Hp} {p : Addr} {o : HO} (a : Gr H H1) (h : H p = none) : Gr H (upd H1 p o) := fun b u e => by
  rw [upd_ne (ne_of_none e h)]
  exact a b u e
theorem Gr.free {H H1 : Hp} (a : Gr H H1) {p : Addr} (h : H1 p = none) : H p = none := by
  cases q : H p with
  | none => rfl
  | some o =>
    rw [a p o q] at h
    cases h
/-- all but d stands -/
def GrBut (d : Addr) (H H' : Hp) : Prop := ∀ a o, H a = some o → a ≠ d → H' a = some o
theorem GrBut.rfl' (d : Addr) (H : Hp) : GrBut d H H := fun _ _ e _ => e
theorem GrBut.trans {d : Addr} {H H1 H2 : Hp} (a : GrBut d H H1) (b : GrBut d H1 H2) : GrBut d H H2 := fun x o e n => b x o (a x o e n) n
theorem Gr.but {d : Addr} {H H1 : Hp} (a : Gr H H1) : GrBut d H H1 := fun x o e _ => a x o e
theorem GrBut.put {d : Addr} {H : Hp} {o : HO} : GrBut d H (upd H d o) := fun x u e n => by
  rw [upd_ne n]
  exact e
/-- the tuples stand -/
def Kt (H H' : Hp) : Prop := ∀ a xs, Rd H a (.tup xs) → Rd H' a (.tup xs)
theorem Kt.rfl' (H : Hp) : Kt H H := fun _ _ e => e
theorem Kt.trans {H H1 H2 : Hp} (a : Kt H H1) (b : Kt H1 H2) : Kt H H2 := fun x o e => b x o (a x o e)
theorem Gr.kt {H H1 : Hp} (a : Gr H H1) : Kt H H1 := fun x o e => by
  rcases e with e | ⟨u, e⟩
  · exact .inl (a _ _ e)
  · exact .inr ⟨u, a _ _ e⟩
/-- what is no tuple -/
def NoT : Option HO → Prop
  | some (.tup _) => False
  | some (.frz _ _) => False
  | _ => True
theorem Kt.put {H : Hp} {p : Addr} {o : HO} (n : NoT (H p)) : Kt H (upd H p o) := fun x xs e => by
  have hx : x ≠ p := fun z => by
    subst z
    rcases e with e | ⟨u, e⟩ <;> (rw [e] at n; exact n.elim)
  rcases e with e | ⟨u, e⟩
  · exact .inl (by rw [upd_ne hx]; exact e)
  · exact .inr ⟨u, by rw [upd_ne hx]; exact e⟩
theorem GrBut.kt {d : Addr} {H H1 : Hp} (a : GrBut d H H1) (n : NoT (H d)) : Kt H H1 := fun x xs e => by
  have hx : x ≠ d := fun z => by
    subst z
    rcases e with e | ⟨u, e⟩ <;> (rw [e] at n; exact n.elim)
  rcases e with e | ⟨u, e⟩
  · exact .inl (a _ _ e hx)
  · exact .inr ⟨u, a _ _ e hx⟩
theorem Gr.sl {K : PySem.W.Frag} {H H1 : Hp} {a : Addr} {xs : List V} (g : Gr H H1) (h : SqL K H a xs) : SqL K H1 a xs := by
  rcases h with (h | ⟨o, h⟩) | h
  · exact .inl (.inl (g _ _ h))
  · exact .inl (.inr ⟨o, g _ _ h⟩)
  · exact .inr h
theorem Kt.st {K : PySem.W.Frag} {H H1 : Hp} {a : Addr} {xs : List V} (g : Kt H H1) (h : SqT K H a xs) : SqT K H1 a xs := by
  rcases h with h | h
  · exact .inl (g _ _ h)
  · exact .inr h
theorem Gr.st {K : PySem.W.Frag} {H H1 : Hp} {a : Addr} {xs : List V} (g : Gr H H1) (h : SqT K H a xs) : SqT K H1 a xs := g.kt.st h
theorem sl_of {K : PySem.W.Frag} {H : Hp} {a : Addr} {xs : List V} (h : H a = some (.lst xs)) : SqL K H a xs := .inl (.inl h)
theorem st_of {K : PySem.W.Frag} {H : Hp} {a : Addr} {xs : List V} (h : H a = some (.tup xs)) : SqT K H a xs := .inl (.inl h)
/-! ### data without lists -/
mutual
def nl : PyData → Bool
  | .none | .bool _ | .int _ | .str _ => true
  | .tuple ds => nlAll ds
  | .list _ | .dict _ => false
def nlAll : List PyData → Bool
  | [] => true
  | d :: ds => nl d && nlAll ds
end
mutual
theorem Dp.kt {K : PySem.W.Frag} {H H1 : Hp} (g : Kt H H1) : ∀ (d : PyData) (v : V), nl d = true → Dp K H v d → Dp K H1 v d
  | .none, _, _, h => by cases h; exact .non
  | .bool b, _, _, h => by cases h; exact .bl b
  | .int i, _, _, h => by cases h; exact .int i
  | .str x, _, _, h => by cases h; exact .str x
  | .tuple ds, _, n, h => by
    cases h with
    | tup hs ha => exact .tup (g.st hs) (DpAll.kt g ds _ (by simpa only [nl] using n) ha)
  | .list ds, _, n, _ => by simp [nl] at n
  | .dict ds, _, n, _ => by simp [nl] at n
theorem DpAll.kt {K : PySem.W.Frag} {H H1 : Hp} (g : Kt H H1) : ∀ (ds : List PyData) (vs : List V), nlAll ds = true → DpAll K H vs ds → DpAll K H1 vs ds
  | [], _, _, h => by cases h; exact .nil
  | d :: ds, _, n, h => by
    have n' : nl d = true ∧ nlAll ds = true := by simpa [nlAll] using n
    cases h with
    | cons h1 h2 => exact .cons (Dp.kt g d _ n'.1 h1) (DpAll.kt g ds _ n'.2 h2)
end
mutual
theorem Dp.gr {K : PySem.W.Frag} {H H1 : Hp} (g : Gr H H1) : ∀ (d : PyData) (v : V), Dp K H v d → Dp K H1 v d
  | .none, _, h => by cases h; exact .non
  | .bool b, _, h => by cases h; exact .bl b
  | .int i, _, h => by cases h; exact .int i
  | .str x, _, h => by cases h; exact .str x
  | .tuple ds, _, h => by
    cases h with
    | tup hs ha => exact .tup (g.st hs) (DpAll.gr g ds _ ha)
  | .list ds, _, h => by
    cases h with
    | lst hs ha => exact .lst (g.sl hs) (DpAll.gr g ds _ ha)
  | .dict ds, _, h => by cases h
theorem DpAll.gr {K : PySem.W.Frag} {H H1 : Hp} (g : Gr H H1) : ∀ (ds : List PyData) (vs : List V), DpAll K H vs ds → DpAll K H1 vs ds
  | [], _, h => by cases h; exact .nil
  | d :: ds, _, h => by
    cases h with
    | cons h1 h2 => exact .cons (Dp.gr g d _ h1) (DpAll.gr g ds _ h2)
end
theorem DpAll.length {K : PySem.W.Frag} {H : Hp} : ∀ {vs : List V} {ds : List PyData}, DpAll K H vs ds → vs.length = ds.length
  | _, _, .nil => rfl
  | _, _, .cons _ t => by rw [List.length_cons, List.length_cons, DpAll.length t]
theorem DpAll.append {K : PySem.W.Frag} {H : Hp} : ∀ {vs ws : List V} {ds es : List PyData}, DpAll K H vs ds → DpAll K H ws es → DpAll K H (vs ++ ws) (ds ++ es)
  | _, _, _, _, .nil, h => h
  | _, _, _, _, .cons a t, h => .cons a (DpAll.append t h)
theorem DpAll.get {K : PySem.W.Frag} {H : Hp} : ∀ {vs : List V} {ds : List PyData} (i : Nat) {v : V}, DpAll K H vs ds → vs[i]? = some v → ∃ d, ds[i]? = some d ∧ Dp K H v d
  | _, _, _, _, .nil, e => by simp at e
  | _, _, 0, _, .cons a t, e => by
    simp at e
    subst e
    exact ⟨_, by simp, a⟩
  | _, _, i + 1, v, .cons a t, e => by
    obtain ⟨d, h1, h2⟩ := DpAll.get i t (v := v) (by simpa using e)
    exact ⟨d, by simpa using h1, h2⟩
theorem DpAll.strs {K : PySem.W.Frag} {H : Hp} : ∀ ys : List PySem.Str, DpAll K H (ys.map V.str) (ys.map PyData.str)
  | [] => .nil
  | y :: ys => .cons (.str y) (DpAll.strs ys)
theorem nlAll_append : ∀ (a b : List PyData), nlAll a = true → nlAll b = true → nlAll (a ++ b) = true
  | [], b, _, h => h
  | x :: a, b, h, h2 => by
    have n' : nl x = true ∧ nlAll a = true := by simpa [nlAll] using h
    rw [List.cons_append, nlAll, n'.1, nlAll_append a b n'.2 h2] <;> rfl
theorem nlAll_of : ∀ (a : List PyData), (∀ d ∈ a, nl d = true) → nlAll a = true
  | [], _ => by rw [nlAll]
  | x :: a, h => by rw [nlAll, h x (List.mem_cons_self), nlAll_of a fun d hd => h d (List.mem_cons_of_mem _ hd)] <;> rfl
/-! ### keys -/
mutual
def nk : PyData → NestedKey
  | .none => .none
  | .int i => .num i
  | .str x => .text x
  | .tuple ds => .tup (nkAll ds)
  | _ => .none
def nkAll : List PyData → List NestedKey
  | [] => []
  | d :: ds => nk d :: nkAll ds
end
mutual
/-- what may be a key: no bool, no list -/
def keyable : PyData → Bool
  | .none | .int _ | .str _ => true
  | .tuple ds => keyableAll ds
  | _ => false
def keyableAll : List PyData → Bool
  | [] => true
  | d :: ds => keyable d && keyableAll ds
end
mutual
theorem nested_of {h : Heap} : ∀ (d : PyData) (v : Value) (as : List Addr), keyable d = true → Reads h v d as → NestedIs h (nk d) v
  | .none, _, _, _, r => by cases r; exact .none
  | .int i, _, _, _, r => by cases r; exact .int i _
  | .str x, _, _, _, r => by cases r; exact .text x _
  | .bool b, _, _, n, _ => by simp [keyable] at n
  | .list b, _, _, n, _ => by simp [keyable] at n
  | .dict b, _, _, n, _ => by simp [keyable] at n
  | .tuple ds, _, _, n, r => by
    cases r with
    | tuple h1 h2 h3 h4 =>
      rw [nk]
      exact .tup h1 h2 h3 (nestedAll_of ds _ _ (by simpa only [keyable] using n) h4)
theorem nestedAll_of {h : Heap} : ∀ (ds : List PyData) (vs : List Value) (as : List Addr), keyableAll ds = true → ReadsAll h vs ds as → NestedAll h (nkAll ds) vs
  | [], _, _, _, r => by cases r; exact .nil
  | d :: ds, _, _, n, r => by
    have n' : keyable d = true ∧ keyableAll ds = true := by simpa [keyableAll] using n
    cases r with
    | cons h1 h2 =>
      rw [nkAll]
      exact .cons (nested_of d _ _ n'.1 h1) (nestedAll_of ds _ _ n'.2 h2)
end
mutual
theorem nk_inj : ∀ (d e : PyData), keyable d = true → keyable e = true → nk d = nk e → d = e
  | .none, e, _, k, h => by cases e <;> simp_all [nk, keyable]
  | .int i, e, _, k, h => by cases e <;> simp_all [nk, keyable]
  | .str x, e, _, k, h => by cases e <;> simp_all [nk, keyable]
  | .bool b, _, n, _, _ => by simp [keyable] at n
  | .list b, _, n, _, _ => by simp [keyable] at n
  | .dict b, _, n, _, _ => by simp [keyable] at n
  | .tuple ds, e, n, k, h => by
    cases e with
    | tuple es =>
      rw [nk, nk] at h
      have h' : nkAll ds = nkAll es := by injection h
      rw [nkAll_inj ds es (by simpa only [keyable] using n) (by simpa only [keyable] using k) h']
    | _ => simp_all [nk, keyable]
theorem nkAll_inj : ∀ (ds es : List PyData), keyableAll ds = true → keyableAll es = true → nkAll ds = nkAll es → ds = es
  | [], [], _, _, _ => rfl
  | [], e :: es, _, _, h => by simp [nkAll] at h
  | d :: ds, [], _, _, h => by simp [nkAll] at h
  | d :: ds, e :: es, n, k, h => by
    have n' : keyable d = true ∧ keyableAll ds = true := by simpa [keyableAll] using n
    have k' : keyable e = true ∧ keyableAll es = true := by simpa [keyableAll] using k
    rw [nkAll, nkAll] at h
    have h1 : nk d = nk e := by injection h
    have h2 : nkAll ds = nkAll es := by injection h
    rw [nk_inj d e n'.1 k'.1 h1, nkAll_inj ds es n'.2 k'.2 h2]
end
mutual
theorem nk_depth : ∀ d : PyData, keyable d = true → (nk d).depth = d.depth
  | .none, _ => by simp [nk, NestedKey.depth, PyData.depth]
  | .int i, _ => by simp [nk, NestedKey.depth, PyData.depth]
  | .str x, _ => by simp [nk, NestedKey.depth, PyData.depth]
  | .bool b, n => by simp [keyable] at n
  | .list b, n => by simp [keyable] at n
  | .dict b, n => by simp [keyable] at n
  | .tuple ds, n => by
    rw [nk, NestedKey.depth, PyData.depth, nkAll_depth ds (by simpa only [keyable] using n)]
theorem nkAll_depth : ∀ ds : List PyData, keyableAll ds = true → NestedKey.depthAll (nkAll ds) = PyData.depthAll ds
  | [], _ => by simp [nkAll, NestedKey.depthAll, PyData.depthAll]
  | d :: ds, n => by
    have n' : keyable d = true ∧ keyableAll ds = true := by simpa [keyableAll] using n
    rw [nkAll, NestedKey.depthAll, PyData.depthAll, nk_depth d n'.1, nkAll_depth ds n'.2]
end
end K86
set_option Elab.async false
set_option linter.all false
set_option maxRecDepth 100000
set_option maxHeartbeats 4000000
/-! dicts whose keys are nested tuples -/
namespace K86
open PySem PySem.Spec PyProof.Rows L2
/-- a type of keys, each told as data -/
structure KEnc (κ : Type) where
  D : κ → PyData
  key : ∀ k, keyable (D k) = true
  dep : ∀ k, (D k).depth ≤ 8
  inj : ∀ a b, D a = D b → a = b
section
variable {κ : Type} [DecidableEq κ] (P : Program) (w : World) (E : KEnc κ)
def kRel (x : κ × Addr × V) (y : NestedKey × Addr × Value) : Prop := nk (E.D x.1) = y.1 ∧ x.2.1 = y.2.1 ∧ RelV x.2.2 y.2.2
/-- what is told of the dict's own object -/
def kraw (d : Addr) (xs : List (κ × Addr × V)) (h : Heap) : Prop :=
  (d == sysModules) = false ∧ xs.length ≤ sizeLine ∧ ∃ ys : List (NestedKey × Addr × Value), Paired (kRel E) xs ys ∧
    ∃ o es ep, h.get? d = some o ∧ o.ExactDict ∧ o.data = .dict es ep ∧ es.toList = ys.map (entryOfKey (nestedKind P w)) ∧ (ys.map (·.1)).Nodup
def kdO (d : Addr) (xs : List (κ × Addr × V)) : HO := .ext (kraw P w E d xs)
def getN (xs : List (κ × Addr × V)) (k : κ) : Option V := (xs.find? fun x => decide (x.1 = k)).map (·.2.2)
def putN (xs : List (κ × Addr × V)) (k : κ) (a : Addr) (v : V) : List (κ × Addr × V) :=
  if (getN xs k).isSome = true then xs.map (fun x => if x.1 = k then (x.1, x.2.1, v) else x) else xs ++ [(k, a, v)]
/-- every key stands at its address -/
def Keys (K : PySem.W.Frag) (H : Hp) (xs : List (κ × Addr × V)) : Prop := ∀ x ∈ xs, Dp K H (.ref x.2.1) (E.D x.1)
end
section
variable {κ : Type} [DecidableEq κ] {P : Program} {w : World} {E : KEnc κ}
theorem kd_mut {d : Addr} {xs : List (κ × Addr × V)} : Mut (some (kdO P w E d xs)) := True.intro
theorem kd_not {d : Addr} {xs : List (κ × Addr × V)} : NoT (some (kdO P w E d xs)) := True.intro
theorem nk_dec (E : KEnc κ) (a b : κ) : decide (nk (E.D a) = nk (E.D b)) = decide (a = b) := by
  by_cases h : a = b
  · rw [h] <;> simp
  · rw [decide_eq_false h]
    exact decide_eq_false fun z => h (E.inj _ _ (nk_inj _ _ (E.key a) (E.key b) z))
theorem at_rel {k : κ} : ∀ {xs : List (κ × Addr × V)} {ys : List (NestedKey × Addr × Value)}, Paired (kRel E) xs ys →
    RelO (getN xs k) ((atKey ys (nk (E.D k))).map (·.2))
  | _, _, .nil => by
    show RelO (getN [] k) _
    simp [getN, atKey, RelO]
  | _, _, .cons (a := x) (b := y) r t => by
    have ih := at_rel (k := k) t
    obtain ⟨r1, r2, r3⟩ := r
    have e : decide (y.1 = nk (E.D k)) = decide (x.1 = k) := by rw [← r1, nk_dec]
    unfold getN atKey at ih ⊢
    rw [List.find?_cons, List.find?_cons, e]
    cases q : decide (x.1 = k) with
    | true => exact r3
    | false => exact ih
theorem relO_isSome {a : Option V} {b : Option Value} (r : RelO a b) : a.isSome = b.isSome := by
  cases a <;> cases b <;> first | rfl | exact r.elim
theorem put_rel {k : κ} {a : Addr} {v : V} {u : Value} {xs : List (κ × Addr × V)} {ys : List (NestedKey × Addr × Value)} (r : Paired (kRel E) xs ys) (rv : RelV v u) :
    Paired (kRel E) (putN xs k a v) (storedH ys (nk (E.D k)) a u) := by
  have e := relO_isSome (at_rel (k := k) r)
  rw [Option.isSome_map] at e
  unfold putN storedH
  rw [e]
  by_cases c : (atKey ys (nk (E.D k))).isSome = true
  · rw [if_pos c, if_pos c]
    clear e c
    induction r with
    | nil => exact .nil
    | @cons x y xs ys r t ih =>
      obtain ⟨r1, r2, r3⟩ := r
      rw [List.map_cons, List.map_cons]
      refine .cons ?_ ih
      unfold putAt
      by_cases q : x.1 = k
      · rw [if_pos q, if_pos (by rw [← r1, q])]
        exact ⟨r1, r2, rv⟩
      · have q2 : ¬ y.1 = nk (E.D k) := fun z => q (E.inj _ _ (nk_inj _ _ (E.key _) (E.key _) (r1.trans z)))
        rw [if_neg q, if_neg q2]
        exact ⟨r1, r2, r3⟩
  · rw [if_neg c, if_neg c]
    clear e c
    induction r with
    | nil => exact .cons ⟨rfl, rfl, rv⟩ .nil
    | cons r t ih => exact .cons r ih
theorem putN_length (xs : List (κ × Addr × V)) (k : κ) (a : Addr) (v : V) : (putN xs k a v).length ≤ xs.length + 1 := by
  unfold putN
  split
  · rw [List.length_map]
    exact Nat.le_succ _
  · rw [List.length_append, List.length_singleton]
    exact Nat.le_refl _
theorem Keys.gr {K : PySem.W.Frag} {H H1 : Hp} {xs : List (κ × Addr × V)} (g : Gr H H1) (h : Keys E K H xs) : Keys E K H1 xs := fun x hx => Dp.gr g _ _ (h x hx)
mutual
theorem keyable_nl : ∀ d : PyData, keyable d = true → nl d = true
  | .none, _ => by rw [nl]
  | .int i, _ => by rw [nl]
  | .str x, _ => by rw [nl]
  | .bool b, n => by simp [keyable] at n
  | .list b, n => by simp [keyable] at n
  | .dict b, n => by simp [keyable] at n
  | .tuple ds, n => by
    rw [nl]
    exact keyableAll_nl ds (by simpa only [keyable] using n)
theorem keyableAll_nl : ∀ ds : List PyData, keyableAll ds = true → nlAll ds = true
  | [], _ => by rw [nlAll]
  | d :: ds, n => by
    have n' : keyable d = true ∧ keyableAll ds = true := by simpa [keyableAll] using n
    rw [nlAll, keyable_nl d n'.1, keyableAll_nl ds n'.2] <;> rfl
end
theorem Keys.kt {K : PySem.W.Frag} {H H1 : Hp} {xs : List (κ × Addr × V)} (g : Kt H H1) (h : Keys E K H xs) : Keys E K H1 xs := fun x hx => Dp.kt g _ _ (keyable_nl _ (E.key _)) (h x hx)
theorem Keys.put {K : PySem.W.Frag} {H : Hp} {xs : List (κ × Addr × V)} {k : κ} {a : Addr} {v : V} (h : Keys E K H xs) (hk : Dp K H (.ref a) (E.D k)) : Keys E K H (putN xs k a v) := fun x hx => by
  unfold putN at hx
  split at hx
  · obtain ⟨y, hy, e⟩ := List.mem_map.mp hx
    by_cases q : y.1 = k
    · rw [if_pos q] at e
      subst e
      exact h y hy
    · rw [if_neg q] at e
      subst e
      exact h y hy
  · rcases List.mem_append.mp hx with hx | hx
    · exact h x hx
    · rw [List.mem_singleton.mp hx]
      exact hk
end
section
variable {X : Cx} {pins : List (Addr × Obj)} {σ : L2.St} {H : Hp} {s : Shared} {d a : Addr} {κ : Type} [DecidableEq κ] {E : KEnc κ} {xs : List (κ × Addr × V)} {k : κ}
theorem key_is (I : Inv X pins σ H s) (h : Dp X.K H (.ref a) (E.D k)) : (nestedKind X.prog X.w).is s.heap (nk (E.D k)) a := by
  obtain ⟨as, r⟩ := Dp.reads I _ _ _ h rfl
  exact ⟨nested_of _ _ _ (E.key k) r, by rw [nk_depth _ (E.key k)]; exact E.dep k⟩
theorem kd_of (I : Inv X pins σ H s) (e : H d = some (kdO X.prog X.w E d xs)) (hk : Keys E X.K H xs) :
    (d == sysModules) = false ∧ xs.length ≤ sizeLine ∧ ∃ ys, Paired (kRel E) xs ys ∧ s.heap.DictOfH (nestedKind X.prog X.w) d ys := by
  have h : ObjOk X.prog X.w H s.heap d (.ext (kraw X.prog X.w E d xs)) := I.hok d _ e
  obtain ⟨h1, h2, ys, r, o, es, ep, q1, q2, q3, q4, q5⟩ := h.1
  refine ⟨h1, h2, ys, r, o, es, ep, q1, q2, q3, q4, fun y hy => ?_, q5⟩
  clear q1 q2 q3 q4 q5 h1 h2 h e
  induction r with
  | nil => cases hy
  | @cons x z xs ys r t ih =>
    rcases List.mem_cons.mp hy with z1 | z1
    · subst z1
      obtain ⟨r1, r2, r3⟩ := r
      rw [← r1, ← r2]
      exact key_is I (hk x List.mem_cons_self)
    · exact ih (fun x hx => hk x (List.mem_cons_of_mem _ hx)) z1
theorem kd_ok {P : Program} {w : World} {H : Hp} {h : Heap} {ys : List (NestedKey × Addr × Value)} (h1 : (d == sysModules) = false) (h2 : xs.length ≤ sizeLine) (r : Paired (kRel E) xs ys) (m : h.DictOfH (nestedKind P w) d ys) : ObjOk P w H h d (kdO P w E d xs) := by
  obtain ⟨o, es, ep, q1, q2, q3, q4, _, q5⟩ := m
  exact ⟨⟨h1, h2, ys, r, o, es, ep, q1, q2, q3, q4, q5⟩, ⟨o, q1⟩, fun ha hb z k => by
    obtain ⟨z1, z2, ys, r, o, es, ep, w1, w2⟩ := z
    exact ⟨z1, z2, ys, r, o, es, ep, k _ w1, w2⟩⟩
/-- d.get(k, z) -/
theorem kd_get {z : V} {u : Value} {Q : Value → Shared → Prop} {Er : Value → Shared → Prop} (hu : X.A.units + 64 < cLine) (I : Inv X pins σ H s) (e : H d = some (kdO X.prog X.w E d xs)) (hk : Keys E X.K H xs) (hd : Dp X.K H (.ref a) (E.D k)) (rz : RelV z u)
    (h : ∀ w' s', Inv X pins σ H s' → RelV ((getN xs k).getD z) w' → Q w' s') : wpAny (model X.prog X.w) X.A (call (.builtin "dict.get") [.ref d, .ref a, u]) Q Er s := by
  obtain ⟨h1, h2, ys, r, m⟩ := kd_of I e hk
  refine call_meetsIn F.slot_dict_get m.typeIs F.entry_dict_get (F.args_dict_get_3 _ _ _) (meetsH_dict_get_default (nestedKind X.prog X.w) d a h1 u) ⟨?_, nk (E.D k), ys, key_is I hd, m, ?_⟩
  · show X.A.units + 1 + 8 < cLine
    omega
  · refine h _ _ (I.tok _) ?_
    have q := at_rel (k := k) r
    cases c1 : getN xs k with
    | none =>
      cases c2 : (atKey ys (nk (E.D k))).map (·.2) with
      | none => exact rz
      | some v => rw [c1, c2] at q; exact q.elim
    | some x =>
      cases c2 : (atKey ys (nk (E.D k))).map (·.2) with
      | none => rw [c1, c2] at q; exact q.elim
      | some v => rw [c1, c2] at q; exact q
theorem kd_set {v : V} {u : Value} {Q : Unit → Shared → Prop} {Er : Value → Shared → Prop} (hu : X.A.units + 64 < cLine) (I : Inv X pins σ H s) (e : H d = some (kdO X.prog X.w E d xs)) (hk : Keys E X.K H xs) (hd : Dp X.K H (.ref a) (E.D k)) (rv : RelV v u) (hl : xs.length < sizeLine)
    (h : ∀ s', Inv X pins σ (upd H d (kdO X.prog X.w E d (putN xs k a v))) s' → Q () s') : wpAny (model X.prog X.w) X.A (setItem (.ref d) (.ref a) u) Q Er s := by
  obtain ⟨h1, h2, ys, r, m⟩ := kd_of I e hk
  have hz : ys.length ≤ sizeLine := by rw [← r.length]; exact h2
  refine wpAny_setItem_heap (hsz := hz) (knd := nestedKind X.prog X.w) (by show X.A.units + 1 + 8 < cLine; omega) (key_is I hd) m fun h' m' sb => h _ ?_
  have he : ∃ q, h'.get? d = some q := let ⟨q, _, _, hq, _⟩ := m'; ⟨q, hq⟩
  have hl2 := putN_length xs k a v
  exact I.write (x := d) (e := d) (o := kdO X.prog X.w E d (putN xs k a v)) (by rw [e]; exact kd_mut) (.inl rfl) (fun b o hb q => (sb.2 b hb).trans q) he (kd_ok h1 (by omega) (put_rel r rv) m')
end
/-! ### readings, rules -/
section
variable {X : Cx} {κ : Type} [DecidableEq κ]
def tDNewN (P : Program) (w : World) (E : KEnc κ) : TE := fun _ H Q => ∀ p, H p = none → Q (.ref p) (upd H p (kdO P w E p []))
theorem pe_dnewN (E : KEnc κ) {pos : Pos} : PE X (.Dict [] [] pos) (tDNewN X.prog X.w E) := ⟨fun pins s σ H Q I h =>
  wpAny_Dict_empty ⟨.ref s.heap.objs.size, _, I.laid (a := s.heap.objs.size) (o := kdO X.prog X.w E s.heap.objs.size []) (t' := s.toks) (fun _ _ q => Heap.get?_push_of_some _ q) (Nat.le_refl _)
    (kd_ok (by
      have q := (dk_empty (P := X.prog) (w := X.w) (H := H) s.heap I.big)
      exact q.2.1) (Nat.zero_le _) .nil (Heap.DictOfH.new s.heap)), rfl, h _ (I.hok.fresh (Nat.le_refl _))⟩⟩
def tDGetN (P : Program) (w : World) (K : PySem.W.Frag) (E : KEnc κ) (td ty tx : TE) : TE := fun σ H Q => td σ H fun x H1 => ∃ d, x = .ref d ∧ (∃ xs, H1 d = some (kdO P w E d xs)) ∧ ty σ H1 fun y H2 => tx σ H2 fun z H3 =>
  ∃ xs a k, y = .ref a ∧ H3 d = some (kdO P w E d xs) ∧ Keys E K H3 xs ∧ Dp K H3 (.ref a) (E.D k) ∧ Q ((getN xs k).getD z) H3
theorem pe_dgetN (E : KEnc κ) {o e f : Expr} {td ty tx : TE} {apos cpos : Pos} (hu : X.A.units + 64 < cLine) (ho : PE X o td) (he : PE X e ty) (hf : PE X f tx) (m : M2 X o "get" apos e f cpos) : PE X (.Call (.Attribute o "get" apos) [e, f] [] cpos) (tDGetN X.prog X.w X.K E td ty tx) := by
  refine ⟨fun pins s σ H Q I h => ?_⟩
  refine wpAny_Call_method m.base m.few m.line PySem.F.plainAttrs_dict PySem.F.slot_dict_get PySem.F.type_dict_get (thn (ho.run pins s σ H _ I h) fun u s1 ⟨x, H1, I1, rx, d, ex, ⟨xs0, e0⟩, q1⟩ => ?_)
  subst ex
  obtain rfl : u = Value.ref d := rx
  have hob : ObjOk X.prog X.w H1 s1.heap d (.ext (kraw X.prog X.w E d xs0)) := I1.hok d _ e0
  obtain ⟨_, _, _, _, ob, _, _, g1, g2, _⟩ := hob.1
  refine ⟨⟨ob, g1, g2.1⟩, fun b q => by cases q; exact ⟨ob, g1, g2.2.1⟩, ?_⟩
  rw [m.trees]
  refine Calls.callWith_builtin rfl (Calls.evalArgs_plain (Calls.spliced_cons (thn (he.run pins s1 σ H1 _ I1 q1) fun iv s2 ⟨y, H2, I2, ry, q2⟩ =>
    Calls.spliced_cons (thn (hf.run pins s2 σ H2 _ I2 q2) fun fv s3 ⟨z, H3, I3, rz, xs, a, k, ey, e3, hk, hd, q3⟩ => Calls.spliced_nil ?_))))
  subst ey
  obtain rfl : iv = Value.ref a := ry
  exact kd_get hu I3 e3 hk hd rz fun w' s4 I4 rw' => ⟨_, H3, I4, rw', q3⟩
def sDPutN (P : Program) (w : World) (K : PySem.W.Frag) (E : KEnc κ) (td ty tv : TE) : TS := fun D σ H => tv σ H fun v H1 => td σ H1 fun x H2 => ty σ H2 fun y H3 =>
  ∃ d xs a k, x = .ref d ∧ y = .ref a ∧ H3 d = some (kdO P w E d xs) ∧ Keys E K H3 xs ∧ Dp K H3 (.ref a) (E.D k) ∧ xs.length < sizeLine ∧ D.nx σ (upd H3 d (kdO P w E d (putN xs k a v)))
theorem ps_dputN (E : KEnc κ) {o i value : Expr} {td ty tv : TE} {pos' pos : Pos} (hu : X.A.units + 64 < cLine) (ho : PE X o td) (hi : PE X i ty) (hv : PE X value tv) (hs : swapsWith value (some (.Subscript o i pos')) pos.line X.env = pure false) :
    PS X (.Assign [.Subscript o i pos'] value pos) (sDPutN X.prog X.w X.K E td ty tv) := by
  refine ⟨fun pins s σ H D I h => ?_⟩
  refine wpAny_Assign_Subscript (thn (hv.run pins s σ H _ I h) fun r s1 ⟨v, H1, I1, rv, q1⟩ => thn (ho.run pins s1 σ H1 _ I1 q1) fun u s2 ⟨x, H2, I2, rx, q2⟩ => thn (hi.run pins s2 σ H2 _ I2 q2) fun iv s3 ⟨y, H3, I3, ry, d, xs, a, k, ex, ey, e, hk, hd, hl, q3⟩ => ?_) hs
  subst ex ey
  obtain rfl : u = Value.ref d := rx
  obtain rfl : iv = Value.ref a := ry
  exact kd_set hu I3 e hk hd rv hl fun s4 I4 => ⟨σ, _, I4, q3⟩
end
end K86
set_option Elab.async false
set_option linter.all false
set_option maxRecDepth 100000
set_option maxHeartbeats 4000000
/-! the walk over d.items() of such a dict -/
namespace K86
open PySem PySem.Spec PyProof.Rows L2
section
variable {κ : Type} [DecidableEq κ]
/-- the pairs, each a new tuple, of a locked dict -/
def ItN (P : Program) (w : World) (E : KEnc κ) (d : Addr) (o : Obj) (xs : List (κ × Addr × V)) : It :=
  ⟨fun i H => H d = some (.frz o (kdO P w E d xs)) ∧ i < xs.length, fun i H x H' => ∃ T k q v, xs[i]? = some (k, q, v) ∧ x = .ref T ∧ H T = none ∧ H' = upd H T (.tup [.ref q, v]), fun i H => H d = some (.frz o (kdO P w E d xs)) ∧ xs.length ≤ i⟩
theorem pair_at {E : KEnc κ} : ∀ {xs : List (κ × Addr × V)} {ys : List (NestedKey × Addr × Value)} {i : Nat} {x : κ × Addr × V}, Paired (kRel E) xs ys → xs[i]? = some x → ∃ y, ys[i]? = some y ∧ kRel E x y
  | _, _, _, _, .nil, e => by simp at e
  | _, _, 0, _, .cons r _, e => by
    simp at e
    subst e
    exact ⟨_, by simp, r⟩
  | _, _, i + 1, x, .cons _ t, e => by
    obtain ⟨y, h1, h2⟩ := pair_at (i := i) (x := x) t (by simpa using e)
    exact ⟨y, by simpa using h1, h2⟩
theorem frzN {X : Cx} {pins : List (Addr × Obj)} {σ : L2.St} {H : Hp} {s : Shared} {d : Addr} {o : Obj} {E : KEnc κ} {xs : List (κ × Addr × V)} (I : Inv X pins σ H s) (h : H d = some (.frz o (kdO X.prog X.w E d xs))) :
    (d == sysModules) = false ∧ s.heap.get? d = some o ∧ o.ExactDict ∧ ∃ (es : Array DictEntry) (ep : Nat), o.data = .dict es ep ∧ es.size = xs.length ∧ s.heap.DictRaw d es ep ∧
      ∀ (i : Nat) (x : κ × Addr × V), xs[i]? = some x → ∃ e, es[i]? = some e ∧ e.key = .ref x.2.1 ∧ RelV x.2.2 e.val := by
  have hob : ObjOk X.prog X.w H s.heap d (.frz o (.ext (kraw X.prog X.w E d xs))) := I.hok d _ h
  obtain ⟨hd, q⟩ := hob
  obtain ⟨z1, z2, ys, r, o', es, ep, g1, g2, g3, g4, g5⟩ := q.1
  rw [hd] at g1
  cases g1
  have hz : es.size = xs.length := by
    rw [← Array.length_toList, g4, List.length_map, ← r.length]
  refine ⟨z1, hd, g2, es, ep, g3, hz, ⟨o, hd, g2, g3⟩, fun i x hx => ?_⟩
  obtain ⟨y, hy, y1, y2, y3⟩ := pair_at r hx
  refine ⟨entryOfKey (nestedKind X.prog X.w) y, ?_, ?_, y3⟩
  · rw [← Array.getElem?_toList, g4, List.getElem?_map, hy] <;> rfl
  · rw [y2] <;> rfl
theorem turn_itemsN {P : Program} {w : World} {K : PySem.W.Frag} {d : Addr} {o : Obj} {es : Array DictEntry} {ep : Nat} {E : KEnc κ} {xs : List (κ × Addr × V)} {elts : List Expr} {kk : Nat} {tpos : Pos} (it : Addr) (hod : o.data = .dict es ep) :
    Turn P w K (.Tuple elts kk tpos) (ItN P w E d o xs) [it] it (fun i h => ∃ ok ov, IsItemIter h it d i xs.length ep ok ov) where
  mem := by simp
  obj := fun i h st b hb => by
    have e : b = it := by simpa using hb
    subst e
    obtain ⟨ok, ov, e⟩ := st
    exact ⟨_, e, fun v z => nomatch z⟩
  keep := fun i h h' st k => let ⟨ok, ov, e⟩ := st; ⟨ok, ov, k it (by simp) _ e⟩
  item := by
    intro X hP hw hK hc i pins s σ H E' I hf st hg
    subst hP hw hK
    obtain ⟨hd, hi⟩ := hg
    obtain ⟨hs, hgd, hx, es', ep', hdt, hsz, hraw, hat⟩ := frzN I hd
    obtain ⟨rfl, rfl⟩ := dict_ep hod hdt
    obtain ⟨⟨k, q, v⟩, hkv⟩ : ∃ p, xs[i]? = some p := ⟨xs[i], List.getElem?_eq_getElem hi⟩
    obtain ⟨e, he0, hek, hev⟩ := hat i _ hkv
    obtain ⟨ok, ov, he⟩ := st
    have hi2 : i < es'.size := by rw [hsz]; exact hi
    have ee : es'[i] = e := by
      have z := Array.getElem?_eq_getElem hi2
      rw [z] at he0
      exact Option.some.inj he0
    rw [← hsz] at he
    have hlt : it < s.heap.objs.size := Heap.lt_size he
    refine wpAny_pyNext_items_item_raw he hraw hi2 fun h' ho hT hz hk => ?_
    rw [ee] at ho hT
    refine ⟨_, rfl, wpAny_letOwnedTupleGo_items (s := { s with heap := h' }) ho fun h'' he' sb => ?_⟩
    have hT2 : h''.get? s.heap.objs.size = some { cls := .type "tuple", data := .seq #[e.key, e.val] } := (sb.2 _ (Nat.ne_of_gt hlt)).trans hT
    have new : ObjOk X.prog X.w (upd H s.heap.objs.size (.tup [.ref q, v])) h'' s.heap.objs.size (.tup [.ref q, v]) :=
      ⟨by show 2 ≤ sizeLine; decide, [e.key, e.val], .cons hek (.cons hev .nil), ⟨_, hT2, rfl, _, rfl⟩⟩
    have I1 : Inv X pins σ (upd H s.heap.objs.size (.tup [.ref q, v])) { s with heap := h'' } :=
      I.turnedNew (t' := s.toks) (ch := [it]) (fun b ob hb z => (sb.2 b (by simpa using hb)).trans (hk b ob (by simpa using hb) z)) hf (Nat.le_refl _) new
    refine ⟨.ref s.heap.objs.size, _, I1, rfl, ⟨_, k, q, v, hkv, rfl, I.hok.fresh (Nat.le_refl _), rfl⟩, ⟨e.key, e.val, ?_⟩, fun b hb => ?_⟩
    · rw [← hsz]
      exact he'
    · have z : b = it := by simpa using hb
      rw [z, upd_ne (Nat.ne_of_lt hlt)]
      exact (hf it (by simp)).1
  done := by
    intro X hP hw hK hc i pins s σ H E' I hf st hg
    subst hP hw hK
    obtain ⟨hd, hi⟩ := hg
    obtain ⟨f0, f1, f2, f3, f4, f5⟩ := hf it (by simp)
    obtain ⟨hs, hgd, hx, es', ep', hdt, hsz, hraw, hat⟩ := frzN I hd
    obtain ⟨rfl, rfl⟩ := dict_ep hod hdt
    obtain ⟨ok, ov, he⟩ := st
    rw [← hsz] at he
    exact wpAny_pyNext_items_end_raw (I.ok.hd hc) he hraw (by omega) fun h' eb => ⟨rfl, I.turned (t' := s.toks) (fun b ob hb z => eb b ob hb z) f0 f1 f3 f4 f5⟩
  self := fun A i s Q E' st h => let ⟨_, _, e⟩ := st; PySem.W.kcp_self e h
/-- the dict is locked -/
def iItN (P : Program) (w : World) (E : KEnc κ) (td : TE) : TI := fun σ H R => td σ H fun x H1 => ∃ d o xs, x = .ref d ∧ H1 d = some (.frz o (kdO P w E d xs)) ∧ R (ItN P w E d o xs) H1
theorem pi_itemsN {X : Cx} (E : KEnc κ) {e : Expr} {td : TE} {apos cpos : Pos} {elts : List Expr} {kk : Nat} {tpos : Pos} (he : PE X e td) (hbase : attributeBase e "items" X.env (eval e X.env) = eval e X.env := by rfl) (hline : (apos.endLine == cpos.line) = true := by rfl) :
    PI X (.Tuple elts kk tpos) (.Call (.Attribute e "items" apos) [] [] cpos) (iItN X.prog X.w E td) := by
  refine ⟨fun pins s σ H R I h => ?_⟩
  refine wpAny_Call_method (T := "dict") (id := "dict.items") hbase rfl hline F.plainAttrs_dict F.slot_dict_items F.type_dict_items (thn (he.run pins s σ H _ I h) fun u s1 ⟨x, H1, I1, rx, d, o, xs, ex, hd, q⟩ => ?_)
  subst ex
  obtain rfl : u = Value.ref d := rx
  obtain ⟨hs, hgd, hx, es, ep, hdt, hsz, hraw, hat⟩ := frzN I1 hd
  refine ⟨hraw.typeIs, fun b q => by cases q; exact ⟨o, hgd, hx.2.1⟩, ?_⟩
  have I2 : Inv X pins σ H1 { s1 with heap := s1.heap.push { cls := .type "dict_items", data := .fields #[.ref d] } } := I1.kept (t' := s1.toks) fun b ob q => Heap.get?_push_of_some _ q
  have fin : wpAny (model X.prog X.w) X.A (pyIter (.ref s1.heap.objs.size)) (PIE X pins σ (.Tuple elts kk tpos) R) X.xe { s1 with heap := s1.heap.push { cls := .type "dict_items", data := .fields #[.ref d] } } := by
    refine wpAny_pyIter_items_raw (d := d) ⟨_, Heap.get?_push_size _ rfl, rfl, rfl⟩ (hraw.at fun o q => Heap.get?_push_of_some _ q) (pi_one (tk := s1.toks) I2 _ (turn_itemsN _ hdt) ⟨.none, .none, ?_⟩ q)
    rw [← hsz]
    exact Heap.get?_push_size _ rfl
  show wpAny _ _ (callWith cpos (.builtin "dict.items") [.ref d] [] []) _ X.xe s1
  exact method_meetsIn F.slot_dict_items F.entry_dict_items rfl (PySem.evalArgs_none ⟨rfl, hraw.typeIs, F.args_dict_items_1 _, _, meets_dict_items_raw d hs, ⟨es, ep, hraw⟩, fin⟩)
theorem walk_itemsN {P : Program} {w : World} {E : KEnc κ} {d : Addr} {o : Obj} {xs : List (κ × Addr × V)} : Walk (ItN P w E d o xs) xs.length (fun H => H d = some (.frz o (kdO P w E d xs))) (YPair (fun i => xs[i]?.map fun x => .ref x.2.1) (fun i => xs[i]?.map fun x => x.2.2)) :=
  ⟨fun i H hi h => ⟨h, hi⟩, fun H h => ⟨h, Nat.le_refl _⟩, fun i H x H' hi h ⟨T, k, q, v, e, ex, hn, eH⟩ => ⟨T, .ref q, v, ex, hn, eH, by simp [e], by simp [e]⟩⟩
end
end K86
set_option Elab.async false
set_option linter.all false
set_option maxRecDepth 100000
set_option maxHeartbeats 4000000
/-! sorted: a list, the pairs of a dict; the outcome is THE sorted list of data -/
namespace K86
open PySem PySem.Spec PyProof.Rows L2
abbrev srt (ds : List PyData) : List PyData := ds.mergeSort (PySem.W.dataLe false id)
section
variable {prog : Program} {w : World} {A : Around} {E : Value → Shared → Prop} {s : Shared}
/-- values that read as data -/
abbrev RdV (h : Heap) : Value → PyData → Prop := fun v d => ∃ as, Reads h v d as
theorem rdv_keep {h h' : Heap} (k : ∀ b o, h.get? b = some o → h'.get? b = some o) {vs : List Value} {ds : List PyData} (e : PySem.W.EachIs (RdV h) vs ds) : PySem.W.EachIs (RdV h') vs ds :=
  e.mono fun _ _ ⟨as, r⟩ => ⟨as, PyProof.Rows.Reads.keeps k r⟩
/-- sorted(x), x gathered by collect: R what the values are further known to stand for -/
theorem sorted_coll {x : Value} {Q : Value → Shared → Prop}
    (good : List Value → Heap → Prop)
    (hcol : ∀ (E' : Value → Shared → Prop) (Z : List Value → Shared → Prop), (∀ vs h' tk g' d', (∀ b o, s.heap.get? b = some o → h'.get? b = some o) → AllBare g' → good vs h' → Z vs ⟨h', g', d', tk, s.os⟩) → wpAny (model prog w) A.in1 (collect x) Z E' s)
    (hq : ∀ vs h' tk g' d', (∀ b o, s.heap.get? b = some o → h'.get? b = some o) → AllBare g' → good vs h' →
      ∃ (R : Value → PyData → Prop) (ds : List PyData), PySem.W.EachIs R vs ds ∧ PySem.W.EachIs (RdV h') vs ds ∧ PySem.W.AllAlike ds ∧ PySem.W.Sortable ds ∧ ds.length ≤ sizeLine ∧ (∀ d ∈ ds, A.units + 3 + d.depth < cLine) ∧
        ∀ h2 out c, (∀ b o, h'.get? b = some o → h2.get? b = some o) → h2.get? h'.objs.size = some ({ cls := .type "list", data := .seq (List.toArray out) c } : Obj) → out.length = ds.length → PySem.W.EachIs R out (srt ds) →
          Q (.ref h'.objs.size) ⟨h2, g', d', tk, s.os⟩) :
    wpAny (model prog w) A (call (.builtin "sorted") [x]) Q E s := by
  refine Calls.call_function_entry kind_sorted plain_sorted entry_sorted (args_sorted1 _) ?_
  unfold Builtin.«sorted»
  refine wpAny_bind (m := checkCount "sorted" 1 1 _) (wpAny_pure ?_)
  refine wpAny_bind (hcol _ _ fun vs h' tk g' d' k ag gd => ?_)
  obtain ⟨R, ds, e, er, hal, hso, hl, hu, q⟩ := hq vs h' tk g' d' k ag gd
  have hvl : vs.length = ds.length := e.length
  refine wpAny_bind (wpAny_newList ?_ (by rw [hvl]; exact hl))
  have hne : ∀ b o, h'.get? b = some o → b ≠ h'.objs.size := fun b o z => Nat.ne_of_lt (Heap.lt_size z)
  have ho : (h'.push { cls := .type "list", data := .seq vs.toArray }).get? h'.objs.size = some (seqObj "list" vs.toArray 0) := Heap.get?_push_size _ rfl
  refine wpAny_bind (wpAny_holding ?_)
  have old : ∀ b o, h'.get? b = some o → (PySem.W.sortingHeap (h'.push { cls := .type "list", data := .seq vs.toArray }) h'.objs.size vs).get? b = some o := fun b o z =>
    PySem.W.sortingHeap_old (hne b o z) (Heap.get?_push_of_some _ z)
  have er2 := rdv_keep old er
  show wpAny (model prog w) A.in1 (call (.builtin "list.sort") [.ref h'.objs.size]) _ _ ⟨h'.push { cls := .type "list", data := .seq vs.toArray }, g', d', tk, s.os⟩
  refine wpAny_call_entry F.slot_list_sort ⟨_, ho, rfl⟩ F.entry_list_sort (PySem.W.list_sort_vals (s := ⟨h'.push { cls := .type "list", data := .seq vs.toArray }, g', d', tk, s.os⟩) (κ := PySem.W.dataKind (PySem.W.sortingHeap (h'.push { cls := .type "list", data := .seq vs.toArray }) h'.objs.size vs) ds) ho
    (PySem.W.SortsAt.data (s := ⟨PySem.W.sortingHeap (h'.push { cls := .type "list", data := .seq vs.toArray }) h'.objs.size vs, g', d', tk, s.os⟩) er2 hal hso (fun d hd => ?_)) (by rw [hvl]; exact hl) ?_) (args_list_sort _)
  · show A.units + 1 + 1 + d.depth < cLine
    have := hu d hd
    omega
  · obtain ⟨c, hc⟩ := sortedHeap_at (vs := vs) (out := (PySem.W.sortVals (PySem.W.dataKind (PySem.W.sortingHeap (h'.push { cls := .type "list", data := .seq vs.toArray }) h'.objs.size vs) ds) false vs vs).toArray) ho
    have e3 := PySem.W.sortVals_data (enc := id) false (R := R) e (by simpa using er2) (by simpa using hal)
    rw [List.map_id] at e3
    refine ⟨_, rfl, wpAny_pure ⟨_, rfl, ?_⟩⟩
    refine q _ _ c (fun b o z => (sortedHeap_old (hne b o z) (Heap.lt_size (Heap.get?_push_of_some _ z))).trans (Heap.get?_push_of_some _ z)) hc ?_ e3
    rw [PySem.W.sortVals_length false rfl]
    exact hvl
end

/-! ### objects that a call has left, told all at once -/
section
variable {X : Cx} {pins : List (Addr × Obj)} {σ : L2.St} {H : Hp} {s : Shared}
def over (F H : Hp) : Hp := fun a => match F a with
  | some o => some o
  | none => H a
theorem over_new {F H : Hp} {a : Addr} {o : HO} (h : F a = some o) : over F H a = some o := by unfold over; rw [h]
theorem over_old {F H : Hp} {a : Addr} (h : F a = none) : over F H a = H a := by unfold over; rw [h]
theorem lay_all {h' : Heap} {t' : Nat} {g' : Array GenState} {d' : Drawn} {F : Hp} (I : Inv X pins σ H s) (hk : ∀ b o, s.heap.get? b = some o → h'.get? b = some o) (hg : AllBare g') (hF : ∀ a o, F a = some o → s.heap.get? a = none ∧ ∀ H' : Hp, ObjOk X.prog X.w H' h' a o) :
    Inv X pins σ (over F H) { s with heap := h', gens := g', drawn := d', toks := t' } ∧ Gr H (over F H) := by
  have no : ∀ b u, s.heap.get? b = some u → F b = none := fun b u hb => by
    cases q : F b with
    | none => rfl
    | some o =>
      rw [(hF b o q).1] at hb
      cases hb
  have old : ∀ b o, H b = some o → over F H b = some o := fun b o e => by
    cases q : F b with
    | none => rw [over_old q]; exact e
    | some u =>
      rw [HOk.gone I.hok (hF b u q).1] at e
      cases e
  refine ⟨I.call (ch := []) ⟨fun b o q _ _ _ => hk b o q, fun b o q _ _ _ => ⟨o.slots, hk b o q⟩, fun b o q n _ => by rw [over_old (no b o q)]; exact n, fun b o q _ => ⟨o, hk b o q⟩,
    fun b xs q => old _ _ q, fun b o xs q => old _ _ q, fun b ps q => ⟨#[], by rw [old _ _ q]; simp⟩⟩ (fun b o q => ?_) hg (fun _ z => nomatch z), old⟩
  cases c : F b with
  | some u =>
    rw [over_new c] at q
    cases q
    exact (hF b _ c).2 _
  | none =>
    rw [over_old c] at q
    exact (I.hok b o q).stay (fun c u _ z => hk c u z) (fun c z => old _ _ z) fun c xs z => old _ _ z
end
/-! ### sorted(list) -/
section
variable {X : Cx}
def SrtOk (ds : List PyData) : Prop := PySem.W.AllAlike ds ∧ PySem.W.Sortable ds ∧ ∀ d ∈ ds, d.depth ≤ 40
def rSortD (K : PySem.W.Frag) : List V → Hp → VK → Prop := fun vs H Q => ∃ (a : Addr) (xs : List V) (ds : List PyData), vs = [.ref a] ∧ SqL K H a xs ∧ DpAll K H xs ds ∧ SrtOk ds ∧
  ∀ (ys : List V) (p : Addr) (H' : Hp), H p = none → H' = upd H p (.lst ys) → DpAll K H ys (srt ds) → Q (.ref p) H'
theorem each_dp {K : PySem.W.Frag} {H : Hp} : ∀ {xs : List V} {us : List Value} {ds : List PyData}, Vals xs us → DpAll K H xs ds → PySem.W.EachIs (fun v d => ∃ x, RelV x v ∧ Dp K H x d) us ds
  | _, _, _, .nil, h => by cases h; exact .nil
  | _, _, _, .cons r t, h => by
    cases h with
    | cons a b => exact .cons ⟨_, r, a⟩ (each_dp t b)
theorem dp_each {K : PySem.W.Frag} {H : Hp} : ∀ {us : List Value} {ds : List PyData}, PySem.W.EachIs (fun v d => ∃ x, RelV x v ∧ Dp K H x d) us ds → ∃ xs, Vals xs us ∧ DpAll K H xs ds
  | _, _, .nil => ⟨[], .nil, .nil⟩
  | _, _, .cons ⟨x, r, h⟩ t => by
    obtain ⟨xs, a, b⟩ := dp_each t
    exact ⟨x :: xs, .cons r a, .cons h b⟩
theorem each_rd {pins : List (Addr × Obj)} {σ : L2.St} {H : Hp} {s : Shared} (I : Inv X pins σ H s) : ∀ {us : List Value} {ds : List PyData}, PySem.W.EachIs (fun v d => ∃ x, RelV x v ∧ Dp X.K H x d) us ds → PySem.W.EachIs (RdV s.heap) us ds
  | _, _, .nil => .nil
  | _, _, .cons ⟨x, r, h⟩ t => .cons (Dp.reads I _ _ _ h r) (each_rd I t)
theorem cr_sortedDt (hu : X.A.units + 64 < cLine) : CallR X (.builtin "sorted") (rSortD X.K) := by
  intro pins s σ H vs us Q I r h
  obtain ⟨a, xs, ds, rfl, hs, hd, ⟨h1, h2, h3⟩, q⟩ := h
  obtain ⟨its, rv, hl, hz⟩ := I.list hs
  rw [Vals.ref1 r]
  have e := each_dp rv hd
  have hlen := DpAll.length hd
  refine PySem.W.sorted_data (enc := id) (R := fun v d => ∃ x, RelV x v ∧ Dp X.K H x d) hl.isList e (by simpa using each_rd I e) (by simpa using h1) (by simpa using h2) (by rw [← hlen]; exact hz) (fun b hb => ?_) fun out ho eo => ?_
  · show X.A.units + 2 + b.depth < cLine
    have := h3 b hb
    omega
  · obtain ⟨ys, v1, v2⟩ := dp_each eo
    obtain ⟨c, hc⟩ := sortedAll_at s.heap its out.toArray
    have hp : H (s.heap.objs.size + 1) = none := I.hok.fresh (Nat.le_succ _)
    refine ⟨.ref (s.heap.objs.size + 1), _, I.laid (t' := s.toks) (a := s.heap.objs.size + 1) (o := .lst ys) (fun b o z => sortedAll_old z) (Nat.le_succ _) ⟨?_, out, c, v1, hc⟩, rfl, q ys _ _ hp rfl v2⟩
    rw [v1.length, ho, ← hlen]
    exact hz
end
end K86
set_option Elab.async false
set_option linter.all false
set_option maxRecDepth 100000
set_option maxHeartbeats 4000000
/-! facts by names; calls of the text's own defs and methods -/
namespace K86
open PySem PySem.Spec PyProof.Rows L2
/-- what the top has left -/
structure Tx (K : PySem.W.Frag) (mg : Str → Option Value) : Prop where
  s : Says K
  g : ∃ h : Heap, K.In h ∧ h.Ns mainGlobals mg
section
variable {K : PySem.W.Frag} {mg : Str → Option Value}
theorem Tx.glo (T : Tx K mg) {x : Str} (i : Nat) (h : fa[i]? = some (.glo x) := by rfl) : mg x = some (.ref (He.ga K x)) := by
  obtain ⟨hp, X, G⟩ := T.g
  exact He.glo_ok X G (T.s.d.fact i h)
theorem Tx.free (T : Tx K mg) {x : Str} (i : Nat) (h : fa[i]? = some (.free x) := by rfl) : mg x = none := by
  obtain ⟨hp, X, G⟩ := T.g
  exact He.free_ok X G (T.s.d.fact i h)
/-- a global that holds v -/
def Gv (mg : Str → Option Value) (x : Str) (v : V) : Prop := ∃ u, mg x = some u ∧ RelV v u
theorem Tx.int (T : Tx K mg) {x : Str} {n : Int} (i : Nat) (h : fa[i]? = some (.int x n) := by rfl) : Gv mg x (.int n) := by
  obtain ⟨hp, X, G⟩ := T.g
  obtain ⟨t, e⟩ := He.int_ok X G (T.s.d.fact i h)
  exact ⟨_, e, t, rfl⟩
theorem Tx.str (T : Tx K mg) {x z : Str} (i : Nat) (h : fa[i]? = some (.str x z) := by rfl) : Gv mg x (.str z) := by
  obtain ⟨hp, X, G⟩ := T.g
  obtain ⟨t, e⟩ := He.str_ok X G (T.s.d.fact i h)
  exact ⟨_, e, t, rfl⟩
theorem Tx.gloV (T : Tx K mg) {x : Str} (i : Nat) (h : fa[i]? = some (.glo x) := by rfl) : Gv mg x (.ref (He.ga K x)) := ⟨_, T.glo i h, rfl⟩
theorem Tx.g_LoopError (T : Tx K mg) : mg "LoopError" = some (.ref (He.ga K "LoopError")) := T.glo 53
theorem Tx.g_BadRow (T : Tx K mg) : mg "BadRow" = some (.ref (He.ga K "BadRow")) := T.glo 54
theorem Tx.g_BadLoop (T : Tx K mg) : mg "BadLoop" = some (.ref (He.ga K "BadLoop")) := T.glo 55
theorem Tx.g_Hindered (T : Tx K mg) : mg "Hindered" = some (.ref (He.ga K "Hindered")) := T.glo 56
theorem Tx.g_BadPaper (T : Tx K mg) : mg "BadPaper" = some (.ref (He.ga K "BadPaper")) := T.glo 57
theorem Tx.g_TooGreat (T : Tx K mg) : mg "TooGreat" = some (.ref (He.ga K "TooGreat")) := T.glo 58
theorem Tx.g_BadQuestion (T : Tx K mg) : mg "BadQuestion" = some (.ref (He.ga K "BadQuestion")) := T.glo 59
theorem Tx.g_OutOfPlace (T : Tx K mg) : mg "OutOfPlace" = some (.ref (He.ga K "OutOfPlace")) := T.glo 60
theorem Tx.g_Lines (T : Tx K mg) : mg "Lines" = some (.ref (He.ga K "Lines")) := T.glo 61
theorem Tx.b_len (T : Tx K mg) : mg "len" = none := T.free 62
theorem Tx.b_isinstance (T : Tx K mg) : mg "isinstance" = none := T.free 63
theorem Tx.b_all (T : Tx K mg) : mg "all" = none := T.free 64
theorem Tx.b_any (T : Tx K mg) : mg "any" = none := T.free 65
theorem Tx.b_sorted (T : Tx K mg) : mg "sorted" = none := T.free 66
theorem Tx.b_tuple (T : Tx K mg) : mg "tuple" = none := T.free 67
theorem Tx.b_dict (T : Tx K mg) : mg "dict" = none := T.free 68
theorem Tx.b_set (T : Tx K mg) : mg "set" = none := T.free 69
theorem Tx.b_abs (T : Tx K mg) : mg "abs" = none := T.free 70
theorem Tx.b_int (T : Tx K mg) : mg "int" = none := T.free 71
theorem Tx.b_str (T : Tx K mg) : mg "str" = none := T.free 72
theorem Tx.b_repr (T : Tx K mg) : mg "repr" = none := T.free 73
theorem Tx.b_range (T : Tx K mg) : mg "range" = none := T.free 74
theorem Tx.b_max (T : Tx K mg) : mg "max" = none := T.free 75
theorem Tx.b_min (T : Tx K mg) : mg "min" = none := T.free 76
theorem Tx.b_list (T : Tx K mg) : mg "list" = none := T.free 77
theorem Tx.c_MOST_LETTERS (T : Tx K mg) : Gv mg "MOST_LETTERS" (.int (8)) := T.int 78
theorem Tx.c_MOST_FIGURES (T : Tx K mg) : Gv mg "MOST_FIGURES" (.int (40)) := T.int 79
theorem Tx.c_MOST_DEGREE (T : Tx K mg) : Gv mg "MOST_DEGREE" (.int (12)) := T.int 80
theorem Tx.c_MOST_TERMS (T : Tx K mg) : Gv mg "MOST_TERMS" (.int (300)) := T.int 81
theorem Tx.c_MOST_NUMBER (T : Tx K mg) : Gv mg "MOST_NUMBER" (.int ((10 ^ 50) ^ 20)) := T.int 82
theorem Tx.c_MOST_PAIRS_forms (T : Tx K mg) : Gv mg "MOST_PAIRS_forms" (.int (1000)) := T.int 83
theorem Tx.c_MOST_PLACE (T : Tx K mg) : Gv mg "MOST_PLACE" (.int (99)) := T.int 84
theorem Tx.c_GREATEST (T : Tx K mg) : Gv mg "GREATEST" (.int ((10 ^ 50) ^ 20)) := T.int 85
theorem Tx.c_MOST_ROWS (T : Tx K mg) : Gv mg "MOST_ROWS" (.int (12)) := T.int 86
theorem Tx.c_MOST_PAIRS_programs (T : Tx K mg) : Gv mg "MOST_PAIRS_programs" (.int (6)) := T.int 87
theorem Tx.c_MOST_FORMS (T : Tx K mg) : Gv mg "MOST_FORMS" (.int (40)) := T.int 88
theorem Tx.c_MOST_DEEP (T : Tx K mg) : Gv mg "MOST_DEEP" (.int (3)) := T.int 89
theorem Tx.c_MOST_TOGETHER (T : Tx K mg) : Gv mg "MOST_TOGETHER" (.int (60)) := T.int 90
theorem Tx.c_LETTERS (T : Tx K mg) : Gv mg "LETTERS" (.str "abcdefghijklmnopqrstuvwxyz") := T.str 91
theorem Tx.c_FIGURES (T : Tx K mg) : Gv mg "FIGURES" (.str "0123456789") := T.str 92
theorem Tx.cLines (T : Tx K mg) : Cls K (He.ga K "Lines") := He.cls_ok (T.s.d.fact 93 (f := .cls "Lines") rfl)
theorem Tx.mLines (T : Tx K mg) : Mk K (He.ga K "Lines") (He.ma K (He.ga K "Lines") "__init__") := He.mkr_ok (T.s.d.fact 94 (f := .mkr "Lines") rfl)
theorem Tx.n_texts (T : Tx K mg) : NoAttr K (He.ga K "Lines") "texts" := He.noat_ok (T.s.d.fact 95 (f := .noat "Lines" "texts") rfl)
theorem Tx.n_at (T : Tx K mg) : NoAttr K (He.ga K "Lines") "at" := He.noat_ok (T.s.d.fact 96 (f := .noat "Lines" "at") rfl)
theorem Tx.n_together (T : Tx K mg) : NoAttr K (He.ga K "Lines") "together" := He.noat_ok (T.s.d.fact 97 (f := .noat "Lines" "together") rfl)
theorem Tx.m_need (T : Tx K mg) : Meth K (He.ga K "Lines") "need" (He.ma K (He.ga K "Lines") "need") := He.meth_ok (T.s.d.fact 98 (f := .meth "Lines" "need") rfl)
theorem Tx.m_take (T : Tx K mg) : Meth K (He.ga K "Lines") "take" (He.ma K (He.ga K "Lines") "take") := He.meth_ok (T.s.d.fact 99 (f := .meth "Lines" "take") rfl)
theorem Tx.m_need_alone (T : Tx K mg) : Meth K (He.ga K "Lines") "need_alone" (He.ma K (He.ga K "Lines") "need_alone") := He.meth_ok (T.s.d.fact 100 (f := .meth "Lines" "need_alone") rfl)
theorem Tx.m_take_pairs (T : Tx K mg) : Meth K (He.ga K "Lines") "take_pairs" (He.ma K (He.ga K "Lines") "take_pairs") := He.meth_ok (T.s.d.fact 101 (f := .meth "Lines" "take_pairs") rfl)
theorem Tx.m_take_row (T : Tx K mg) : Meth K (He.ga K "Lines") "take_row" (He.ma K (He.ga K "Lines") "take_row") := He.meth_ok (T.s.d.fact 102 (f := .meth "Lines" "take_row") rfl)
theorem Tx.m_take_within (T : Tx K mg) : Meth K (He.ga K "Lines") "take_within" (He.ma K (He.ga K "Lines") "take_within") := He.meth_ok (T.s.d.fact 103 (f := .meth "Lines" "take_within") rfl)
theorem Tx.m_take_all (T : Tx K mg) : Meth K (He.ga K "Lines") "take_all" (He.ma K (He.ga K "Lines") "take_all") := He.meth_ok (T.s.d.fact 104 (f := .meth "Lines" "take_all") rfl)
theorem Tx.exm (T : Tx K mg) : PySem.W.exmOne K (.ref (He.ga K "BadRow")) (.ref (He.ga K "LoopError")) = some true := He.exm_ok (T.s.d.fact 105 (f := .exm "BadRow" "LoopError" true) rfl)
theorem Tx.kBad (T : Tx K mg) : PySem.W.keepIn K (.ref (He.ga K "BadRow")) = true := He.keep_ok (T.s.d.fact 106 (f := .keep "BadRow") rfl)
theorem Tx.n_row (T : Tx K mg) : NoAttr K (He.ga K "BadRow") "row" := He.noat_ok (T.s.d.fact 107 (f := .noat "BadRow" "row") rfl)
theorem Tx.n_word (T : Tx K mg) : NoAttr K (He.ga K "BadRow") "word" := He.noat_ok (T.s.d.fact 108 (f := .noat "BadRow" "word") rfl)
theorem Tx.b_ValueError (T : Tx K mg) : mg "ValueError" = none := T.free 109
theorem Tx.g_NOUGHT (T : Tx K mg) : Gv mg "NOUGHT" (.ref (He.ga K "NOUGHT")) := T.gloV 110
theorem Tx.g_HEADS (T : Tx K mg) : Gv mg "HEADS" (.ref (He.ga K "HEADS")) := T.gloV 111
theorem Tx.tupN (T : Tx K mg) (H : Hp) : SqT K H (He.ga K "NOUGHT") [.int 0, .int 1] := by
  have h : (He.tupB K "NOUGHT" [.int 0, .int 1] && (He.tupB K "HEADS" [.str "both", .str "loop", .str "jump", .str "by", .str "end"] && (excB K && excB2 K))) = true := T.s.x
  exact He.tupB_ok (Bool.and_eq_true_iff.mp h).1 H
theorem Tx.tupH (T : Tx K mg) (H : Hp) : SqT K H (He.ga K "HEADS") [.str "both", .str "loop", .str "jump", .str "by", .str "end"] := by
  have h : (He.tupB K "NOUGHT" [.int 0, .int 1] && (He.tupB K "HEADS" [.str "both", .str "loop", .str "jump", .str "by", .str "end"] && (excB K && excB2 K))) = true := T.s.x
  exact He.tupB_ok (Bool.and_eq_true_iff.mp (Bool.and_eq_true_iff.mp h).2).1 H
theorem Tx.exc (T : Tx K mg) : excB K = true ∧ excB2 K = true := by
  have h : (He.tupB K "NOUGHT" [.int 0, .int 1] && (He.tupB K "HEADS" [.str "both", .str "loop", .str "jump", .str "by", .str "end"] && (excB K && excB2 K))) = true := T.s.x
  exact Bool.and_eq_true_iff.mp (Bool.and_eq_true_iff.mp (Bool.and_eq_true_iff.mp h).2).2
theorem Tx.f_is_name (T : Tx K mg) : ∃ f fd, FnP K "is_name" s_is_name f fd ∧ mg "is_name" = some (.ref f) := by
  obtain ⟨fd, F⟩ := T.s.d.def_ 0 (d := defOfTop "is_name" s_is_name) rfl
  exact ⟨_, fd, F, T.glo 0⟩
theorem Tx.f_number_of (T : Tx K mg) : ∃ f fd, FnP K "number_of" s_number_of f fd ∧ mg "number_of" = some (.ref f) := by
  obtain ⟨fd, F⟩ := T.s.d.def_ 1 (d := defOfTop "number_of" s_number_of) rfl
  exact ⟨_, fd, F, T.glo 1⟩
theorem Tx.f_words_of (T : Tx K mg) : ∃ f fd, FnP K "words_of" s_words_of f fd ∧ mg "words_of" = some (.ref f) := by
  obtain ⟨fd, F⟩ := T.s.d.def_ 2 (d := defOfTop "words_of" s_words_of) rfl
  exact ⟨_, fd, F, T.glo 2⟩
theorem Tx.f_common_divisor (T : Tx K mg) : ∃ f fd, FnP K "common_divisor" s_common_divisor f fd ∧ mg "common_divisor" = some (.ref f) := by
  obtain ⟨fd, F⟩ := T.s.d.def_ 3 (d := defOfTop "common_divisor" s_common_divisor) rfl
  exact ⟨_, fd, F, T.glo 3⟩
theorem Tx.f_fraction (T : Tx K mg) : ∃ f fd, FnP K "fraction" s_fraction f fd ∧ mg "fraction" = some (.ref f) := by
  obtain ⟨fd, F⟩ := T.s.d.def_ 4 (d := defOfTop "fraction" s_fraction) rfl
  exact ⟨_, fd, F, T.glo 4⟩
theorem Tx.f_plus (T : Tx K mg) : ∃ f fd, FnP K "plus" s_plus f fd ∧ mg "plus" = some (.ref f) := by
  obtain ⟨fd, F⟩ := T.s.d.def_ 5 (d := defOfTop "plus" s_plus) rfl
  exact ⟨_, fd, F, T.glo 5⟩
theorem Tx.f_poly_of (T : Tx K mg) : ∃ f fd, FnP K "poly_of" s_poly_of f fd ∧ mg "poly_of" = some (.ref f) := by
  obtain ⟨fd, F⟩ := T.s.d.def_ 6 (d := defOfTop "poly_of" s_poly_of) rfl
  exact ⟨_, fd, F, T.glo 6⟩
theorem Tx.f_mono_product (T : Tx K mg) : ∃ f fd, FnP K "mono_product" s_mono_product f fd ∧ mg "mono_product" = some (.ref f) := by
  obtain ⟨fd, F⟩ := T.s.d.def_ 7 (d := defOfTop "mono_product" s_mono_product) rfl
  exact ⟨_, fd, F, T.glo 7⟩
theorem Tx.f_is_small (T : Tx K mg) : ∃ f fd, FnP K "is_small" s_is_small f fd ∧ mg "is_small" = some (.ref f) := by
  obtain ⟨fd, F⟩ := T.s.d.def_ 8 (d := defOfTop "is_small" s_is_small) rfl
  exact ⟨_, fd, F, T.glo 8⟩
theorem Tx.f_pairs_of (T : Tx K mg) : ∃ f fd, FnP K "pairs_of" s_pairs_of f fd ∧ mg "pairs_of" = some (.ref f) := by
  obtain ⟨fd, F⟩ := T.s.d.def_ 9 (d := defOfTop "pairs_of" s_pairs_of) rfl
  exact ⟨_, fd, F, T.glo 9⟩
theorem Tx.f_form_of (T : Tx K mg) : ∃ f fd, FnP K "form_of" s_form_of f fd ∧ mg "form_of" = some (.ref f) := by
  obtain ⟨fd, F⟩ := T.s.d.def_ 10 (d := defOfTop "form_of" s_form_of) rfl
  exact ⟨_, fd, F, T.glo 10⟩
theorem Tx.f_added (T : Tx K mg) : ∃ f fd, FnP K "added" s_added f fd ∧ mg "added" = some (.ref f) := by
  obtain ⟨fd, F⟩ := T.s.d.def_ 11 (d := defOfTop "added" s_added) rfl
  exact ⟨_, fd, F, T.glo 11⟩
theorem Tx.f_share_in (T : Tx K mg) : ∃ f fd, FnP K "share_in" s_share_in f fd ∧ mg "share_in" = some (.ref f) := by
  obtain ⟨fd, F⟩ := T.s.d.def_ 12 (d := defOfTop "share_in" s_share_in) rfl
  exact ⟨_, fd, F, T.glo 12⟩
theorem Tx.f_count_in (T : Tx K mg) : ∃ f fd, FnP K "count_in" s_count_in f fd ∧ mg "count_in" = some (.ref f) := by
  obtain ⟨fd, F⟩ := T.s.d.def_ 13 (d := defOfTop "count_in" s_count_in) rfl
  exact ⟨_, fd, F, T.glo 13⟩
theorem Tx.f_pair_in (T : Tx K mg) : ∃ f fd, FnP K "pair_in" s_pair_in f fd ∧ mg "pair_in" = some (.ref f) := by
  obtain ⟨fd, F⟩ := T.s.d.def_ 14 (d := defOfTop "pair_in" s_pair_in) rfl
  exact ⟨_, fd, F, T.glo 14⟩
theorem Tx.f_form_in (T : Tx K mg) : ∃ f fd, FnP K "form_in" s_form_in f fd ∧ mg "form_in" = some (.ref f) := by
  obtain ⟨fd, F⟩ := T.s.d.def_ 15 (d := defOfTop "form_in" s_form_in) rfl
  exact ⟨_, fd, F, T.glo 15⟩
theorem Tx.f_term_in (T : Tx K mg) : ∃ f fd, FnP K "term_in" s_term_in f fd ∧ mg "term_in" = some (.ref f) := by
  obtain ⟨fd, F⟩ := T.s.d.def_ 16 (d := defOfTop "term_in" s_term_in) rfl
  exact ⟨_, fd, F, T.glo 16⟩
theorem Tx.f_poly_in (T : Tx K mg) : ∃ f fd, FnP K "poly_in" s_poly_in f fd ∧ mg "poly_in" = some (.ref f) := by
  obtain ⟨fd, F⟩ := T.s.d.def_ 17 (d := defOfTop "poly_in" s_poly_in) rfl
  exact ⟨_, fd, F, T.glo 17⟩
theorem Tx.f_read_program (T : Tx K mg) : ∃ f fd, FnP K "read_program" s_read_program f fd ∧ mg "read_program" = some (.ref f) := by
  obtain ⟨fd, F⟩ := T.s.d.def_ 18 (d := defOfTop "read_program" s_read_program) rfl
  exact ⟨_, fd, F, T.glo 18⟩
theorem Tx.f_law_mixed (T : Tx K mg) : ∃ f fd, FnP K "_law_mixed" s_law_mixed f fd ∧ mg "_law_mixed" = some (.ref f) := by
  obtain ⟨fd, F⟩ := T.s.d.def_ 19 (d := defOfTop "_law_mixed" s_law_mixed) rfl
  exact ⟨_, fd, F, T.glo 19⟩
theorem Tx.f_law_draw (T : Tx K mg) : ∃ f fd, FnP K "_law_draw" s_law_draw f fd ∧ mg "_law_draw" = some (.ref f) := by
  obtain ⟨fd, F⟩ := T.s.d.def_ 20 (d := defOfTop "_law_draw" s_law_draw) rfl
  exact ⟨_, fd, F, T.glo 20⟩
theorem Tx.f_law_take (T : Tx K mg) : ∃ f fd, FnP K "_law_take" s_law_take f fd ∧ mg "_law_take" = some (.ref f) := by
  obtain ⟨fd, F⟩ := T.s.d.def_ 21 (d := defOfTop "_law_take" s_law_take) rfl
  exact ⟨_, fd, F, T.glo 21⟩
theorem Tx.f_law_boxes (T : Tx K mg) : ∃ f fd, FnP K "_law_boxes" s_law_boxes f fd ∧ mg "_law_boxes" = some (.ref f) := by
  obtain ⟨fd, F⟩ := T.s.d.def_ 22 (d := defOfTop "_law_boxes" s_law_boxes) rfl
  exact ⟨_, fd, F, T.glo 22⟩
theorem Tx.f_law_mono (T : Tx K mg) : ∃ f fd, FnP K "_law_mono" s_law_mono f fd ∧ mg "_law_mono" = some (.ref f) := by
  obtain ⟨fd, F⟩ := T.s.d.def_ 23 (d := defOfTop "_law_mono" s_law_mono) rfl
  exact ⟨_, fd, F, T.glo 23⟩
theorem Tx.f_law_number (T : Tx K mg) : ∃ f fd, FnP K "_law_number" s_law_number f fd ∧ mg "_law_number" = some (.ref f) := by
  obtain ⟨fd, F⟩ := T.s.d.def_ 24 (d := defOfTop "_law_number" s_law_number) rfl
  exact ⟨_, fd, F, T.glo 24⟩
theorem Tx.f_law_poly (T : Tx K mg) : ∃ f fd, FnP K "_law_poly" s_law_poly f fd ∧ mg "_law_poly" = some (.ref f) := by
  obtain ⟨fd, F⟩ := T.s.d.def_ 25 (d := defOfTop "_law_poly" s_law_poly) rfl
  exact ⟨_, fd, F, T.glo 25⟩
theorem Tx.f_law_form (T : Tx K mg) : ∃ f fd, FnP K "_law_form" s_law_form f fd ∧ mg "_law_form" = some (.ref f) := by
  obtain ⟨fd, F⟩ := T.s.d.def_ 26 (d := defOfTop "_law_form" s_law_form) rfl
  exact ⟨_, fd, F, T.glo 26⟩
theorem Tx.f_law_row (T : Tx K mg) : ∃ f fd, FnP K "_law_row" s_law_row f fd ∧ mg "_law_row" = some (.ref f) := by
  obtain ⟨fd, F⟩ := T.s.d.def_ 27 (d := defOfTop "_law_row" s_law_row) rfl
  exact ⟨_, fd, F, T.glo 27⟩
theorem Tx.f_law_rows (T : Tx K mg) : ∃ f fd, FnP K "_law_rows" s_law_rows f fd ∧ mg "_law_rows" = some (.ref f) := by
  obtain ⟨fd, F⟩ := T.s.d.def_ 28 (d := defOfTop "_law_rows" s_law_rows) rfl
  exact ⟨_, fd, F, T.glo 28⟩
theorem Tx.f_law_term_text (T : Tx K mg) : ∃ f fd, FnP K "_law_term_text" s_law_term_text f fd ∧ mg "_law_term_text" = some (.ref f) := by
  obtain ⟨fd, F⟩ := T.s.d.def_ 29 (d := defOfTop "_law_term_text" s_law_term_text) rfl
  exact ⟨_, fd, F, T.glo 29⟩
theorem Tx.f_law_poly_text (T : Tx K mg) : ∃ f fd, FnP K "_law_poly_text" s_law_poly_text f fd ∧ mg "_law_poly_text" = some (.ref f) := by
  obtain ⟨fd, F⟩ := T.s.d.def_ 30 (d := defOfTop "_law_poly_text" s_law_poly_text) rfl
  exact ⟨_, fd, F, T.glo 30⟩
theorem Tx.f_law_form_text (T : Tx K mg) : ∃ f fd, FnP K "_law_form_text" s_law_form_text f fd ∧ mg "_law_form_text" = some (.ref f) := by
  obtain ⟨fd, F⟩ := T.s.d.def_ 31 (d := defOfTop "_law_form_text" s_law_form_text) rfl
  exact ⟨_, fd, F, T.glo 31⟩
theorem Tx.f_law_text_rows (T : Tx K mg) : ∃ f fd, FnP K "_law_text_rows" s_law_text_rows f fd ∧ mg "_law_text_rows" = some (.ref f) := by
  obtain ⟨fd, F⟩ := T.s.d.def_ 32 (d := defOfTop "_law_text_rows" s_law_text_rows) rfl
  exact ⟨_, fd, F, T.glo 32⟩
theorem Tx.f_law_is_name (T : Tx K mg) : ∃ f fd, FnP K "_law_is_name" s_law_is_name f fd ∧ mg "_law_is_name" = some (.ref f) := by
  obtain ⟨fd, F⟩ := T.s.d.def_ 33 (d := defOfTop "_law_is_name" s_law_is_name) rfl
  exact ⟨_, fd, F, T.glo 33⟩
theorem Tx.f_law_figures (T : Tx K mg) : ∃ f fd, FnP K "_law_figures" s_law_figures f fd ∧ mg "_law_figures" = some (.ref f) := by
  obtain ⟨fd, F⟩ := T.s.d.def_ 34 (d := defOfTop "_law_figures" s_law_figures) rfl
  exact ⟨_, fd, F, T.glo 34⟩
theorem Tx.f_law_is_number (T : Tx K mg) : ∃ f fd, FnP K "_law_is_number" s_law_is_number f fd ∧ mg "_law_is_number" = some (.ref f) := by
  obtain ⟨fd, F⟩ := T.s.d.def_ 35 (d := defOfTop "_law_is_number" s_law_is_number) rfl
  exact ⟨_, fd, F, T.glo 35⟩
theorem Tx.f_law_mono_of (T : Tx K mg) : ∃ f fd, FnP K "_law_mono_of" s_law_mono_of f fd ∧ mg "_law_mono_of" = some (.ref f) := by
  obtain ⟨fd, F⟩ := T.s.d.def_ 36 (d := defOfTop "_law_mono_of" s_law_mono_of) rfl
  exact ⟨_, fd, F, T.glo 36⟩
theorem Tx.f_law_poly_term (T : Tx K mg) : ∃ f fd, FnP K "_law_poly_term" s_law_poly_term f fd ∧ mg "_law_poly_term" = some (.ref f) := by
  obtain ⟨fd, F⟩ := T.s.d.def_ 37 (d := defOfTop "_law_poly_term" s_law_poly_term) rfl
  exact ⟨_, fd, F, T.glo 37⟩
theorem Tx.f_law_form_term (T : Tx K mg) : ∃ f fd, FnP K "_law_form_term" s_law_form_term f fd ∧ mg "_law_form_term" = some (.ref f) := by
  obtain ⟨fd, F⟩ := T.s.d.def_ 38 (d := defOfTop "_law_form_term" s_law_form_term) rfl
  exact ⟨_, fd, F, T.glo 38⟩
theorem Tx.f_law_plus (T : Tx K mg) : ∃ f fd, FnP K "_law_plus" s_law_plus f fd ∧ mg "_law_plus" = some (.ref f) := by
  obtain ⟨fd, F⟩ := T.s.d.def_ 39 (d := defOfTop "_law_plus" s_law_plus) rfl
  exact ⟨_, fd, F, T.glo 39⟩
theorem Tx.f_law_sum_in (T : Tx K mg) : ∃ f fd, FnP K "_law_sum_in" s_law_sum_in f fd ∧ mg "_law_sum_in" = some (.ref f) := by
  obtain ⟨fd, F⟩ := T.s.d.def_ 40 (d := defOfTop "_law_sum_in" s_law_sum_in) rfl
  exact ⟨_, fd, F, T.glo 40⟩
theorem Tx.f_law_poly_in (T : Tx K mg) : ∃ f fd, FnP K "_law_poly_in" s_law_poly_in f fd ∧ mg "_law_poly_in" = some (.ref f) := by
  obtain ⟨fd, F⟩ := T.s.d.def_ 41 (d := defOfTop "_law_poly_in" s_law_poly_in) rfl
  exact ⟨_, fd, F, T.glo 41⟩
theorem Tx.f_law_form_in (T : Tx K mg) : ∃ f fd, FnP K "_law_form_in" s_law_form_in f fd ∧ mg "_law_form_in" = some (.ref f) := by
  obtain ⟨fd, F⟩ := T.s.d.def_ 42 (d := defOfTop "_law_form_in" s_law_form_in) rfl
  exact ⟨_, fd, F, T.glo 42⟩
theorem Tx.f_law_fail (T : Tx K mg) : ∃ f fd, FnP K "_law_fail" s_law_fail f fd ∧ mg "_law_fail" = some (.ref f) := by
  obtain ⟨fd, F⟩ := T.s.d.def_ 43 (d := defOfTop "_law_fail" s_law_fail) rfl
  exact ⟨_, fd, F, T.glo 43⟩
theorem Tx.f_law_next (T : Tx K mg) : ∃ f fd, FnP K "_law_next" s_law_next f fd ∧ mg "_law_next" = some (.ref f) := by
  obtain ⟨fd, F⟩ := T.s.d.def_ 44 (d := defOfTop "_law_next" s_law_next) rfl
  exact ⟨_, fd, F, T.glo 44⟩
theorem Tx.f_law_told (T : Tx K mg) : ∃ f fd, FnP K "_law_told" s_law_told f fd ∧ mg "_law_told" = some (.ref f) := by
  obtain ⟨fd, F⟩ := T.s.d.def_ 45 (d := defOfTop "_law_told" s_law_told) rfl
  exact ⟨_, fd, F, T.glo 45⟩
theorem Tx.f_law_pairs (T : Tx K mg) : ∃ f fd, FnP K "_law_pairs" s_law_pairs f fd ∧ mg "_law_pairs" = some (.ref f) := by
  obtain ⟨fd, F⟩ := T.s.d.def_ 46 (d := defOfTop "_law_pairs" s_law_pairs) rfl
  exact ⟨_, fd, F, T.glo 46⟩
theorem Tx.f_law_one (T : Tx K mg) : ∃ f fd, FnP K "_law_one" s_law_one f fd ∧ mg "_law_one" = some (.ref f) := by
  obtain ⟨fd, F⟩ := T.s.d.def_ 47 (d := defOfTop "_law_one" s_law_one) rfl
  exact ⟨_, fd, F, T.glo 47⟩
theorem Tx.f_law_within (T : Tx K mg) : ∃ f fd, FnP K "_law_within" s_law_within f fd ∧ mg "_law_within" = some (.ref f) := by
  obtain ⟨fd, F⟩ := T.s.d.def_ 48 (d := defOfTop "_law_within" s_law_within) rfl
  exact ⟨_, fd, F, T.glo 48⟩
theorem Tx.f_law_due (T : Tx K mg) : ∃ f fd, FnP K "_law_due" s_law_due f fd ∧ mg "_law_due" = some (.ref f) := by
  obtain ⟨fd, F⟩ := T.s.d.def_ 49 (d := defOfTop "_law_due" s_law_due) rfl
  exact ⟨_, fd, F, T.glo 49⟩
theorem Tx.f_law_bent (T : Tx K mg) : ∃ f fd, FnP K "_law_bent" s_law_bent f fd ∧ mg "_law_bent" = some (.ref f) := by
  obtain ⟨fd, F⟩ := T.s.d.def_ 50 (d := defOfTop "_law_bent" s_law_bent) rfl
  exact ⟨_, fd, F, T.glo 50⟩
theorem Tx.f_law_said (T : Tx K mg) : ∃ f fd, FnP K "_law_said" s_law_said f fd ∧ mg "_law_said" = some (.ref f) := by
  obtain ⟨fd, F⟩ := T.s.d.def_ 51 (d := defOfTop "_law_said" s_law_said) rfl
  exact ⟨_, fd, F, T.glo 51⟩
theorem Tx.f_law (T : Tx K mg) : ∃ f fd, FnP K "law" s_law f fd ∧ mg "law" = some (.ref f) := by
  obtain ⟨fd, F⟩ := T.s.d.def_ 52 (d := defOfTop "law" s_law) rfl
  exact ⟨_, fd, F, T.glo 52⟩
theorem Tx.f_BadRow_init (T : Tx K mg) : ∃ fd, FnM K "__init__" "BadRow.__init__" s_BadRow_init (He.ma K (He.ga K "BadRow") "__init__") fd := T.s.d.def_ 53 (d := defOfCls "BadRow" "__init__" "BadRow.__init__" s_BadRow_init) rfl
theorem Tx.f_Lines_init (T : Tx K mg) : ∃ fd, FnM K "__init__" "Lines.__init__" s_Lines_init (He.ma K (He.ga K "Lines") "__init__") fd := T.s.d.def_ 54 (d := defOfCls "Lines" "__init__" "Lines.__init__" s_Lines_init) rfl
theorem Tx.f_Lines_need (T : Tx K mg) : ∃ fd, FnM K "need" "Lines.need" s_Lines_need (He.ma K (He.ga K "Lines") "need") fd := T.s.d.def_ 55 (d := defOfCls "Lines" "need" "Lines.need" s_Lines_need) rfl
theorem Tx.f_Lines_take (T : Tx K mg) : ∃ fd, FnM K "take" "Lines.take" s_Lines_take (He.ma K (He.ga K "Lines") "take") fd := T.s.d.def_ 56 (d := defOfCls "Lines" "take" "Lines.take" s_Lines_take) rfl
theorem Tx.f_Lines_need_alone (T : Tx K mg) : ∃ fd, FnM K "need_alone" "Lines.need_alone" s_Lines_need_alone (He.ma K (He.ga K "Lines") "need_alone") fd := T.s.d.def_ 57 (d := defOfCls "Lines" "need_alone" "Lines.need_alone" s_Lines_need_alone) rfl
theorem Tx.f_Lines_take_pairs (T : Tx K mg) : ∃ fd, FnM K "take_pairs" "Lines.take_pairs" s_Lines_take_pairs (He.ma K (He.ga K "Lines") "take_pairs") fd := T.s.d.def_ 58 (d := defOfCls "Lines" "take_pairs" "Lines.take_pairs" s_Lines_take_pairs) rfl
theorem Tx.f_Lines_take_row (T : Tx K mg) : ∃ fd, FnM K "take_row" "Lines.take_row" s_Lines_take_row (He.ma K (He.ga K "Lines") "take_row") fd := T.s.d.def_ 59 (d := defOfCls "Lines" "take_row" "Lines.take_row" s_Lines_take_row) rfl
theorem Tx.f_Lines_take_within (T : Tx K mg) : ∃ fd, FnM K "take_within" "Lines.take_within" s_Lines_take_within (He.ma K (He.ga K "Lines") "take_within") fd := T.s.d.def_ 60 (d := defOfCls "Lines" "take_within" "Lines.take_within" s_Lines_take_within) rfl
theorem Tx.f_Lines_take_all (T : Tx K mg) : ∃ fd, FnM K "take_all" "Lines.take_all" s_Lines_take_all (He.ma K (He.ga K "Lines") "take_all") fd := T.s.d.def_ 61 (d := defOfCls "Lines" "take_all" "Lines.take_all" s_Lines_take_all) rfl
end
/-! ### bundles -/
section
variable (P : Program) (w : World) (K : PySem.W.Frag) (mg : Str → Option Value) (base : Heap)
/-- the global x is a def that keeps sp -/
def Fn (CX : CXT) (k : Nat) (x : Str) (ps : List Str) (sp : Sp) : Prop := ∃ f fd, FnOk P w K mg base CX k f fd ps sp ∧ Binds K fd ps [] ∧ mg x = some (.ref f) ∧ PySem.W.keepIn K (.ref f) = true
/-- the def at f keeps sp -/
def Fm (CX : CXT) (k : Nat) (f : Addr) (ps : List Str) (sp : Sp) : Prop := ∃ fd, FnOk P w K mg base CX k f fd ps sp ∧ Binds K fd ps []
end
section
variable {P : Program} {w : World} {K : PySem.W.Frag} {mg : Str → Option Value} {base : Heap}
abbrev BindH (x q : Str) (st : Stmt) (ps : List Str) : Prop := ∀ (kV doc pm : Value) (an : Option Addr) (cdv ct : Value) (us : List Value), us.length = ps.length → bindArgs (PySem.W.fnOf x q (defArgs st) (defBody st) (defScope st) .none kV doc pm an cdv ct) ⟨us, []⟩ = pure (ps.zip us)
theorem Fn.of {CX : CXT} {x : Str} {st : Stmt} {N ps : List Str} {k : Nat} {sp : Sp} (F : ∃ f fd, FnP K x st f fd ∧ mg x = some (.ref f)) (S : FnScope N ps (defScope st)) (hb : BindH x x st ps) (len : ∀ vs H Q E, sp vs H Q E → vs.length = ps.length)
    (hbody : ∀ (f : Addr) (cdv : Value) (A : Around) (outer : List Env) (s : Shared) (H : Hp) (vs : List V) (Q : VK) (E : XK), Room k (A.deeper (envOfC x (defScope st) s.heap.objs.size f cdv)) → sp vs H Q E →
      ∃ t, PSs (cxOf CX P w K mg base N x (defScope st) f cdv A outer s H E) (defBody st) t ∧ t { nx := fun _ H' => Q .non H', rt := Q } (start N vs) H) : Fn P w K mg base CX (k + 1) x ps sp := by
  obtain ⟨f, fd, F, hm⟩ := F
  exact ⟨f, fd, F.ok S len (hbody f), F.bindsN hb, hm, F.kp⟩
theorem Fm.of {CX : CXT} {x q : Str} {st : Stmt} {N ps : List Str} {k : Nat} {sp : Sp} {f : Addr} (F : ∃ fd, FnM K x q st f fd) (S : FnScope N ps (defScope st)) (hb : BindH x q st ps) (len : ∀ vs H Q E, sp vs H Q E → vs.length = ps.length)
    (hbody : ∀ (cdv : Value) (A : Around) (outer : List Env) (s : Shared) (H : Hp) (vs : List V) (Q : VK) (E : XK), Room k (A.deeper (envOfC q (defScope st) s.heap.objs.size f cdv)) → sp vs H Q E →
      ∃ t, PSs (cxOf CX P w K mg base N q (defScope st) f cdv A outer s H E) (defBody st) t ∧ t { nx := fun _ H' => Q .non H', rt := Q } (start N vs) H) : Fm P w K mg base CX (k + 1) f ps sp := by
  obtain ⟨fd, F⟩ := F
  exact ⟨fd, F.ok S len hbody, F.bindsN hb⟩
theorem Fn.mono {CX : CXT} {j k : Nat} {x : Str} {ps : List Str} {sp : Sp} (F : Fn P w K mg base CX j x ps sp) (h : j ≤ k) : Fn P w K mg base CX k x ps sp := by
  obtain ⟨f, fd, a, b⟩ := F
  exact ⟨f, fd, a.mono h, b⟩
end
section
variable {X : Cx} {CX : CXT} {k : Nat} {f C : Addr} {ps : List Str} {sp : Sp} {x m : Str} {p pos apos : Pos} {e o : Expr} {es : List Expr} {ta : TE} {t : TA}
theorem pe_gv {v : V} (h : Gv X.mg x v) (hg : Gl X x := by rfl) (hdb : (x == ("__debug__" : Str)) = false := by decide) : PE X (.Name x pos) (tC v) := by
  obtain ⟨u, h1, h2⟩ := h
  exact pe_glob hg h1 h2 hdb
/-- f(e, ..), nothing raised -/
def tFn (sp : Sp) (t : TA) : TE := fun σ H Q => t σ H fun vs H1 => sp vs H1 Q E0
theorem pe_fn (F : Fn X.prog X.w X.K X.mg X.base CX0 k x ps sp) (hr : Room k X.A) (ha : PA X (e :: es) t) (hg : Gl X x := by rfl)
    (hdb : (x == ("__debug__" : Str)) = false := by decide) (he : starEach (e :: es) X.env = (false, eval e X.env) :: starEach es X.env := by rfl) (hpl : (backTo pos (starEach es X.env)).any (·.1) = false := by rfl) : PE X (.Call (.Name x p) (e :: es) [] pos) (tFn sp t) := by
  obtain ⟨f, fd, F, hb, hm, hk⟩ := F
  exact pe_callS F hr hg hm hk hb (E := fun _ => E0) (fun σ => fun _ _ _ _ _ _ h => h.elim) ha hdb he hpl
/-- f(e, ..), f may raise: what is raised is the body's wish W -/
def tFnX (sp : Sp) (W : WX) (t : TA) : TE := fun σ H Q => t σ H fun vs H1 => sp vs H1 Q (WE W σ)
theorem pe_fnX {W : WX} (F : Fn X.prog X.w X.K X.mg X.base (L2.CX X.prog X.w) k x ps sp) (hr : Room k X.A) (tk : Takes X W) (ha : PA X (e :: es) t) (hg : Gl X x := by rfl)
    (hdb : (x == ("__debug__" : Str)) = false := by decide) (he : starEach (e :: es) X.env = (false, eval e X.env) :: starEach es X.env := by rfl) (hpl : (backTo pos (starEach es X.env)).any (·.1) = false := by rfl) : PE X (.Call (.Name x p) (e :: es) [] pos) (tFnX sp W t) := by
  obtain ⟨f, fd, F, hb, hm, hk⟩ := F
  exact pe_callS F hr hg hm hk hb (fun σ => passAt tk σ) ha hdb he hpl
/-- o.m(..), m may raise -/
def tMt (C : Addr) (m : Str) (sp : Sp) (E : XK) (ta : TE) (t : TA) : TE := fun σ H Q => ta σ H fun x H1 => ∃ a dx fs, x = .ref a ∧ H1 a = some (.ins C dx fs) ∧ fs.lookup m = none ∧ t σ H1 fun vs H2 => sp (x :: vs) H2 Q E
theorem tMeth_nil {C : Addr} {m : Str} {sp : Sp} {E : XK} {ta : TE} {t : TA} : tMeth C m sp [] E ta t = tMt C m sp E ta t := by
  funext σ H Q
  unfold tMeth tMt
  simp only [List.append_nil]
theorem pe_mt {E : XK} {pl : Sem Bool} (F : Fm X.prog X.w X.K X.mg X.base (L2.CX X.prog X.w) k f ps sp) (hr : Room k X.A) (c : Cls X.K C) (hm : Meth X.K C m f) (tk : Takes X (fun cls d _ H => E cls d H)) (he : PE X o ta) (ha : PA X (e :: es) t)
    (hst : starEach (e :: es) X.env = (false, eval e X.env) :: starEach es X.env := by rfl) (hpl : (backTo pos (starEach es X.env)).any (·.1) = false := by rfl)
    (ht : eval (.Call (.Attribute o m apos) (e :: es) [] pos) X.env = (do
      let ov ← eval o X.env
      standAt apos.atName
      let (f, first) ← holding [ov] (getMethod ov m pl)
      callWith pos f first (backTo pos (starEach (e :: es) X.env)) (backToKw pos (keywordEach [] X.env))) := by rfl) :
    PE X (.Call (.Attribute o m apos) (e :: es) [] pos) (tMt C m sp E ta t) := by
  obtain ⟨fd, F, hb⟩ := F
  rw [← tMeth_nil]
  exact pe_meth he c hm F hr hb .nil (passes_call tk fun _ _ _ _ h => h) ha hst hpl ht
theorem pe_mt0 {E : XK} {pl : Sem Bool} (F : Fm X.prog X.w X.K X.mg X.base (L2.CX X.prog X.w) k f ps sp) (hr : Room k X.A) (c : Cls X.K C) (hm : Meth X.K C m f) (tk : Takes X (fun cls d _ H => E cls d H)) (he : PE X o ta)
    (ht : eval (.Call (.Attribute o m apos) [] [] pos) X.env = (do
      let ov ← eval o X.env
      standAt apos.atName
      let (f, first) ← holding [ov] (getMethod ov m pl)
      callWith pos f first (backTo pos (starEach [] X.env)) (backToKw pos (keywordEach [] X.env))) := by rfl) :
    PE X (.Call (.Attribute o m apos) [] [] pos) (tMt C m sp E ta tNil) := by
  obtain ⟨fd, F, hb⟩ := F
  rw [← tMeth_nil]
  exact pe_meth0 he c hm F hr hb .nil (passes_call tk fun _ _ _ _ h => h) ht
end
end K86
set_option Elab.async false
set_option linter.all false
set_option maxRecDepth 100000
set_option maxHeartbeats 4000000
/-! comprehensions that only add to the heap; tests that are known -/
namespace K86
open PySem PySem.Spec PyProof.Rows L2
section
variable {J : It} {n : Nat} {G : Hp → Prop} {Y : Nat → Hp → V → Hp → Prop}
/-- values known ahead -/
theorem lc_gr (w : Walk J n G Y) {g : TG} {tt : TT} {te : TE} {vs : List Nat} {σ : L2.St} {H1 : Hp} {D : Addr} {Qd : Hp → Prop} (hD : H1 D = none) (ys : Nat → List V) (h0 : ys 0 = []) (hz : ∀ i, i < n → (ys i).length < sizeLine) (hG : ∀ H, Gr H1 H → G H)
    (hs : ∀ i x H H', i < n → Gr H1 H → Y i H x H' → ∀ (C : V → Hp → Prop) (C0 : Hp → Prop), (∀ y H4, Gr H H4 → ys (i + 1) = ys i ++ [y] → C y H4) → (∀ H3, Gr H H3 → ys (i + 1) = ys i → C0 H3) →
      g x (wipe σ vs) H' fun σ2 H2 => wipe σ2 vs = wipe σ vs ∧ tt σ2 H2 fun b H3 => if b = true then te σ2 H3 C else C0 H3)
    (hd : ∀ H, Gr H1 H → H D = some (.lst (ys n)) → Qd H) :
    ∃ W : Nat → Nat → Hp → Prop, (∃ m, W 0 m (upd H1 D (.lst []))) ∧ ∀ i m H, W i m H →
      (J.stop i H ∧ Qd H) ∨ (J.go i H ∧ ∃ Nx : Hp → Prop, (∀ H', Nx H' → ∃ m', m' < m ∧ W (i + 1) m' H') ∧ ∀ x H', J.yld i H x H' → g x (wipe σ vs) H' fun σ2 H2 => wipe σ2 vs = wipe σ vs ∧ tt σ2 H2 fun b H3 =>
        if b = true then te σ2 H3 fun y H4 => ∃ acc, H4 D = some (.lst acc) ∧ acc.length < sizeLine ∧ Nx (upd H4 D (.lst (acc ++ [y]))) else Nx H3) := by
  refine lc_it w (fun i H => Gr H1 H ∧ H D = some (.lst (ys i))) ⟨Gr.new hD, by rw [upd_same, h0]⟩ (fun i H _ p => hG H p.1) (fun i x H H' hi p y => ?_) (fun H p => hd H p.1 p.2)
  refine hs i x H H' hi p.1 y _ _ (fun z H4 g4 e => ⟨ys i, g4 _ _ p.2, hz i hi, ?_, ?_⟩) (fun H3 g3 e => ⟨p.1.trans g3, by rw [e]; exact g3 _ _ p.2⟩)
  · exact (p.1.trans g4).mut hD
  · rw [upd_same, e]
/-- data known ahead -/
theorem lc_dt (w : Walk J n G Y) {K : PySem.W.Frag} {g : TG} {tt : TT} {te : TE} {vs : List Nat} {σ : L2.St} {H1 : Hp} {D : Addr} {Qd : Hp → Prop} (hD : H1 D = none) (ds : Nat → List PyData) (h0 : ds 0 = []) (hz : ∀ i, i < n → (ds i).length < sizeLine) (hn : ∀ i, i ≤ n → nlAll (ds i) = true) (hG : ∀ H, Gr H1 H → G H)
    (hs : ∀ i x H H', i < n → Gr H1 H → Y i H x H' → ∀ (C : V → Hp → Prop) (C0 : Hp → Prop), (∀ y d H4, Gr H H4 → ds (i + 1) = ds i ++ [d] → Dp K H4 y d → C y H4) → (∀ H3, Gr H H3 → ds (i + 1) = ds i → C0 H3) →
      g x (wipe σ vs) H' fun σ2 H2 => wipe σ2 vs = wipe σ vs ∧ tt σ2 H2 fun b H3 => if b = true then te σ2 H3 C else C0 H3)
    (hd : ∀ H ys, Gr H1 H → H D = some (.lst ys) → DpAll K H ys (ds n) → Qd H) :
    ∃ W : Nat → Nat → Hp → Prop, (∃ m, W 0 m (upd H1 D (.lst []))) ∧ ∀ i m H, W i m H →
      (J.stop i H ∧ Qd H) ∨ (J.go i H ∧ ∃ Nx : Hp → Prop, (∀ H', Nx H' → ∃ m', m' < m ∧ W (i + 1) m' H') ∧ ∀ x H', J.yld i H x H' → g x (wipe σ vs) H' fun σ2 H2 => wipe σ2 vs = wipe σ vs ∧ tt σ2 H2 fun b H3 =>
        if b = true then te σ2 H3 fun y H4 => ∃ acc, H4 D = some (.lst acc) ∧ acc.length < sizeLine ∧ Nx (upd H4 D (.lst (acc ++ [y]))) else Nx H3) := by
  refine lc_it w (fun i H => Gr H1 H ∧ ∃ ys, H D = some (.lst ys) ∧ DpAll K H ys (ds i)) ⟨Gr.new hD, [], upd_same, by rw [h0]; exact .nil⟩ (fun i H _ p => hG H p.1) (fun i x H H' hi p y => ?_) (fun H p => ?_)
  · obtain ⟨p1, ys, p2, p3⟩ := p
    refine hs i x H H' hi p1 y _ _ (fun z d H4 g4 e dz => ⟨ys, g4 _ _ p2, ?_, ?_, ys ++ [z], upd_same, ?_⟩) (fun H3 g3 e => ⟨p1.trans g3, ys, g3 _ _ p2, by rw [e]; exact DpAll.gr g3 _ _ p3⟩)
    · rw [DpAll.length p3]
      exact hz i hi
    · exact (p1.trans g4).mut hD
    · have k : Kt H4 (upd H4 D (.lst (ys ++ [z]))) := Kt.put (by rw [g4 _ _ p2]; exact True.intro)
      have hd' := hn (i + 1) hi
      rw [e] at hd'
      rw [e]
      exact DpAll.kt k _ _ hd' (DpAll.append (DpAll.gr g4 _ _ p3) (.cons dz .nil))
  · obtain ⟨p1, ys, p2, p3⟩ := p
    exact hd H ys p1 p2 p3
end
/-! ### cuts: what an expression, a test, a statement gives is told once -/
section
variable {X : Cx}
def tCut (t : TE) : TE := fun σ H Q => ∃ R : V → Hp → Prop, t σ H R ∧ ∀ v H', R v H' → Q v H'
theorem pe_cut {e : Expr} {t : TE} (h : PE X e t) : PE X e (tCut t) := ⟨fun pins s σ H Q I ⟨R, q, k⟩ => thn (h.run pins s σ H R I q) fun _ _ ⟨v, H', I', r, z⟩ => ⟨v, H', I', r, k _ _ z⟩⟩
def tTCut (t : TT) : TT := fun σ H Q => ∃ R : Bool → Hp → Prop, t σ H R ∧ ∀ v H', R v H' → Q v H'
theorem pt_cut {e : Expr} {t : TT} (h : PT X e t) : PT X e (tTCut t) := ⟨fun pins s σ H Q I ⟨R, q, k⟩ => thn (h.run pins s σ H R I q) fun _ _ ⟨H', I', z⟩ => ⟨H', I', k _ _ z⟩⟩
def tSCut (t : TS) : TS := fun D σ H => ∃ R : L2.St → Hp → Prop, t { D with nx := R } σ H ∧ ∀ σ' H', R σ' H' → D.nx σ' H'
theorem ps_cut {st : Stmt} {t : TS} (h : PS X st t) : PS X st (tSCut t) := ⟨fun pins s σ H D I ⟨R, q, k⟩ => thn (h.run pins s σ H { D with nx := R } I q) fun f _ z => by
  cases f with
  | next => obtain ⟨σ', H', I', y⟩ := z; exact ⟨σ', H', I', k _ _ y⟩
  | brk => exact z
  | cont => exact z
  | ret u => exact z⟩
end
theorem iteT {c : Bool} {A B : Prop} (hc : c = true) (h : A) : if c = true then A else B := by rw [if_pos hc]; exact h
theorem iteF {c : Bool} {A B : Prop} (hc : c = false) (h : B) : if c = true then A else B := by rw [hc, if_neg Bool.false_ne_true]; exact h
/-- both ways -/
theorem ite2 {c : Bool} {A B : Prop} (h1 : c = true → A) (h2 : c = false → B) : if c = true then A else B := by
  cases c with
  | true => exact iteT rfl (h1 rfl)
  | false => exact iteF rfl (h2 rfl)
theorem dT {p : Prop} [Decidable p] (h : decide p = true) : p := of_decide_eq_true h
theorem dF {p : Prop} [Decidable p] (h : decide p = false) : ¬ p := of_decide_eq_false h
theorem nT {p : Prop} [Decidable p] (h : (!decide p) = true) : ¬ p := fun z => by rw [decide_eq_true z] at h; cases h
theorem nF {p : Prop} [Decidable p] (h : (!decide p) = false) : p := Decidable.byContradiction fun z => by rw [decide_eq_false z] at h; cases h
abbrev tl (x : Str) : List Nat := TL.tl x
/-! ### words -/
def lowC (c : Nat) : Bool := decide (97 ≤ c) && decide (c ≤ 122)
def figC (c : Nat) : Bool := decide (48 ≤ c) && decide (c ≤ 57)
def nameL (l : List Nat) : Bool := decide (1 ≤ l.length) && decide (l.length ≤ 8) && l.all lowC
def figs (l : List Nat) : Bool := decide (1 ≤ l.length) && decide (l.length ≤ 40) && l.all figC
def figL (l : List Nat) : Bool := figs l && (decide (l.length = 1) || !decide (l.head? = some 48))
def plainL (l : List Nat) : List Nat := if decide (l.head? = some 45) = true then l.drop 1 else l
def numL (l : List Nat) : Bool := figL l || (decide (l.head? = some 45) && figL (l.drop 1) && !decide (l = [45, 48]))
def valL (l : List Nat) : Int := if l.head? = some 45 then -((NumText.digitsVal (l.drop 1) : Nat) : Int) else ((NumText.digitsVal l : Nat) : Int)
def numOf (l : List Nat) : Option Int := if numL l = true then some (valL l) else none
theorem range_mem (a n c : Nat) : decide (c ∈ List.range' a n) = (decide (a ≤ c) && decide (c < a + n)) := by
  rw [Bool.eq_iff_iff]
  simp [List.mem_range'_1]
theorem low_mem (c : Nat) : decide (c ∈ (("abcdefghijklmnopqrstuvwxyz" : Str)).cps.toList) = lowC c := by
  rw [show (("abcdefghijklmnopqrstuvwxyz" : Str)).cps.toList = List.range' 97 26 by decide +kernel, range_mem]
  unfold lowC
  congr 1
  exact decide_eq_decide.mpr (by omega)
theorem fig_mem (c : Nat) : decide (c ∈ (("0123456789" : Str)).cps.toList) = figC c := by
  rw [show (("0123456789" : Str)).cps.toList = List.range' 48 10 by decide +kernel, range_mem]
  unfold figC
  congr 1
  exact decide_eq_decide.mpr (by omega)
theorem str_eq {x y : Str} : (x = y) ↔ tl x = tl y := ⟨fun e => by rw [e], TL.ext_tl⟩
theorem len_tl (x : Str) : x.length = (tl x).length := TL.len_tl x
end K86
set_option Elab.async false
set_option linter.all false
set_option maxRecDepth 100000
set_option maxHeartbeats 4000000
/-! texts as lists of signs -/
namespace K86
open PySem PySem.Spec PyProof.Rows L2
/-- l cut at each s -/
def cut1 (s : Nat) : List Nat → List (List Nat)
  | [] => [[]]
  | c :: r => if c = s then [] :: cut1 s r else match cut1 s r with
    | [] => [[c]]
    | p :: q => (c :: p) :: q
theorem cut1_ne (s : Nat) : ∀ l, cut1 s l ≠ []
  | [] => by simp [cut1]
  | c :: r => by
    unfold cut1
    split
    · simp
    · split <;> simp
theorem pre_one (s c : Nat) (r : List Nat) : TL.pre [s] (c :: r) = decide (c = s) := by
  unfold TL.pre
  rw [Bool.eq_iff_iff]
  simp
theorem spl_cut1 (s : Nat) : ∀ (l acc : List Nat), TL.spl [s] 0 acc l = match cut1 s l with
    | [] => [acc]
    | p :: q => (acc ++ p) :: q
  | [], acc => by rw [TL.spl_nil, cut1] <;> simp
  | c :: r, acc => by
    by_cases h : c = s
    · rw [TL.spl_hit (by rw [pre_one]; exact decide_eq_true h), cut1, if_pos h]
      have e := spl_cut1 s r []
      show acc :: TL.spl [s] 0 [] r = _
      rw [e]
      cases q : cut1 s r with
      | nil => exact absurd q (cut1_ne s r)
      | cons a b => simp
    · rw [TL.spl_miss (by rw [pre_one]; exact decide_eq_false h), spl_cut1 s r, cut1, if_neg h]
      cases q : cut1 s r with
      | nil => exact absurd q (cut1_ne s r)
      | cons a b => simp
theorem split_cut {s : Nat} (hs : s < 256) (x : Str) : (Txt.split x ⟨#[s]⟩).map tl = cut1 s (tl x) := by
  have e := TL.split_spl x ⟨#[s]⟩ (by simp [TL.tl]) (TL.kind_ok (by simpa using hs))
  have e2 : TL.tl (⟨#[s]⟩ : Str) = [s] := rfl
  show (Txt.split x ⟨#[s]⟩).map TL.tl = _
  rw [e, e2, spl_cut1]
  cases q : cut1 s (tl x) with
  | nil => exact absurd q (cut1_ne s _)
  | cons a b => simp
theorem cut1_len (s : Nat) : ∀ l, (cut1 s l).length = l.count s + 1
  | [] => rfl
  | c :: r => by
    have ih := cut1_len s r
    unfold cut1
    by_cases h : c = s
    · rw [if_pos h, h, List.count_cons_self, List.length_cons, ih]
    · rw [if_neg h, List.count_cons_of_ne h]
      cases q : cut1 s r with
      | nil => exact absurd q (cut1_ne s r)
      | cons a b => rw [← ih, q] <;> rfl
theorem cut1_part (s : Nat) : ∀ l p, p ∈ cut1 s l → p.length ≤ l.length ∧ ∀ c ∈ p, c ∈ l ∧ c ≠ s
  | [], p, h => by
    rw [cut1] at h
    rw [List.mem_singleton.mp h]
    simp
  | c :: r, p, h => by
    unfold cut1 at h
    by_cases e : c = s
    · rw [if_pos e] at h
      rcases List.mem_cons.mp h with z | z
      · rw [z]
        simp
      · obtain ⟨h1, h2⟩ := cut1_part s r p z
        exact ⟨by simp; omega, fun d hd => ⟨List.mem_cons_of_mem _ (h2 d hd).1, (h2 d hd).2⟩⟩
    · rw [if_neg e] at h
      cases q : cut1 s r with
      | nil => exact absurd q (cut1_ne s r)
      | cons a b =>
        rw [q] at h
        rcases List.mem_cons.mp h with z | z
        · obtain ⟨h1, h2⟩ := cut1_part s r a (by rw [q]; exact List.mem_cons_self)
          subst z
          refine ⟨by simp; omega, fun d hd => ?_⟩
          rcases List.mem_cons.mp hd with z | z
          · rw [z]
            exact ⟨List.mem_cons_self, e⟩
          · exact ⟨List.mem_cons_of_mem _ (h2 d z).1, (h2 d z).2⟩
        · obtain ⟨h1, h2⟩ := cut1_part s r p (by rw [q]; exact List.mem_cons_of_mem _ z)
          exact ⟨by simp; omega, fun d hd => ⟨List.mem_cons_of_mem _ (h2 d hd).1, (h2 d hd).2⟩⟩
theorem cut1_app (s : Nat) : ∀ a b, cut1 s (a ++ s :: b) = cut1 s a ++ cut1 s b
  | [], b => by
    show (if s = s then [] :: cut1 s b else _) = [] :: cut1 s b
    rw [if_pos rfl]
  | c :: r, b => by
    have ih := cut1_app s r b
    rw [List.cons_append, cut1, cut1, ih]
    by_cases h : c = s
    · rw [if_pos h, if_pos h] <;> rfl
    · rw [if_neg h, if_neg h]
      cases q : cut1 s r with
      | nil => exact absurd q (cut1_ne s r)
      | cons x y => rfl
theorem cut1_none {s : Nat} : ∀ {l : List Nat}, s ∉ l → cut1 s l = [l]
  | [], _ => rfl
  | c :: r, h => by
    rw [cut1, if_neg (fun e => h (by rw [e]; exact List.mem_cons_self)), cut1_none (fun m => h (List.mem_cons_of_mem _ m))]
/-- par: what stands ahead of the first s -/
theorem par_cut (s : Nat) : ∀ (l acc : List Nat), match TL.par [s] acc l with
    | some (a, b) => ∃ a', a = acc ++ a' ∧ l = a' ++ s :: b ∧ s ∉ a'
    | none => s ∉ l
  | [], acc => by simp [TL.par]
  | c :: r, acc => by
    by_cases h : c = s
    · rw [TL.par_hit (by rw [pre_one]; exact decide_eq_true h)]
      exact ⟨[], by simp, by simp [h], by simp⟩
    · rw [TL.par_miss (by rw [pre_one]; exact decide_eq_false h)]
      have ih := par_cut s r (acc ++ [c])
      cases q : TL.par [s] (acc ++ [c]) r with
      | none =>
        rw [q] at ih
        simp only [List.mem_cons, not_or]
        exact ⟨fun z => h z.symm, ih⟩
      | some ab =>
        rw [q] at ih
        obtain ⟨a', h1, h2, h3⟩ := ih
        refine ⟨c :: a', by rw [h1]; simp, by rw [h2]; rfl, ?_⟩
        simp only [List.mem_cons, not_or]
        exact ⟨fun z => h z.symm, h3⟩
theorem tl_cut (z : Str) (lo hi : Option Int) : tl (cutS z lo hi) = ((tl z).drop (HT.sIx z.length 0 lo)).take (HT.sIx z.length z.length hi - HT.sIx z.length 0 lo) := rfl
theorem tl_from1 (z : Str) : tl (cutS z (some 1) none) = (tl z).drop 1 := by
  have hl := len_tl z
  rw [tl_cut, show HT.sIx z.length 0 (some 1) = min 1 z.length from HT.sIx_nat z.length 0 1, HT.sIx_none]
  by_cases h : 1 ≤ z.length
  · rw [Nat.min_eq_left h, List.take_of_length_le (by rw [List.length_drop]; omega)]
  · have e : tl z = [] := List.eq_nil_of_length_eq_zero (by omega)
    rw [e] <;> simp
theorem tl_to1 (z : Str) : tl (cutS z none (some 1)) = (tl z).take 1 := by
  have hl := len_tl z
  rw [tl_cut, show HT.sIx z.length z.length (some 1) = min 1 z.length from HT.sIx_nat z.length z.length 1, HT.sIx_none]
  by_cases h : 1 ≤ z.length
  · rw [Nat.min_eq_left h] <;> rfl
  · have e : tl z = [] := List.eq_nil_of_length_eq_zero (by omega)
    rw [e] <;> simp
theorem sIx_m1 (n d : Nat) : HT.sIx n d (some (-1)) = n - 1 := by
  show (if (-1 : Int) < 0 then ((-1 : Int) + (n : Int)).toNat else min (-1 : Int).toNat n) = n - 1
  rw [if_pos (by decide)]
  omega
theorem tl_butlast (z : Str) : tl (cutS z none (some (-1))) = (tl z).dropLast := by
  have hl := len_tl z
  rw [tl_cut, sIx_m1, HT.sIx_none, List.dropLast_eq_take, ← hl] <;> rfl
theorem tl_last (z : Str) : tl (cutS z (some (-1)) none) = (tl z).drop (z.length - 1) := by
  have hl := len_tl z
  rw [tl_cut, sIx_m1, HT.sIx_none, List.take_of_length_le (by rw [List.length_drop]; omega)]
theorem tl_one (c : Nat) : tl (⟨#[c]⟩ : Str) = [c] := rfl
theorem starts_one (z : Str) (c : Nat) : Txt.startswith z ⟨#[c]⟩ = decide ((tl z).head? = some c) := by
  unfold Txt.startswith
  rw [PySem.StrLaws.subAt_eq, Bool.eq_iff_iff]
  have hl := len_tl z
  show (decide (0 + 1 ≤ z.length) && ((tl z).drop 0).take 1 == [c]) = true ↔ _
  rw [List.drop_zero]
  cases q : tl z with
  | nil => simp
  | cons a b =>
    rw [q] at hl
    simp at hl
    simp [hl]
theorem count_one (z : Str) (c : Nat) : Txt.count z ⟨#[c]⟩ = ((tl z).count c : Nat) := by
  rw [PyProof.Rows.count_cnt]
  show PyProof.Rows.cnt c (tl z) = _
  induction tl z with
  | nil => rfl
  | cons a b ih =>
    rw [PyProof.Rows.cnt_cons, ih, List.count_cons]
    by_cases h : a = c <;> simp [h] <;> omega
end K86
set_option Elab.async false
set_option linter.all false
set_option maxRecDepth 100000
set_option maxHeartbeats 4000000
/-! the program's words -/
namespace K86
open PySem PySem.Spec PyProof.Rows L2
section
variable {P : Program} {w : World} {K : PySem.W.Frag} {mg : Str → Option Value} {base : Heap}
theorem kit_str : PySem.W.kitOne K (.type "str") (.type "str") = some true := kit_ty (by decide +kernel)
theorem take_snoc {α : Type} {l : List α} {i : Nat} {x : α} (h : l[i]? = some x) : l.take (i + 1) = l.take i ++ [x] := by
  rw [List.take_succ, h] <;> rfl
/-- the list that a walk over a text's signs makes -/
def signs (f : Nat → Bool) (z : Str) (i : Nat) : List V := ((tl z).take i).map fun c => V.bl (f c)
theorem signs_len {f : Nat → Bool} {z : Str} {i : Nat} (hi : i < z.cps.size) (hz : z.length ≤ sizeLine) : (signs f z i).length < sizeLine := by
  unfold signs
  rw [List.length_map, List.length_take]
  have : (tl z).length = z.length := (len_tl z).symm
  have h2 : z.length = z.cps.size := rfl
  omega
theorem signs_snoc {f : Nat → Bool} {z : Str} {i c : Nat} (h : z.cps[i]? = some c) : signs f z (i + 1) = signs f z i ++ [V.bl (f c)] := by
  have h' : (tl z)[i]? = some c := by
    show z.cps.toList[i]? = some c
    rw [Array.getElem?_toList]
    exact h
  unfold signs
  rw [take_snoc h', List.map_append] <;> rfl
theorem signs_all {f : Nat → Bool} {z : Str} : signs f z z.cps.size = ((tl z).map f).map V.bl := by
  unfold signs
  rw [List.take_of_length_le (by show z.cps.toList.length ≤ _; simp), List.map_map] <;> rfl
theorem all_id {f : Nat → Bool} {l : List Nat} : (l.map f).all id = l.all f := by
  rw [List.all_map] <;> rfl
def sp_is_name : Sp := fun vs H Q _ => ∃ z : Str, vs = [.str z] ∧ z.length ≤ sizeLine ∧ ∀ H', Gr H H' → Q (.bl (nameL (tl z))) H'
theorem sc_is_name : FnScope ["thing", "sign"] ["thing"] (defScope s_is_name) := ⟨rfl, rfl, rfl, by decide +kernel, rfl, by decide +kernel, by decide +kernel⟩
theorem nameL_len {z : Str} : decide ((1 : Int) ≤ (z.length : Nat)) = decide (1 ≤ (tl z).length) := by
  rw [← len_tl]
  exact decide_eq_decide.mpr (by omega)
theorem ok_is_name (T : Tx K mg) : Fn P w K mg base CX0 1 "is_name" ["thing"] sp_is_name := by
  refine Fn.of T.f_is_name sc_is_name (fun _ _ _ _ _ _ us hl => match us, hl with | [_], _ => rfl) (fun vs H Q E h => ?_) (fun f cdv A outer s H vs Q E hr h => ⟨_, PSs.nox (pss_cons (ps_if (pt_cut (PW.pt (pw_or (pt_not (pt_val (pe_callB call_isi (by rfl) T.b_isinstance (by decide +kernel) (pa_cons (pv 0) (pa_cons (pe_bltn (by rfl) T.b_str (v := .ty "str") (u := .type "str") (by decide +kernel) (by rfl)) pa_nil))))) (pw_or1 (pt_not (pt_chain op_le op_le pe_int (pe_callB call_len_str (by rfl) T.b_len (by decide +kernel) (pa_cons (pv 0) pa_nil)) (pe_gv T.c_MOST_LETTERS))))))) (pss_one (ps_ret pe_bl)) pss_nil)
  (pss_one (ps_ret (pe_callB (cr_all rfl) (by rfl) T.b_all (by decide +kernel) (pa_cons (pe_lc (own := [("sign", 1)]) (g := (gName 1)) (tt := tYes) (by rfl) sc_is_name.nd (pi_str (pv 0)) (blkOk_by (own := [("sign", 1)]) (N := ["thing", "sign"]) (sc := defScope s_is_name) (by decide +kernel)) (fun _ _ _ _ _ => (pg_name (i := 1) sc_is_name.nd rfl (Or.inl rfl))) (fun _ _ _ _ _ => pts_nil) (fun _ _ _ _ _ => (pe_cmpR op_in_sign (pv 1) (pe_gv T.c_LETTERS) (by rfl)))) pa_nil))))), ?_⟩)
  · obtain ⟨z, rfl, _⟩ := h
    rfl
  · obtain ⟨z, rfl, hz, q⟩ := h
    have hl : z.length = (tl z).length := len_tl z
    refine ⟨fun b H' => b = !(decide (1 ≤ (tl z).length) && decide ((tl z).length ≤ 8)) ∧ H' = H, ?_, ?_⟩
    · refine ⟨_, rfl, _, _, .type "str", .type "str", true, rfl, .ty "str", .base (.str z), kit_str, true, rfl, ?_⟩
      refine iteF rfl ?_
      refine ⟨_, rfl, z, rfl, hz, _, _, rfl, rfl, _, rfl, ?_⟩
      refine ite2 (fun c1 => ?_) (fun c1 => ?_)
      · refine ⟨_, _, rfl, rfl, _, rfl, ?_, rfl⟩
        rw [decide_eq_true (p := 1 ≤ (tl z).length) (by have := dT c1; omega), Bool.true_and]
        congr 1
        exact decide_eq_decide.mpr (by omega)
      · refine ⟨false, rfl, ?_, rfl⟩
        rw [decide_eq_false (p := 1 ≤ (tl z).length) (by have := dF c1; omega)] <;> rfl
    rintro b H' ⟨rfl, rfl⟩
    refine ite2 (fun c => ?_) (fun c => ?_)
    · have e : nameL (tl z) = false := by
        unfold nameL
        cases h0 : (decide (1 ≤ (tl z).length) && decide ((tl z).length ≤ 8)) with
        | true => rw [h0] at c; cases c
        | false => rfl
      exact e ▸ q _ (Gr.rfl' _)
    · refine ⟨_, rfl, z, rfl, fun D hD => lc_gr walk_str hD (signs lowC z) rfl (fun i hi => signs_len hi hz) (fun _ _ => trivial) (fun i x H1 H2 hi g1 y C C0 h1 h2 => ?_) (fun H1 g1 e1 => ?_)⟩
      · obtain ⟨rfl, c, hc, rfl⟩ := y
        refine ⟨rfl, ?_⟩
        exact ⟨_, rfl, c, _, rfl, rfl, h1 _ _ (Gr.rfl' _) (by rw [signs_snoc hc, low_mem])⟩
      · rw [signs_all] at e1
        refine ⟨D, _, rfl, sl_of e1, ?_⟩
        have e : nameL (tl z) = ((tl z).map lowC).all id := by
          rw [all_id]
          unfold nameL
          cases h0 : (decide (1 ≤ (tl z).length) && decide ((tl z).length ≤ 8)) with
          | true => rfl
          | false => rw [h0] at c; cases c
        exact e ▸ q H1 g1
def optI : Option Int → V
  | none => .non
  | some i => .int i
theorem head_eq {l : List Nat} {c : Nat} : l.head? = some c ↔ ∃ r, l = c :: r := by
  cases l <;> simp
theorem val_text {z : Str} (h : numL (tl z) = true) : PySem.intText? z = some (valL (tl z)) ∧ z.length ≤ 640 := by
  have hl := len_tl z
  unfold numL at h
  have fig : ∀ l : List Nat, figL l = true → 1 ≤ l.length ∧ l.length ≤ 40 ∧ NumText.AllDigits l := fun l q => by
    unfold figL figs at q
    simp only [Bool.and_eq_true, decide_eq_true_eq, List.all_eq_true] at q
    refine ⟨q.1.1.1, q.1.1.2, fun c hc => ?_⟩
    have := q.1.2 c hc
    unfold figC at this
    simpa using this
  rcases Bool.or_eq_true_iff.mp h with h | h
  · obtain ⟨a, b, d⟩ := fig _ h
    have hne : z.cps.toList ≠ [] := fun e => by
      have e' : tl z = [] := e
      rw [e'] at a
      simp at a
    refine ⟨?_, by omega⟩
    rw [PySem.intText_digits d hne (by omega)]
    unfold valL
    rw [if_neg]
    intro q
    obtain ⟨r, e⟩ := head_eq.mp q
    have := d 45 (by rw [e]; exact List.mem_cons_self)
    omega
  · simp only [Bool.and_eq_true, decide_eq_true_eq] at h
    obtain ⟨r, e⟩ := head_eq.mp h.1.1
    obtain ⟨a, b, d⟩ := fig _ h.1.2
    rw [e] at a b d
    have a' : 1 ≤ r.length := a
    have b' : r.length ≤ 40 := b
    have hne : r ≠ [] := fun q => by rw [q] at a'; simp at a'
    rw [e] at hl
    refine ⟨?_, by simp at hl; omega⟩
    rw [PySem.intText_neg (cs := r) e d hne (by simp at hl; omega)]
    unfold valL
    rw [if_pos h.1.1, e] <;> rfl
/-- what number_of's tests find -/
theorem num_tests (l : List Nat) : numOf l = (if figs (plainL l) = true then (if (decide ((plainL l).head? = some 48) && !decide (l = [48])) = true then none else some (valL l)) else none) := by
  unfold numOf numL figL
  by_cases h : l.head? = some 45
  · obtain ⟨r, e⟩ := head_eq.mp h
    subst e
    have e0 : plainL (45 :: r) = r := rfl
    have e1 : figs (45 :: r) = false := by unfold figs; rw [show (45 :: r).all figC = false from rfl, Bool.and_false]
    have e2 : (45 :: r).drop 1 = r := rfl
    rw [e0, e1, e2]
    cases c : figs r with
    | false => simp
    | true =>
      by_cases h0 : r.head? = some 48
      · obtain ⟨t, e⟩ := head_eq.mp h0
        subst e
        cases t <;> simp
      · simp [h0]
        intro e
        subst e
        simp at h0
  · have e0 : plainL l = l := if_neg (by simpa using h)
    rw [e0, decide_eq_false h]
    cases c : figs l with
    | false => simp
    | true =>
      by_cases h0 : l.head? = some 48
      · obtain ⟨t, e⟩ := head_eq.mp h0
        subst e
        cases t <;> simp
      · simp [h0]
def sp_number_of : Sp := fun vs H Q _ => ∃ z : Str, vs = [.str z] ∧ z.length ≤ sizeLine ∧ ∀ H', Gr H H' → Q (optI (numOf (tl z))) H'
theorem sc_number_of : FnScope ["word", "plain", "sign"] ["word"] (defScope s_number_of) := ⟨rfl, rfl, rfl, by decide +kernel, rfl, by decide +kernel, by decide +kernel⟩
theorem ok_number_of (T : Tx K mg) : Fn P w K mg base CX0 1 "number_of" ["word"] sp_number_of := by
  refine Fn.of T.f_number_of sc_number_of (fun _ _ _ _ _ _ us hl => match us, hl with | [_], _ => rfl) (fun vs H Q E h => ?_) (fun f cdv A outer s H vs Q E hr h => ⟨_, PSs.nox (pss_cons (ps_if (pt_not (pt_val (pe_callB call_isi (by rfl) T.b_isinstance (by decide +kernel) (pa_cons (pv 0) (pa_cons (pe_bltn (by rfl) T.b_str (v := .ty "str") (u := .type "str") (by decide +kernel) (by rfl)) pa_nil))))) (pss_one (ps_ret pe_non)) pss_nil)
  (pss_cons (ps_set (i := 1) sc_number_of.nd rfl (Or.inl rfl) (pe_cut (pe_ifExp (pt_val (pe_bm PySem.F.plainAttrs_str PySem.F.slot_str_startswith PySem.F.type_str_startswith mt_startswith (pv 0) (pa_cons pe_str pa_nil))) (pe_slice sl_str (pv 0) (po_some pe_int) po_none) (pv 0))))
  (pss_cons (ps_if (pt_cut (PW.pt (pw_or (pt_not (pt_chain op_le op_le pe_int (pe_callB call_len_str (by rfl) T.b_len (by decide +kernel) (pa_cons (pv 1) pa_nil)) (pe_gv T.c_MOST_FIGURES))) (pw_or1 (pt_not (pt_val (pe_callB (cr_all rfl) (by rfl) T.b_all (by decide +kernel) (pa_cons (pe_lc (own := [("sign", 2)]) (g := (gName 2)) (tt := tYes) (by rfl) sc_number_of.nd (pi_str (pv 1)) (blkOk_by (own := [("sign", 2)]) (N := ["word", "plain", "sign"]) (sc := defScope s_number_of) (by decide +kernel)) (fun _ _ _ _ _ => (pg_name (i := 2) sc_number_of.nd rfl (Or.inl rfl))) (fun _ _ _ _ _ => pts_nil) (fun _ _ _ _ _ => (pe_cmpR op_in_sign (pv 2) (pe_gv T.c_FIGURES) (by rfl)))) pa_nil)))))))) (pss_one (ps_ret pe_non)) pss_nil)
  (pss_cons (ps_if (pt_cut (PW.pt (pw_and (pt_cmpR op_eq (pe_ix ix_str (pv 1) pe_int (fun _ _ => rfl)) pe_str (nomark _)) (pw_and1 (pt_cmpR op_ne (pv 0) pe_str (nomark _)))))) (pss_one (ps_ret pe_non)) pss_nil)
  (pss_one (ps_ret (pe_callTy call_int_str (by rfl) T.b_int (by decide +kernel) (pa_cons (pv 0) pa_nil)))))))), ?_⟩)
  · obtain ⟨z, rfl, _⟩ := h
    rfl
  · obtain ⟨z, rfl, hz, q⟩ := h
    have hl : z.length = (tl z).length := len_tl z
    refine ⟨_, rfl, _, _, .type "str", .type "str", true, rfl, .ty "str", .base (.str z), kit_str, true, rfl, ?_⟩
    refine iteF rfl ?_
    refine ⟨fun v H' => ∃ y : Str, v = .str y ∧ y.length ≤ sizeLine ∧ tl y = plainL (tl z) ∧ H' = H, ?_, ?_⟩
    · refine ⟨_, rfl, rfl, _, _, rfl, rfl, _, rfl, ?_⟩
      rw [show Txt.startswith z "-" = decide ((tl z).head? = some 45) from starts_one z 45]
      refine ite2 (fun c => ?_) (fun c => ?_)
      · refine ⟨_, rfl, 1, rfl, z, rfl, hz, _, rfl, ?_, ?_, rfl⟩
        · rw [len_tl, tl_from1, List.length_drop]
          omega
        · rw [tl_from1]
          exact (if_pos c).symm
      · exact ⟨_, rfl, z, rfl, hz, (if_neg (by rw [c]; simp)).symm, rfl⟩
    rintro v H' ⟨y, rfl, hy, ey, rfl⟩
    have hyl : y.length = (tl y).length := len_tl y
    -- the tests
    refine ⟨fun b H'' => b = !figs (tl y) ∧ Gr H' H'', ?_, ?_⟩
    · refine ⟨_, rfl, y, rfl, hy, _, _, rfl, rfl, _, rfl, ?_⟩
      refine ite2 (fun c1 => ?_) (fun c1 => ?_)
      · refine ⟨_, _, rfl, rfl, _, rfl, ?_⟩
        refine ite2 (fun c2 => ?_) (fun c2 => ?_)
        · refine ⟨?_, Gr.rfl' _⟩
          unfold figs
          rw [decide_eq_false (p := (tl y).length ≤ 40) (by have := nT c2; omega)]
          simp
        · refine ⟨_, rfl, y, rfl, fun D hD => lc_gr walk_str hD (signs figC y) rfl (fun i hi => signs_len hi hy) (fun _ _ => trivial) (fun i x H1 H2 hi g1 y' C C0 h1 h2 => ?_) (fun H1 g1 e1 => ?_)⟩
          · obtain ⟨rfl, c, hc, rfl⟩ := y'
            exact ⟨rfl, _, rfl, c, _, rfl, rfl, h1 _ _ (Gr.rfl' _) (by rw [signs_snoc hc, fig_mem])⟩
          · rw [signs_all] at e1
            refine ⟨D, _, rfl, sl_of e1, _, rfl, ?_, g1⟩
            rw [all_id]
            unfold figs
            rw [decide_eq_true (p := 1 ≤ (tl y).length) (by have := dT c1; omega), decide_eq_true (p := (tl y).length ≤ 40) (by have := nF c2; omega)]
            simp
      · refine ⟨false, rfl, iteT rfl ⟨?_, Gr.rfl' _⟩⟩
        unfold figs
        rw [decide_eq_false (p := 1 ≤ (tl y).length) (by have := dF c1; omega)]
        simp
    rintro b H'' ⟨rfl, g⟩
    refine ite2 (fun c => ?_) (fun c => ?_)
    · have e : numOf (tl z) = none := by
        rw [num_tests, ← ey, if_neg]
        intro z1
        rw [z1] at c
        cases c
      have := q H'' g
      rw [e] at this
      exact this
    have c' : figs (tl y) = true := by
      cases h0 : figs (tl y) with
      | true => rfl
      | false => rw [h0] at c; cases c
    obtain ⟨a, r, ea⟩ : ∃ a r, tl y = a :: r := by
      cases h0 : tl y with
      | nil => rw [h0] at c'; exact absurd c' (by decide)
      | cons a r => exact ⟨a, r, rfl⟩
    have hat : atI y.cps.toList 0 = some a := by
      show atI (tl y) 0 = some a
      rw [ea]
      exact atI_nat (j := 0) rfl
    refine ⟨fun b H1 => b = (decide (a = 48) && !decide (tl z = [48])) ∧ H1 = H'', ?_, ?_⟩
    · refine ⟨_, rfl, y, 0, a, rfl, rfl, hy, hat, rfl, _, rfl, ?_⟩
      have e1 : decide (V.str ⟨#[a]⟩ = V.str "0") = decide (a = 48) := by
        refine decide_eq_decide.mpr ⟨fun z => ?_, fun z => by rw [z] <;> rfl⟩
        have z1 := congrArg tl (V.str.inj z)
        have z2 : [a] = [48] := z1
        simpa using z2
      rw [e1]
      refine ite2 (fun c => ?_) (fun c => ?_)
      · refine ⟨_, rfl, rfl, _, rfl, ?_, rfl⟩
        rw [c, Bool.true_and]
        congr 1
        refine decide_eq_decide.mpr ⟨fun z => ?_, fun h => ?_⟩
        · have z1 := congrArg tl (V.str.inj z)
          exact z1
        · rw [show z = "0" from str_eq.mpr h]
      · rw [c]
        exact ⟨rfl, rfl⟩
    rintro b H1 ⟨rfl, rfl⟩
    have e0 := num_tests (tl z)
    rw [← ey, if_pos c', ea] at e0
    simp only [List.head?_cons, Option.some.injEq] at e0
    refine ite2 (fun c1 => ?_) (fun c1 => ?_)
    · rw [if_pos c1] at e0
      have := q _ g
      rw [e0] at this
      exact this
    · rw [if_neg (by rw [c1]; simp)] at e0
      have hn : numL (tl z) = true := by
        unfold numOf at e0
        split at e0
        · assumption
        · cases e0
      obtain ⟨v1, v2⟩ := val_text hn
      have := q _ g
      rw [e0] at this
      exact ⟨_, rfl, z, _, rfl, v1, v2, this⟩
end
end K86
set_option Elab.async false
set_option linter.all false
set_option maxRecDepth 100000
set_option maxHeartbeats 4000000
/-! words_of; numbers -/
namespace K86
open PySem PySem.Spec PyProof.Rows L2
theorem while_c {c : TT} {tb : TS} {D : Ends} {σ : L2.St} {H : Hp} (Pv : L2.St → Hp → Prop) (μ : L2.St → Hp → Nat) (h0 : Pv σ H)
    (hs : ∀ σ H, Pv σ H → ∀ C : Bool → Hp → Prop, (∀ H1, tb { D with nx := fun σ' H' => Pv σ' H' ∧ μ σ' H' < μ σ H, ct := fun σ' H' => Pv σ' H' ∧ μ σ' H' < μ σ H, bk := D.nx } σ H1 → C true H1) → (∀ H1, D.nx σ H1 → C false H1) → c σ H C) : tWhile c tb D σ H := by
  refine ⟨fun m σ H => m = μ σ H ∧ Pv σ H, ⟨_, rfl, h0⟩, ?_⟩
  rintro m σ H ⟨rfl, p⟩
  refine hs σ H p _ (fun H1 q => iteT rfl ⟨_, fun σ' H' ⟨p', l⟩ => ⟨_, l, rfl, p'⟩, q⟩) (fun H1 q => iteF rfl q)
/-- the way of a bool -/
theorem wayB {C : Bool → Hp → Prop} {H : Hp} {b : Bool} (h1 : b = true → C true H) (h2 : b = false → C false H) : C b H := by
  cases b with
  | true => exact h1 rfl
  | false => exact h2 rfl
section
variable {P : Program} {w : World} {K : PySem.W.Frag} {mg : Str → Option Value} {base : Heap}
/-! ### numbers -/
def sp_common_divisor : Sp := fun vs H Q _ => ∃ a b : Int, vs = [.int a, .int b] ∧ Q (.int (Int.gcd a b : Nat)) H
theorem sc_common_divisor : FnScope ["one", "other"] ["one", "other"] (defScope s_common_divisor) := ⟨rfl, rfl, rfl, by decide +kernel, rfl, by decide +kernel, by decide +kernel⟩
theorem gcd_step (x y : Nat) : Nat.gcd y (x % y) = Nat.gcd x y := by
  rw [Nat.gcd_comm x y, Nat.gcd_rec y x, Nat.gcd_comm]
theorem ok_common_divisor (T : Tx K mg) : Fn P w K mg base CX0 1 "common_divisor" ["one", "other"] sp_common_divisor := by
  refine Fn.of T.f_common_divisor sc_common_divisor (fun _ _ _ _ _ _ us hl => match us, hl with | [_, _], _ => rfl) (fun vs H Q E h => ?_) (fun f cdv A outer s H vs Q E hr h => ⟨_, PSs.nox (pss_cons (ps_par (i := 0) (j := 1) rfl sc_common_divisor.nd rfl rfl (by decide) rfl rfl (pa_cons (pe_callB call_abs (by rfl) T.b_abs (by decide +kernel) (pa_cons (pv 0) pa_nil)) (pa_cons (pe_callB call_abs (by rfl) T.b_abs (by decide +kernel) (pa_cons (pv 1) pa_nil)) pa_nil)) (by rfl))
  (pss_cons (ps_while PassesOwn.never (pt_cmpR op_gt (pv 1) pe_int (nomark _)) (pss_one (ps_par (i := 0) (j := 1) rfl sc_common_divisor.nd rfl rfl (by decide) rfl rfl (pa_cons (pv 1) (pa_cons (pe_op op_mod (pv 0) (pv 1)) pa_nil)) (by rfl))))
  (pss_one (ps_ret (pv 0))))), ?_⟩)
  · obtain ⟨a, b, rfl, _⟩ := h
    rfl
  · obtain ⟨a, b, rfl, q⟩ := h
    have ab : ∀ i : Int, (if i < 0 then -i else i) = (i.natAbs : Int) := fun i => by split <;> omega
    refine ⟨_, rfl, _, rfl, _, rfl, _, rfl, _, _, rfl, ?_⟩
    rw [ab, ab]
    refine while_c (fun σ H' => H' = H ∧ ∃ x y : Nat, σ = [some (.int x), some (.int y)] ∧ Nat.gcd x y = Int.gcd a b) (fun σ _ => match σ with | [_, some (.int y)] => y.toNat | _ => 0) ⟨rfl, _, _, rfl, rfl⟩ (fun σ H' p C h1 h2 => ?_)
    obtain ⟨rfl, x, y, rfl, e⟩ := p
    refine ⟨_, rfl, _, _, rfl, rfl, _, rfl, ?_⟩
    refine wayB (fun c => h1 _ ?_) (fun c => h2 _ ?_)
    · have hy : 0 < y := by have := dT c; omega
      refine ⟨_, rfl, _, rfl, _, rfl, _, _, rfl, rfl, (by show (0 : Int) < (y : Nat); omega), _, _, rfl, ?_⟩
      refine ⟨⟨rfl, y, x % y, rfl, by rw [gcd_step, e]⟩, ?_⟩
      show ((x : Int) % (y : Int)).toNat < y
      have : ((x : Int) % (y : Int)) = ((x % y : Nat) : Int) := by omega
      rw [this]
      have := Nat.mod_lt x hy
      omega
    · have hy : y = 0 := by have := dF c; omega
      subst hy
      refine ⟨_, rfl, ?_⟩
      rw [Nat.gcd_zero_right] at e
      rw [e]
      exact q
/-- a fraction, told by its lowest terms -/
def fr (a b : Int) : Int × Int := (a / (Int.gcd a b : Nat), b / (Int.gcd a b : Nat))
def addF (x y : Int × Int) : Int × Int := fr (x.1 * y.2 + y.1 * x.2) (x.2 * y.2)
def sp_fraction : Sp := fun vs H Q _ => ∃ a b : Int, vs = [.int a, .int b] ∧ 0 < b ∧ b.natAbs < 2 ^ 9000 ∧ ∀ p, H p = none → Q (.ref p) (upd H p (.tup [.int (fr a b).1, .int (fr a b).2]))
theorem sc_fraction : FnScope ["above", "below", "divisor"] ["above", "below"] (defScope s_fraction) := ⟨rfl, rfl, rfl, by decide +kernel, rfl, by decide +kernel, by decide +kernel⟩
theorem gcd_pos {a b : Int} (h : 0 < b) : 0 < Int.gcd a b := Int.gcd_pos_of_ne_zero_right a (by omega)
theorem gcd_le {a b : Int} (h : 0 < b) : Int.gcd a b ≤ b.natAbs := Nat.le_of_dvd (by omega) (Int.gcd_dvd_natAbs_right a b)
theorem ok_fraction (T : Tx K mg) (F_common_divisor : Fn P w K mg base CX0 1 "common_divisor" ["one", "other"] sp_common_divisor) : Fn P w K mg base CX0 2 "fraction" ["above", "below"] sp_fraction := by
  refine Fn.of T.f_fraction sc_fraction (fun _ _ _ _ _ _ us hl => match us, hl with | [_, _], _ => rfl) (fun vs H Q E h => ?_) (fun f cdv A outer s H vs Q E hr h => ⟨_, PSs.nox (pss_cons (ps_set (i := 2) sc_fraction.nd rfl (Or.inl rfl) (pe_op op_mulW (pe_fn F_common_divisor (hr.mono (by omega)) (pa_cons (pv 0) (pa_cons (pv 1) pa_nil))) (pe_cut (pe_ifExp (pt_cmpR op_gt (pv 1) pe_int (nomark _)) pe_int (pe_un un_neg pe_int)))))
  (pss_one (ps_ret (pe_tup (pa_cons (pe_op op_fdivW (pv 0) (pv 2)) (pa_cons (pe_op op_fdivW (pv 1) (pv 2)) pa_nil)))))), ?_⟩)
  · obtain ⟨a, b, rfl, _⟩ := h
    rfl
  · obtain ⟨a, b, rfl, hb, hb2, q⟩ := h
    have g0 := gcd_pos (a := a) hb
    have g1 := gcd_le (a := a) hb
    refine ⟨_, rfl, _, rfl, a, b, rfl, ?_⟩
    refine ⟨fun v H' => v = .int 1 ∧ H' = H, ?_, ?_⟩
    · refine ⟨_, rfl, _, _, rfl, rfl, _, rfl, ?_⟩
      exact iteT (decide_eq_true hb) ⟨rfl, rfl⟩
    rintro v H' ⟨rfl, rfl⟩
    have hg : ((Int.gcd a b : Nat) : Int).natAbs < 2 ^ 9000 := by
      rw [Int.natAbs_natCast]
      exact Nat.lt_of_le_of_lt g1 hb2
    refine ⟨_, _, rfl, rfl, wide_mul hg (b := 1) (by decide) (by decide) (by decide) (by decide), ?_⟩
    have hd : ∀ i : Int, CDivW i (((Int.gcd a b : Nat) : Int) * 1) := fun i => by
      rw [Int.mul_one]
      exact wide_div (by omega) hg (by decide) (by decide)
    refine ⟨_, rfl, _, rfl, _, _, rfl, rfl, hd _, _, rfl, _, rfl, _, _, rfl, rfl, hd _, (by show 2 ≤ sizeLine; decide), fun p hp => ?_⟩
    have q' := q p hp
    unfold fr at q'
    rw [← Int.mul_one ((Int.gcd a b : Nat) : Int)] at q'
    exact q'
def sp_plus (K : PySem.W.Frag) : Sp := fun vs H Q _ => ∃ (a b : Addr) (x y : Int × Int), vs = [.ref a, .ref b] ∧ SqT K H a [.int x.1, .int x.2] ∧ SqT K H b [.int y.1, .int y.2] ∧ 0 < x.2 ∧ 0 < y.2 ∧
  (x.1.natAbs < 2 ^ 4000 ∧ x.2.natAbs < 2 ^ 4000 ∧ y.1.natAbs < 2 ^ 4000 ∧ y.2.natAbs < 2 ^ 4000) ∧ ∀ p, H p = none → Q (.ref p) (upd H p (.tup [.int (addF x y).1, .int (addF x y).2]))
theorem sc_plus : FnScope ["one", "other"] ["one", "other"] (defScope s_plus) := ⟨rfl, rfl, rfl, by decide +kernel, rfl, by decide +kernel, by decide +kernel⟩
theorem bound_mul {i j : Int} (hi : i.natAbs < 2 ^ 4000) (hj : j.natAbs < 2 ^ 4000) : CMulW i j := wide_mul hi hj (by decide) (by decide) (by decide)
theorem ok_plus (T : Tx K mg) (F_fraction : Fn P w K mg base CX0 2 "fraction" ["above", "below"] sp_fraction) : Fn P w K mg base CX0 3 "plus" ["one", "other"] (sp_plus K) := by
  refine Fn.of T.f_plus sc_plus (fun _ _ _ _ _ _ us hl => match us, hl with | [_, _], _ => rfl) (fun vs H Q E h => ?_) (fun f cdv A outer s H vs Q E hr h => ⟨_, PSs.nox (pss_one (ps_ret (pe_fn F_fraction (hr.mono (by omega)) (pa_cons (pe_op op_add (pe_op op_mulW (pe_ix ix_tup (pv 0) pe_int (fun _ _ => rfl)) (pe_ix ix_tup (pv 1) pe_int (fun _ _ => rfl))) (pe_op op_mulW (pe_ix ix_tup (pv 1) pe_int (fun _ _ => rfl)) (pe_ix ix_tup (pv 0) pe_int (fun _ _ => rfl)))) (pa_cons (pe_op op_mulW (pe_ix ix_tup (pv 0) pe_int (fun _ _ => rfl)) (pe_ix ix_tup (pv 1) pe_int (fun _ _ => rfl))) pa_nil))))), ?_⟩)
  · obtain ⟨a, b, x, y, rfl, _⟩ := h
    rfl
  · obtain ⟨a, b, x, y, rfl, ha, hb, hx, hy, ⟨b1, b2, b3, b4⟩, q⟩ := h
    refine ⟨_, rfl, a, _, 0, _, rfl, rfl, ha, atI_nat (j := 0) rfl, _, rfl, b, _, 1, _, rfl, rfl, hb, atI_nat (j := 1) rfl, _, _, rfl, rfl, bound_mul b1 b4, _, rfl, b, _, 0, _, rfl, rfl, hb, atI_nat (j := 0) rfl, _, rfl, a, _, 1, _, rfl, rfl, ha, atI_nat (j := 1) rfl, _, _, rfl, rfl, bound_mul b3 b2, _, _, rfl, rfl, ?_⟩
    refine ⟨_, rfl, a, _, 1, _, rfl, rfl, ha, atI_nat (j := 1) rfl, _, rfl, b, _, 1, _, rfl, rfl, hb, atI_nat (j := 1) rfl, _, _, rfl, rfl, bound_mul b2 b4, _, _, rfl, Int.mul_pos hx hy, ?_, fun p hp => ?_⟩
    · exact Nat.lt_trans (wide_lt b2 b4) (Nat.pow_lt_pow_right (by decide) (by decide))
    · exact q p hp
theorem sc_law_plus : FnScope ["_law_one_here", "_law_other", "_law_above", "_law_below", "_law_first", "_law_second"] ["_law_one_here", "_law_other"] (defScope s_law_plus) := ⟨rfl, rfl, rfl, by decide +kernel, rfl, by decide +kernel, by decide +kernel⟩
theorem ok_law_plus (T : Tx K mg) : Fn P w K mg base CX0 1 "_law_plus" ["_law_one_here", "_law_other"] (sp_plus K) := by
  refine Fn.of T.f_law_plus sc_law_plus (fun _ _ _ _ _ _ us hl => match us, hl with | [_, _], _ => rfl) (fun vs H Q E h => ?_) (fun f cdv A outer s H vs Q E hr h => ⟨_, PSs.nox (pss_cons (ps_set (i := 2) sc_law_plus.nd rfl (Or.inl rfl) (pe_op op_add (pe_op op_mulW (pe_ix ix_tup (pv 0) pe_int (fun _ _ => rfl)) (pe_ix ix_tup (pv 1) pe_int (fun _ _ => rfl))) (pe_op op_mulW (pe_ix ix_tup (pv 1) pe_int (fun _ _ => rfl)) (pe_ix ix_tup (pv 0) pe_int (fun _ _ => rfl)))))
  (pss_cons (ps_set (i := 3) sc_law_plus.nd rfl (Or.inl rfl) (pe_op op_mulW (pe_ix ix_tup (pv 0) pe_int (fun _ _ => rfl)) (pe_ix ix_tup (pv 1) pe_int (fun _ _ => rfl))))
  (pss_cons (ps_par (i := 4) (j := 5) rfl sc_law_plus.nd rfl rfl (by decide) rfl rfl (pa_cons (pe_callB call_abs (by rfl) T.b_abs (by decide +kernel) (pa_cons (pv 2) pa_nil)) (pa_cons (pv 3) pa_nil)) (by rfl))
  (pss_cons (ps_while PassesOwn.never (pt_cmpR op_gt (pv 5) pe_int (nomark _)) (pss_one (ps_par (i := 4) (j := 5) rfl sc_law_plus.nd rfl rfl (by decide) rfl rfl (pa_cons (pv 5) (pa_cons (pe_op op_mod (pv 4) (pv 5)) pa_nil)) (by rfl))))
  (pss_one (ps_ret (pe_tup (pa_cons (pe_op op_fdivW (pv 2) (pv 4)) (pa_cons (pe_op op_fdivW (pv 3) (pv 4)) pa_nil))))))))), ?_⟩)
  · obtain ⟨a, b, x, y, rfl, _⟩ := h
    rfl
  · obtain ⟨a, b, x, y, rfl, ha, hb, hx, hy, ⟨b1, b2, b3, b4⟩, q⟩ := h
    have ab : ∀ i : Int, (if i < 0 then -i else i) = (i.natAbs : Int) := fun i => by split <;> omega
    have hd : 0 < x.2 * y.2 := Int.mul_pos hx hy
    have hd2 : (x.2 * y.2).natAbs < 2 ^ 9000 := Nat.lt_trans (wide_lt b2 b4) (Nat.pow_lt_pow_right (by decide) (by decide))
    refine ⟨_, rfl, a, _, 0, _, rfl, rfl, ha, atI_nat (j := 0) rfl, _, rfl, b, _, 1, _, rfl, rfl, hb, atI_nat (j := 1) rfl, _, _, rfl, rfl, bound_mul b1 b4, _, rfl, b, _, 0, _, rfl, rfl, hb, atI_nat (j := 0) rfl, _, rfl, a, _, 1, _, rfl, rfl, ha, atI_nat (j := 1) rfl, _, _, rfl, rfl, bound_mul b3 b2, _, _, rfl, rfl, ?_⟩
    refine ⟨_, rfl, a, _, 1, _, rfl, rfl, ha, atI_nat (j := 1) rfl, _, rfl, b, _, 1, _, rfl, rfl, hb, atI_nat (j := 1) rfl, _, _, rfl, rfl, bound_mul b2 b4, ?_⟩
    refine ⟨_, rfl, _, rfl, _, rfl, _, _, rfl, ?_⟩
    rw [ab]
    refine while_c (fun σ H' => H' = H ∧ ∃ (u v : Nat), σ = [some (.ref a), some (.ref b), some (.int (x.1 * y.2 + y.1 * x.2)), some (.int (x.2 * y.2)), some (.int u), some (.int v)] ∧ Nat.gcd u v = Int.gcd (x.1 * y.2 + y.1 * x.2) (x.2 * y.2)) (fun σ _ => match σ with | [_, _, _, _, _, some (.int y)] => y.toNat | _ => 0) ⟨rfl, (x.1 * y.2 + y.1 * x.2).natAbs, (x.2 * y.2).toNat, ?_, ?_⟩ (fun σ H' p C h1 h2 => ?_)
    · rw [Int.toNat_of_nonneg (Int.le_of_lt hd)] <;> rfl
    · show Nat.gcd _ _ = Nat.gcd _ _
      congr 1
      generalize x.2 * y.2 = z at hd ⊢
      omega
    obtain ⟨rfl, u, v, rfl, e⟩ := p
    refine ⟨_, rfl, _, _, rfl, rfl, _, rfl, ?_⟩
    refine wayB (fun c => h1 _ ?_) (fun c => h2 _ ?_)
    · have hy : 0 < v := by have := dT c; omega
      refine ⟨_, rfl, _, rfl, _, rfl, _, _, rfl, rfl, (by show (0 : Int) < (v : Nat); omega), _, _, rfl, ?_⟩
      refine ⟨⟨rfl, v, u % v, rfl, by rw [gcd_step, e]⟩, ?_⟩
      show ((u : Int) % (v : Int)).toNat < v
      have : ((u : Int) % (v : Int)) = ((u % v : Nat) : Int) := by omega
      rw [this]
      have := Nat.mod_lt u hy
      omega
    · have hy : v = 0 := by have := dF c; omega
      subst hy
      rw [Nat.gcd_zero_right] at e
      subst e
      have g0 := gcd_pos (a := x.1 * y.2 + y.1 * x.2) hd
      have g1 := gcd_le (a := x.1 * y.2 + y.1 * x.2) hd
      have hg : ((Int.gcd (x.1 * y.2 + y.1 * x.2) (x.2 * y.2) : Nat) : Int).natAbs < 2 ^ 9000 := by
        rw [Int.natAbs_natCast]
        exact Nat.lt_of_le_of_lt g1 hd2
      have hdv : ∀ i : Int, CDivW i ((Int.gcd (x.1 * y.2 + y.1 * x.2) (x.2 * y.2) : Nat) : Int) := fun i => wide_div (by omega) hg (by decide) (by decide)
      refine ⟨_, rfl, _, rfl, _, _, rfl, rfl, hdv _, _, rfl, _, rfl, _, _, rfl, rfl, hdv _, (by show 2 ≤ sizeLine; decide), fun p hp => ?_⟩
      exact q p hp
end
end K86
set_option Elab.async false
set_option linter.all false
set_option maxRecDepth 100000
set_option maxHeartbeats 4000000
/-! draws -/
namespace K86
open PySem PySem.Spec PyProof.Rows L2
section
variable {P : Program} {w : World} {K : PySem.W.Frag} {mg : Str → Option Value} {base : Heap}
theorem k1 : (Str.ofString "own" = Str.ofString "seed") = False := eq_false (by decide +kernel)
theorem k2 : (Str.ofString "own" = Str.ofString "at") = False := eq_false (by decide +kernel)
theorem k3 : (Str.ofString "seed" = Str.ofString "own") = False := eq_false (by decide +kernel)
theorem k4 : (Str.ofString "seed" = Str.ofString "at") = False := eq_false (by decide +kernel)
theorem k5 : (Str.ofString "at" = Str.ofString "own") = False := eq_false (by decide +kernel)
theorem k6 : (Str.ofString "at" = Str.ofString "seed") = False := eq_false (by decide +kernel)
def drawK (o s a : Int) : List (Key × V) := [(.inr "own", .int o), (.inr "seed", .int s), (.inr "at", .int a)]
theorem draw_own {H : Hp} {d : Addr} {o s a : Int} (h : H d = some (.dK (drawK o s a))) : DGet H d (.str "own") (some (.int o)) := by
  have := DGet.k (k := Sum.inr "own") h
  simpa [valV, drawK, k1, k2, k3, k4, k5, k6, kV] using this
theorem draw_seed {H : Hp} {d : Addr} {o s a : Int} (h : H d = some (.dK (drawK o s a))) : DGet H d (.str "seed") (some (.int s)) := by
  have := DGet.k (k := Sum.inr "seed") h
  simpa [valV, drawK, k1, k2, k3, k4, k5, k6, kV] using this
theorem draw_at {H : Hp} {d : Addr} {o s a : Int} (h : H d = some (.dK (drawK o s a))) : DGet H d (.str "at") (some (.int a)) := by
  have := DGet.k (k := Sum.inr "at") h
  simpa [valV, drawK, k1, k2, k3, k4, k5, k6, kV] using this
theorem draw_putA {H : Hp} {d : Addr} {o s a b : Int} (h : H d = some (.dK (drawK o s a))) : DPut H d (.str "at") (.int b) (upd H d (.dK (drawK o s b))) := by
  have := DPut.k (k := Sum.inr "at") (v := .int b) h (by show 3 < sizeLine; decide)
  simpa [putK, drawK, k1, k2, k3, k4, k5, k6, kV] using this
theorem draw_putO {H : Hp} {d : Addr} {o s a b : Int} (h : H d = some (.dK (drawK o s a))) : DPut H d (.str "own") (.int b) (upd H d (.dK (drawK b s a))) := by
  have := DPut.k (k := Sum.inr "own") (v := .int b) h (by show 3 < sizeLine; decide)
  simpa [putK, drawK, k1, k2, k3, k4, k5, k6, kV] using this
/-- a draw's dict, at most n draws made -/
def Draw (H : Hp) (d : Addr) (n : Int) : Prop := ∃ o s a, H d = some (.dK (drawK o s a)) ∧ 0 ≤ a ∧ a ≤ n
theorem Draw.mono {H : Hp} {d : Addr} {n m : Int} (h : Draw H d n) (l : n ≤ m) : Draw H d m := by
  obtain ⟨o, s, a, e, h1, h2⟩ := h
  exact ⟨o, s, a, e, h1, by omega⟩
theorem Draw.gr {H H1 : Hp} {d : Addr} {n : Int} (h : Draw H d n) (g : Gr H H1) : Draw H1 d n := by
  obtain ⟨o, s, a, e, h1, h2⟩ := h
  exact ⟨o, s, a, g _ _ e, h1, h2⟩
theorem Draw.nt {H : Hp} {d : Addr} {n : Int} (h : Draw H d n) : NoT (H d) := by
  obtain ⟨o, s, a, e, h1, h2⟩ := h
  rw [e]
  exact True.intro
theorem Draw.ne {H : Hp} {d p : Addr} {n : Int} (h : Draw H d n) (hp : H p = none) : p ≠ d := fun e => by
  obtain ⟨o, s, a, e1, h1, h2⟩ := h
  rw [e, e1] at hp
  cases hp
theorem Draw.upd {H : Hp} {d p : Addr} {n : Int} {o : HO} (h : Draw H d n) (hp : p ≠ d) : Draw (upd H p o) d n := by
  obtain ⟨o, s, a, e1, h1, h2⟩ := h
  exact ⟨o, s, a, by rw [upd_ne (Ne.symm hp)]; exact e1, h1, h2⟩
theorem Draw.kt {H H1 : Hp} {d : Addr} {n : Int} (h : Draw H d n) (g : GrBut d H H1) : Kt H H1 := g.kt h.nt
/-! ### one mixed number, one draw -/
def sp_law_mixed : Sp := fun vs H Q _ => ∃ c k : Int, vs = [.int c, .int k] ∧ 0 ≤ k ∧ k < 2 ^ 62 ∧ ∀ r, 0 ≤ r → r < 2147483629 → Q (.int r) H
theorem sc_law_mixed : FnScope ["_law_cell", "_law_k", "_law_number_here"] ["_law_cell", "_law_k"] (defScope s_law_mixed) := ⟨rfl, rfl, rfl, by decide +kernel, rfl, by decide +kernel, by decide +kernel⟩
theorem ok_law_mixed (T : Tx K mg) : Fn P w K mg base CX0 1 "_law_mixed" ["_law_cell", "_law_k"] sp_law_mixed := by
  refine Fn.of T.f_law_mixed sc_law_mixed (fun _ _ _ _ _ _ us hl => match us, hl with | [_, _], _ => rfl) (fun vs H Q E h => ?_) (fun f cdv A outer s H vs Q E hr h => ⟨_, PSs.nox (pss_cons (ps_set (i := 2) sc_law_mixed.nd rfl (Or.inl rfl) (pe_op op_mod (pe_op op_mulW (pe_op op_add (pe_op op_add (pe_op op_add (pe_op op_mod (pv 0) pe_int) (pe_op op_mulW (pe_op op_mulW pe_int (pv 1)) (pv 1))) (pe_op op_mulW pe_int (pv 1))) pe_int) pe_int) pe_int))
  (pss_one (ps_ret (pe_op op_mod (pe_op op_mulW (pv 2) (pe_op op_add (pe_op op_add (pv 2) (pe_op op_mulW pe_int (pv 1))) pe_int)) pe_int)))), ?_⟩)
  · obtain ⟨c, k, rfl, _⟩ := h
    rfl
  · obtain ⟨c, k, rfl, h0, h1, q⟩ := h
    have b62 : (2 : Int) ^ 62 = 4611686018427387904 := by decide
    rw [b62] at h1
    have hk : k.natAbs < 2 ^ 62 := by
      have : (2 : Nat) ^ 62 = 4611686018427387904 := by decide
      omega
    have hk2 : (7919 * k).natAbs < 2 ^ 75 := by
      have : (2 : Nat) ^ 75 = 37778931862957161709568 := by decide
      omega
    have m1 := Int.emod_nonneg c (b := 2147483629) (by decide)
    have m2 := Int.emod_lt_of_pos c (b := 2147483629) (by decide)
    refine ⟨_, rfl, _, _, rfl, rfl, (by show (0 : Int) < 2147483629; decide), _, rfl, _, _, rfl, rfl, wide_mul (a := 13) (b := 62) (by decide) hk (by decide) (by decide) (by decide), _, rfl, _, _, rfl, rfl, wide_mul hk2 hk (by decide) (by decide) (by decide), _, _, rfl, rfl, _, rfl, _, _, rfl, rfl, wide_mul (a := 17) (by decide) hk (by decide) (by decide) (by decide), _, _, rfl, rfl, _, _, rfl, rfl, _, _, rfl, rfl, ?_⟩
    have hm : ((c % 2147483629 + 7919 * k * k + 104729 * k + 17)).natAbs < 2 ^ 200 := by
      have e1 := wide_lt (i := 7919 * k) (j := k) hk2 hk
      have e2 : (2 : Nat) ^ (75 + 62) = 174224571863520493293247799005065324265472 := by decide
      have e3 : (2 : Nat) ^ 200 = 1606938044258990275541962092341162602522202993782792835301376 := by decide
      have e4 : (2 : Nat) ^ 62 = 4611686018427387904 := by decide
      rw [e2] at e1
      rw [e3]
      rw [e4] at hk
      generalize 7919 * k * k = z at e1 ⊢
      omega
    refine ⟨wide_mul hm (b := 16) (by decide) (by decide) (by decide) (by decide), _, _, rfl, rfl, (by show (0 : Int) < 2147483647; decide), ?_⟩
    generalize (c % 2147483629 + 7919 * k * k + 104729 * k + 17) * 48271 = y
    have n1 := Int.emod_nonneg y (b := 2147483647) (by decide)
    have n2 := Int.emod_lt_of_pos y (b := 2147483647) (by decide)
    refine ⟨_, rfl, _, rfl, _, rfl, _, _, rfl, rfl, wide_mul (a := 2) (b := 62) (by decide) hk (by decide) (by decide) (by decide), _, _, rfl, rfl, _, _, rfl, rfl, _, _, rfl, rfl, wide_mul (a := 31) (b := 70) ?_ ?_ (by decide) (by decide) (by decide), _, _, rfl, rfl, (by show (0 : Int) < 2147483629; decide), ?_⟩
    · have : (2 : Nat) ^ 31 = 2147483648 := by decide
      omega
    · have : (2 : Nat) ^ 70 = 1180591620717411303424 := by decide
      omega
    · exact q _ (Int.emod_nonneg _ (by decide)) (Int.emod_lt_of_pos _ (by decide))
def sp_law_take : Sp := fun vs H Q _ => ∃ (d : Addr) (m n : Int), vs = [.ref d, .int m] ∧ 0 < m ∧ m < 2 ^ 60 ∧ Draw H d n ∧ n < 2 ^ 60 ∧ ∀ r H', 0 ≤ r → r < m → GrBut d H H' → Draw H' d (n + 1) → Q (.int r) H'
theorem sc_law_take : FnScope ["_law_draw_here", "_law_many", "_law_found"] ["_law_draw_here", "_law_many"] (defScope s_law_take) := ⟨rfl, rfl, rfl, by decide +kernel, rfl, by decide +kernel, by decide +kernel⟩
theorem ok_law_take (T : Tx K mg) (F_law_mixed : Fn P w K mg base CX0 1 "_law_mixed" ["_law_cell", "_law_k"] sp_law_mixed) : Fn P w K mg base CX0 2 "_law_take" ["_law_draw_here", "_law_many"] sp_law_take := by
  refine Fn.of T.f_law_take sc_law_take (fun _ _ _ _ _ _ us hl => match us, hl with | [_, _], _ => rfl) (fun vs H Q E h => ?_) (fun f cdv A outer s H vs Q E hr h => ⟨_, PSs.nox (pss_cons (ps_dput (hu_of hr) (pv 0) pe_str (pe_op op_add (pe_dget (hu_of hr) (pv 0) pe_str (fun _ _ => rfl)) pe_int) rfl)
  (pss_cons (ps_if (pt_cmpR op_gt (pe_dget (hu_of hr) (pv 0) pe_str (fun _ _ => rfl)) pe_int (nomark _)) (pss_cons (ps_set (i := 2) sc_law_take.nd rfl (Or.inl rfl) (pe_op op_mod (pe_dget (hu_of hr) (pv 0) pe_str (fun _ _ => rfl)) (pv 1)))
  (pss_cons (ps_dput (hu_of hr) (pv 0) pe_str (pe_op op_fdivW (pe_dget (hu_of hr) (pv 0) pe_str (fun _ _ => rfl)) (pv 1)) rfl)
  (pss_one (ps_ret (pv 2))))) pss_nil)
  (pss_one (ps_ret (pe_op op_mod (pe_fn F_law_mixed (hr.mono (by omega)) (pa_cons (pe_fn F_law_mixed (hr.mono (by omega)) (pa_cons (pe_dget (hu_of hr) (pv 0) pe_str (fun _ _ => rfl)) (pa_cons (pe_dget (hu_of hr) (pv 0) pe_str (fun _ _ => rfl)) pa_nil))) (pa_cons pe_int pa_nil))) (pv 1)))))), ?_⟩)
  · obtain ⟨d, m, n, rfl, _⟩ := h
    rfl
  · obtain ⟨d, m, n, rfl, m0, m1, ⟨o, sd, a, e, a0, a1⟩, n1, q⟩ := h
    have b60 : (2 : Int) ^ 60 = 1152921504606846976 := by decide
    have b62 : (2 : Int) ^ 62 = 4611686018427387904 := by decide
    rw [b60] at m1 n1
    have hm : m.natAbs < 2 ^ 60 := by
      have : (2 : Nat) ^ 60 = 1152921504606846976 := by decide
      omega
    refine ⟨_, rfl, d, _, rfl, draw_at e, _, _, rfl, rfl, _, rfl, d, _, rfl, draw_putA e, ?_⟩
    have e1 : (upd H d (.dK (drawK o sd (a + 1)))) d = some (.dK (drawK o sd (a + 1))) := upd_same
    have g1 : GrBut d H (upd H d (.dK (drawK o sd (a + 1)))) := GrBut.put
    refine ⟨_, rfl, d, _, rfl, draw_own e1, _, _, rfl, rfl, _, rfl, ite2 (fun c => ?_) (fun c => ?_)⟩
    · refine ⟨_, rfl, d, _, rfl, draw_own e1, _, rfl, _, _, rfl, rfl, m0, _, rfl, d, _, rfl, draw_own e1, _, rfl, _, _, rfl, rfl, wide_div m0 hm (by decide) (by decide), _, rfl, d, _, rfl, draw_putO e1, ?_⟩
      exact ⟨_, rfl, q _ _ (Int.emod_nonneg _ (by omega)) (Int.emod_lt_of_pos _ m0) (g1.trans GrBut.put) ⟨_, _, _, upd_same, by omega, by omega⟩⟩
    · refine ⟨_, rfl, d, _, rfl, draw_seed e1, _, rfl, d, _, rfl, draw_at e1, _, _, rfl, by omega, by rw [b62]; omega, fun r1 _ _ => ⟨_, _, rfl, by decide, by decide, fun r2 _ _ => ⟨_, rfl, _, _, rfl, rfl, m0, ?_⟩⟩⟩
      exact q _ _ (Int.emod_nonneg _ (by omega)) (Int.emod_lt_of_pos _ m0) g1 ⟨_, _, _, e1, by omega, by omega⟩
end
end K86
set_option Elab.async false
set_option linter.all false
set_option maxRecDepth 100000
set_option maxHeartbeats 4000000
/-! the makers of programs: boxes, monos, numbers -/
namespace K86
open PySem PySem.Spec PyProof.Rows L2
theorem GrBut.mut {d : Addr} {H H1 : Hp} {p : Addr} {o : HO} (a : GrBut d H H1) (h : H p = none) : GrBut d H (upd H1 p o) := fun b u e n => by
  rw [upd_ne (ne_of_none e h)]
  exact a b u e n
theorem Gr.thenBut {d : Addr} {H H1 H2 : Hp} (a : Gr H H1) (b : GrBut d H1 H2) : GrBut d H H2 := fun x o e n => b x o (a x o e) n
theorem DpAll.ints {K : PySem.W.Frag} {H : Hp} : ∀ ns : List Int, DpAll K H (ns.map V.int) (ns.map PyData.int)
  | [] => .nil
  | n :: ns => .cons (.int n) (DpAll.ints ns)
theorem canLay_ints : ∀ l : List Int, PyData.canLayAll0 (l.map PyData.int) = true
  | [] => by simp [PyData.canLayAll0]
  | z :: l => by
    rw [List.map_cons, PyData.canLayAll0, canLay_ints l, PyData.canLay0]
    rfl
theorem depthAll_ints : ∀ l : List Int, PyData.depthAll (l.map PyData.int) = 0
  | [] => by simp [PyData.depthAll]
  | z :: l => by
    rw [List.map_cons, PyData.depthAll, depthAll_ints l]
    simp [PyData.depth]
theorem shaped_ints (l : List Int) : SeqAt.shaped (.list (l.map PyData.int)) = true := by
  unfold SeqAt.shaped
  rw [PyData.canLay0, canLay_ints l, PyData.depth, depthAll_ints] <;> rfl
theorem eqv_nil' (ds : List PyData) : PyData.eqv (.list ds) (.list []) = decide (ds = []) := by
  cases ds <;> simp [PyData.eqv, PyData.eqvAll]
theorem shaped_nil' : SeqAt.shaped (.list []) = true := by decide
/-- a box's name -/
def nm (y : Str) : Prop := nameL (tl y) = true
instance (y : Str) : Decidable (nm y) := inferInstanceAs (Decidable (nameL (tl y) = true))
theorem mem_putK {kvs : List (Key × V)} {k : Key} {v : V} {kv : Key × V} (h : kv ∈ putK kvs k v) : kv.1 = k ∨ ∃ z ∈ kvs, kv.1 = z.1 := by
  unfold putK at h
  split at h
  · obtain ⟨z, hz, e⟩ := List.mem_map.mp h
    split at e
    · subst e
      exact .inr ⟨z, hz, rfl⟩
    · subst e
      exact .inr ⟨z, hz, rfl⟩
  · rcases List.mem_append.mp h with h | h
    · exact .inr ⟨kv, h, rfl⟩
    · rw [List.mem_singleton.mp h]
      exact .inl rfl
theorem putK_le (kvs : List (Key × V)) (k : Key) (v : V) : (putK kvs k v).length ≤ kvs.length + 1 := by
  unfold putK
  split
  · rw [List.length_map]
    omega
  · rw [List.length_append, List.length_singleton]
    omega
theorem putK_ne (kvs : List (Key × V)) (k : Key) (v : V) : putK kvs k v ≠ [] := by
  unfold putK
  split
  · rename_i h
    intro e
    rw [List.map_eq_nil_iff.mp e] at h
    simp at h
  · simp
section
variable {P : Program} {w : World} {K : PySem.W.Frag} {mg : Str → Option Value} {base : Heap}
/-! ### a new draw -/
def sp_law_draw (K : PySem.W.Frag) : Sp := fun vs H Q _ => ∃ (a : Addr) (ns : List Int) (k : Nat), vs = [.ref a, .int k] ∧ SqL K H a (ns.map V.int) ∧ ns.length ≤ 1000 ∧ k ≤ 1000 ∧ ∀ p H', Gr H H' → H p = none → Draw H' p 0 → Q (.ref p) H'
theorem sc_law_draw : FnScope ["_law_script", "_law_k", "_law_cell", "_law_own", "_law_turn"] ["_law_script", "_law_k"] (defScope s_law_draw) := ⟨rfl, rfl, rfl, by decide +kernel, rfl, by decide +kernel, by decide +kernel⟩
theorem ok_law_draw (T : Tx K mg) (F_law_mixed : Fn P w K mg base CX0 1 "_law_mixed" ["_law_cell", "_law_k"] sp_law_mixed) : Fn P w K mg base CX0 2 "_law_draw" ["_law_script", "_law_k"] (sp_law_draw K) := by
  refine Fn.of T.f_law_draw sc_law_draw (fun _ _ _ _ _ _ us hl => match us, hl with | [_, _], _ => rfl) (fun vs H Q E h => ?_) (fun f cdv A outer s H vs Q E hr h => ⟨_, PSs.nox (pss_cons (ps_set (i := 2) sc_law_draw.nd rfl (Or.inl rfl) (pe_cut (pe_ifExp (pt_cmpR (op_neD hr.units) (pv 0) (pe_lst pa_nil) (nomark _)) (pe_ix ix_list (pv 0) (pe_op op_mod (pv 1) (pe_callB call_len_seq (by rfl) T.b_len (by decide +kernel) (pa_cons (pv 0) pa_nil))) (fun _ _ => rfl)) pe_int)))
  (pss_cons (ps_set (i := 3) sc_law_draw.nd rfl (Or.inl rfl) (pe_cut (pe_ifExp (pt_cmpR op_ge (pv 2) (pe_op op_pow pe_int pe_int) (nomark _)) (pv 2) pe_int)))
  (pss_cons (ps_for PassesOwn.never rfl (pi_range1 (by rfl) T.b_range (pa_cons (pe_op op_fdivW (pv 1) (pe_callB (call_max2 rfl) (by rfl) T.b_max (by decide +kernel) (pa_cons pe_int (pa_cons (pe_callB call_len_seq (by rfl) T.b_len (by decide +kernel) (pa_cons (pv 0) pa_nil)) pa_nil)))) pa_nil)) (pg_name (i := 4) sc_law_draw.nd rfl (Or.inl rfl))
  (pss_one (ps_set (i := 3) sc_law_draw.nd rfl (Or.inl rfl) (pe_op op_fdivW (pv 3) (pe_op op_pow pe_int pe_int)))))
  (pss_one (ps_ret (pe_disp (pps_cons pe_str (pv 3) (pps_cons pe_str (pe_fn F_law_mixed (hr.mono (by omega)) (pa_cons (pv 2) (pa_cons (pv 1) pa_nil))) (pps_cons pe_str pe_int pps_nil))) (by rfl) (by rfl) (fun z => by cases z) (by decide))))))), ?_⟩)
  · obtain ⟨a, ns, k, rfl, _⟩ := h
    rfl
  · obtain ⟨a, ns, k, rfl, ha, hl, hk, q⟩ := h
    refine ⟨fun v H' => (∃ c : Int, v = .int c) ∧ Gr H H', ?_, ?_⟩
    · refine ⟨_, rfl, by show 0 ≤ sizeLine; omega, fun p hp => ?_⟩
      have g := Gr.new (o := .lst []) hp
      refine ⟨_, _, .lst (g.sl ha) (DpAll.ints ns), .lst (sl_of upd_same) .nil, shaped_ints ns, shaped_nil', _, rfl, ?_⟩
      rw [eqv_nil']
      refine ite2 (fun c => ?_) (fun c => ?_)
      · have hne : ns ≠ [] := fun e => by
          rw [e] at c
          exact absurd c (by simp)
        have hlp : 0 < ns.length := List.length_pos_iff.mpr hne
        refine ⟨_, rfl, _, rfl, _, rfl, a, _, rfl, .inl (g.sl ha), _, _, rfl, rfl, (by show (0 : Int) < ((ns.map V.int).length : Nat); rw [List.length_map]; omega), ?_⟩
        have hmod : ((k : Int) % ((ns.map V.int).length : Nat)) = ((k % ns.length : Nat) : Int) := by
          rw [List.length_map]
          omega
        have hlt := Nat.mod_lt k hlp
        have hat : atI (ns.map V.int) ((k % ns.length : Nat) : Int) = some (.int ns[k % ns.length]) := atI_nat (by rw [List.getElem?_map, List.getElem?_eq_getElem hlt] <;> rfl)
        refine ⟨a, _, _, _, rfl, rfl, g.sl ha, (by rw [hmod]; exact hat), ⟨_, rfl⟩, g⟩
      · exact ⟨⟨0, rfl⟩, g⟩
    rintro v H1 ⟨⟨c, rfl⟩, g1⟩
    refine ⟨fun v H' => (∃ c : Int, v = .int c) ∧ H' = H1, ?_, ?_⟩
    · refine ⟨_, rfl, _, _, rfl, rfl, ⟨by decide, by decide, by decide⟩, _, _, rfl, rfl, _, rfl, ite2 (fun _ => ?_) (fun _ => ?_)⟩
      · exact ⟨_, rfl, ⟨c, rfl⟩, rfl⟩
      · exact ⟨⟨0, rfl⟩, rfl⟩
    rintro v H' ⟨⟨o, rfl⟩, rfl⟩
    refine ⟨_, rfl, _, rfl, a, _, rfl, .inl (g1.sl ha), _, _, rfl, ?_⟩
    have hmx : ∃ m : Nat, 0 < m ∧ m ≤ 1000 ∧ (if (((ns.map V.int).length : Nat) : Int) > 1 then (((ns.map V.int).length : Nat) : Int) else 1) = (m : Int) := by
      rw [List.length_map]
      by_cases h : ((ns.length : Nat) : Int) > 1
      · exact ⟨ns.length, by omega, by omega, by rw [if_pos h]⟩
      · exact ⟨1, by omega, by omega, by rw [if_neg h] <;> rfl⟩
    obtain ⟨m, hm0, hm1, em⟩ := hmx
    have b10 : m < 2 ^ 10 := by omega
    refine ⟨_, _, rfl, rfl, ?_, _, rfl, ?_⟩
    · rw [em]
      exact wide_div (by omega) (b := 10) (by omega) (by decide) (by decide)
    have hq0 : 0 ≤ ((k : Int) / (m : Int)) := Int.ediv_nonneg (by omega) (by omega)
    have hq1 : ((k : Int) / (m : Int)) ≤ (k : Int) := Int.ediv_le_self _ (by omega)
    have b62 : (2 : Int) ^ 62 = 4611686018427387904 := by decide
    refine ⟨by rw [em, b62]; omega, by rw [em, b62]; omega, for_range (lo := 0) (fun i σ Hh => Hh = H' ∧ ∃ (o : Int) (z : Option V), σ = [some (.ref a), some (.int k), some (.int c), some (.int o), z]) ⟨rfl, o, _, rfl⟩ (fun i σ Hh hi p => ?_) (fun σ Hh p => ?_)⟩
    · obtain ⟨rfl, o, z, rfl⟩ := p
      exact ⟨_, rfl, _, _, rfl, rfl, ⟨by decide, by decide, by decide⟩, _, _, rfl, rfl, wide_div (by decide) (b := 64) (by decide) (by decide) (by decide), rfl, _, _, rfl⟩
    · obtain ⟨rfl, o, z, rfl⟩ := p
      refine fun p hp => ⟨_, rfl, _, rfl, _, rfl, _, _, rfl, by omega, by rw [b62]; omega, fun r _ _ => ⟨upd_same, [(.inr "own", .int o), (.inr "seed", .int r), (.inr "at", .int 0)], rfl, by show 3 ≤ 15; decide, ?_⟩⟩
      have hn : H p = none := g1.free hp
      refine q p _ ?_ hn ⟨o, r, 0, ?_, by omega, by omega⟩
      · exact ((g1.more hp).mut hn)
      · rw [upd_same]
        have : mergeK [] [((.inr "own" : Key), V.int o), (.inr "seed", .int r), (.inr "at", .int 0)] = drawK o r 0 := by
          simp [mergeK, putK, drawK, k1, k2, k3, k4, k5, k6]
        rw [this]
end
end K86
set_option Elab.async false
set_option linter.all false
set_option maxRecDepth 100000
set_option maxHeartbeats 4000000
/-! boxes, monos, numbers of a draw -/
namespace K86
open PySem PySem.Spec PyProof.Rows L2
section
variable {P : Program} {w : World} {K : PySem.W.Frag} {mg : Str → Option Value} {base : Heap}
theorem b60 : (2 : Int) ^ 60 = 1152921504606846976 := by decide
theorem b62 : (2 : Int) ^ 62 = 4611686018427387904 := by decide
theorem b40 : (2 : Int) ^ 40 = 1099511627776 := by decide
abbrev TakeF (P : Program) (w : World) (K : PySem.W.Frag) (mg : Str → Option Value) (base : Heap) : Prop := Fn P w K mg base CX0 2 "_law_take" ["_law_draw_here", "_law_many"] sp_law_take
theorem letter (r : Int) (h0 : 0 ≤ r) (h1 : r < 26) : ∃ c, atI ("abcdefghijklmnopqrstuvwxyz" : Str).cps.toList r = some c ∧ lowC c = true := by
  obtain ⟨j, rfl⟩ := Int.eq_ofNat_of_zero_le h0
  have hj : j < 26 := by omega
  rw [show ("abcdefghijklmnopqrstuvwxyz" : Str).cps.toList = List.range' 97 26 by decide +kernel]
  refine ⟨97 + j, atI_nat (by rw [List.getElem?_range' hj]; simp), ?_⟩
  unfold lowC
  simp
  omega
theorem tl_glue : ∀ l : List Nat, tl (Txt.join "" (l.map fun c => (⟨#[c]⟩ : Str))) = l := by
  intro l
  rw [TL.join_eq]
  show TL.tl _ = _
  rw [TL.tl_join, List.map_map]
  have e : TL.tl ("" : Str) = [] := by decide +kernel
  rw [e]
  induction l with
  | nil => rfl
  | cons a r ih =>
    cases r with
    | nil => rfl
    | cons b t =>
      show (TL.tl ⟨#[a]⟩) ++ ([] ++ TL.joinL [] _) = _
      have : TL.joinL [] (List.map (TL.tl ∘ fun c => (⟨#[c]⟩ : Str)) (b :: t)) = b :: t := ih
      rw [List.nil_append]
      show [a] ++ TL.joinL [] (List.map (TL.tl ∘ fun c => (⟨#[c]⟩ : Str)) (b :: t)) = _
      rw [this] <;> rfl
def sgn' (l : List Nat) : List V := l.map fun c => V.str ⟨#[c]⟩
def someBoxes : List Str := ["x", "ab", "b", "loop", "end", "both", "by", "jump", "a", "abcdefgh"]
theorem someBoxes_nm : ∀ y ∈ someBoxes, nm y := by decide +kernel
def sp_law_boxes : Sp := fun vs H Q _ => ∃ (d : Addr) (m n : Int), vs = [.ref d, .int m] ∧ 1 ≤ m ∧ m ≤ 6 ∧ Draw H d n ∧ n < 2 ^ 40 ∧
  ∀ (p : Addr) (H' : Hp) (ys : List Str), GrBut d H H' → Draw H' d (n + 100) → H' p = some (.lst (ys.map V.str)) → (∀ y ∈ ys, nm y) → 1 ≤ ys.length → (ys.length : Int) ≤ m → Q (.ref p) H'
theorem sc_law_boxes : FnScope ["_law_draw_here", "_law_most", "_law_some", "_law_letters", "_law_found", "_law_k", "_law_word", "_law_sign"] ["_law_draw_here", "_law_most"] (defScope s_law_boxes) := ⟨rfl, rfl, rfl, by decide +kernel, rfl, by decide +kernel, by decide +kernel⟩
theorem keys_strs : ∀ kvs : List (Key × V), (∀ kv ∈ kvs, ∃ y, kv.1 = Sum.inr y ∧ nm y) → ∃ ks : List Str, kvs.map (·.1) = ks.map Sum.inr ∧ ∀ y ∈ ks, nm y
  | [], _ => ⟨[], rfl, by simp⟩
  | kv :: r, h => by
    obtain ⟨y, e, hy⟩ := h kv List.mem_cons_self
    obtain ⟨ks, e2, h2⟩ := keys_strs r fun z hz => h z (List.mem_cons_of_mem _ hz)
    refine ⟨y :: ks, by rw [List.map_cons, e, e2] <;> rfl, fun z hz => ?_⟩
    rcases List.mem_cons.mp hz with q | q
    · rw [q]
      exact hy
    · exact h2 z q
theorem ok_law_boxes (T : Tx K mg) (F_law_take : TakeF P w K mg base) : Fn P w K mg base CX0 3 "_law_boxes" ["_law_draw_here", "_law_most"] sp_law_boxes := by
  refine Fn.of T.f_law_boxes sc_law_boxes (fun _ _ _ _ _ _ us hl => match us, hl with | [_, _], _ => rfl) (fun vs H Q E h => ?_) (fun f cdv A outer s H vs Q E hr h => ⟨_, PSs.nox (pss_cons (ps_set (i := 2) sc_law_boxes.nd rfl (Or.inl rfl) (pe_lst (pa_cons pe_str (pa_cons pe_str (pa_cons pe_str (pa_cons pe_str (pa_cons pe_str (pa_cons pe_str (pa_cons pe_str (pa_cons pe_str (pa_cons pe_str (pa_cons pe_str pa_nil))))))))))))
  (pss_cons (ps_set (i := 3) sc_law_boxes.nd rfl (Or.inr rfl) pe_str)
  (pss_cons (ps_set (i := 4) sc_law_boxes.nd rfl (Or.inl rfl) pe_dnewK)
  (pss_cons (ps_for PassesOwn.never rfl (pi_range1 (by rfl) T.b_range (pa_cons (pe_op op_add pe_int (pe_fn F_law_take (hr.mono (by omega)) (pa_cons (pv 0) (pa_cons (pv 1) pa_nil)))) pa_nil)) (pg_name (i := 5) sc_law_boxes.nd rfl (Or.inl rfl))
  (pss_cons (ps_set (i := 6) sc_law_boxes.nd rfl (Or.inl rfl) (pe_ix ix_list (pv 2) (pe_fn F_law_take (hr.mono (by omega)) (pa_cons (pv 0) (pa_cons pe_int pa_nil))) (fun _ _ => rfl)))
  (pss_cons (ps_cut (ps_if (pt_cmpR op_eq (pe_fn F_law_take (hr.mono (by omega)) (pa_cons (pv 0) (pa_cons pe_int pa_nil))) pe_int (nomark _)) (pss_one (ps_set (i := 6) sc_law_boxes.nd rfl (Or.inl rfl) (pe_join pe_str (pe_lc (own := [("_law_sign", 7)]) (g := (gName 7)) (tt := tYes) (by rfl) sc_law_boxes.nd (pi_range1 (by rfl) T.b_range (pa_cons (pe_op op_add pe_int (pe_fn F_law_take (hr.mono (by omega)) (pa_cons (pv 0) (pa_cons pe_int pa_nil)))) pa_nil)) (blkOk_by (own := [("_law_sign", 7)]) (N := ["_law_draw_here", "_law_most", "_law_some", "_law_letters", "_law_found", "_law_k", "_law_word", "_law_sign"]) (sc := defScope s_law_boxes) (by decide +kernel)) (fun _ _ _ _ _ => (pg_name (i := 7) sc_law_boxes.nd rfl (Or.inl rfl))) (fun _ _ _ _ _ => pts_nil) (fun _ _ _ _ _ => (pe_ix ix_str (pv 3) (pe_fn F_law_take (hr.mono (by omega)) (pa_cons (pv 0) (pa_cons pe_int pa_nil))) (fun _ _ => rfl))))))) pss_nil))
  (pss_one (ps_dput (hu_of hr) (pv 4) (pv 6) pe_bl rfl)))))
  (pss_one (ps_ret (pe_callB (call_sortedD rfl) (by rfl) T.b_sorted (by decide +kernel) (pa_cons (pv 4) pa_nil)))))))), ?_⟩)
  · obtain ⟨d, m, n, rfl, _⟩ := h
    rfl
  · obtain ⟨d, m, n, rfl, m0, m1, hd, hn, q⟩ := h
    rw [b40] at hn
    refine ⟨by show 10 ≤ sizeLine; decide, fun p hp => ?_⟩
    have g1 : Gr H (upd H p (.lst (someBoxes.map V.str))) := Gr.new hp
    intro f hf
    have g2 := g1.more (o := .dK []) hf
    have hfp : f ≠ p := fun e => by rw [e, upd_same] at hf; cases hf
    refine ⟨_, rfl, _, rfl, d, m, n, rfl, by omega, by rw [b60]; omega, hd.gr g2, by rw [b60]; omega, fun r H1 r0 r1 gb1 hd1 => ⟨_, _, rfl, rfl, 1 + r, rfl, by rw [b62]; omega, by rw [b62]; omega, ?_⟩⟩
    have hf0 : H f = none := g1.free hf
    have gA : GrBut d H H1 := g2.thenBut gb1
    have fd0 : f ≠ d := hd.ne hf0
    have pd0 : p ≠ d := hd.ne hp
    refine for_range (lo := 0) (fun i σ Hh => GrBut d H Hh ∧ Draw Hh d (n + 1 + 12 * i) ∧ Hh p = some (.lst (someBoxes.map V.str)) ∧ (∃ kvs, Hh f = some (.dK kvs) ∧ kvs.length ≤ i ∧ (0 < i → kvs ≠ []) ∧ ∀ kv ∈ kvs, ∃ y, kv.1 = Sum.inr y ∧ nm y) ∧
      ∃ z1 z2 z3, σ = [some (.ref d), some (.int m), some (.ref p), some (.str "abcdefghijklmnopqrstuvwxyz"), some (.ref f), z1, z2, z3]) ?_ (fun i σ Hh hi pv => ?_) (fun σ Hh pv => ?_)
    · exact ⟨gA, hd1.mono (by omega), gb1 _ _ (by rw [upd_ne (Ne.symm hfp)]; exact upd_same) pd0, ⟨[], gb1 _ _ upd_same fd0, Nat.le_refl _, fun h => absurd h (by omega), by simp⟩, _, _, _, rfl⟩
    · obtain ⟨ga, da, ep, ⟨kvs, ef, kl, _, kn⟩, z1, z2, z3, rfl⟩ := pv
      have hi6 : i ≤ 5 := by omega
      -- a word of the list
      refine ⟨_, rfl, _, rfl, d, 10, _, rfl, by decide, by rw [b60]; decide, da, by rw [b60]; omega, fun r2 H2 r20 r21 gb2 hd2 => ?_⟩
      have ep2 : H2 p = some (.lst (someBoxes.map V.str)) := gb2 _ _ ep pd0
      obtain ⟨j, rfl⟩ := Int.eq_ofNat_of_zero_le r20
      have hj : j < someBoxes.length := by show j < 10; omega
      refine ⟨p, _, _, _, rfl, rfl, sl_of ep2, atI_nat (by rw [List.getElem?_map, List.getElem?_eq_getElem hj] <;> rfl), ?_⟩
      have nj := someBoxes_nm _ (List.getElem_mem hj)
      generalize someBoxes[j] = y1 at nj
      have ef2 := gb2 _ _ ef fd0
      refine ⟨fun σ' H' => GrBut d H H' ∧ Draw H' d (n + 1 + 12 * i + 11) ∧ H' p = some (.lst (someBoxes.map V.str)) ∧ H' f = some (.dK kvs) ∧ ∃ y z3, nm y ∧ σ' = [some (.ref d), some (.int m), some (.ref p), some (.str "abcdefghijklmnopqrstuvwxyz"), some (.ref f), some (.int (0 + i)), some (.str y), z3], ?_, ?_⟩
      · refine ⟨_, rfl, d, 3, _, rfl, by decide, by rw [b60]; decide, hd2, by rw [b60]; omega, fun r3 H3 _ _ gb3 hd3 => ⟨rfl, _, rfl, ite2 (fun _ => ?_) (fun _ => ?_)⟩⟩
        · -- letters
          refine ⟨⟨_, rfl⟩, _, rfl, d, 8, _, rfl, by decide, by rw [b60]; decide, hd3, by rw [b60]; omega, fun r4 H4 r40 r41 gb4 hd4 => ⟨_, _, rfl, rfl, 1 + r4, rfl, by rw [b62]; omega, by rw [b62]; omega, fun D hD => ?_⟩⟩
          have gC : GrBut d Hh H4 := (gb2.trans gb3).trans gb4
          have dd : D ≠ d := hd4.ne hD
          have hDh : Hh D = none := by
            cases q : Hh D with
            | none => rfl
            | some o =>
              rw [gC _ _ q dd] at hD
              cases hD
          have gn : GrBut d H4 (upd H4 D (.lst [])) := (Gr.new hD).but
          refine lc_it walk_range (fun k Hk => GrBut d H4 Hk ∧ Draw Hk d (n + 1 + 12 * i + 3 + k) ∧ ∃ l : List Nat, l.length = k ∧ l.all lowC = true ∧ Hk D = some (.lst (sgn' l))) ?_ (fun _ _ _ _ => trivial) (fun k x Hk Hk' hk pk y => ?_) (fun Hk pk => ?_)
          · exact ⟨gn, (hd4.upd dd).mono (by omega), [], rfl, rfl, upd_same⟩
          · obtain ⟨rfl, rfl⟩ := y
            obtain ⟨gk, dk, l, ll, la, eD⟩ := pk
            refine ⟨rfl, _, rfl, _, rfl, d, 26, _, rfl, by decide, by rw [b60]; decide, dk, by rw [b60]; omega, fun r5 H5 r50 r51 gb5 hd5 => ?_⟩
            obtain ⟨c, hc, lc⟩ := letter r5 r50 r51
            refine ⟨_, _, c, rfl, rfl, by decide +kernel, hc, sgn' l, gb5 _ _ eD dd, ?_, ?_⟩
            · unfold sgn'
              rw [List.length_map, ll]
              have := hk
              have : k < 8 := by omega
              exact Nat.lt_trans this (by decide)
            · refine ⟨(gk.trans gb5).mut hD, (hd5.upd dd).mono (by omega), l ++ [c], by simp [ll], by rw [List.all_append, la]; simp [lc], ?_⟩
              rw [upd_same]
              unfold sgn'
              rw [List.map_append] <;> rfl
          · obtain ⟨gk, dk, l, ll, la, eD⟩ := pk
            have eD' : Hk D = some (.lst ((l.map fun c => (⟨#[c]⟩ : Str)).map V.str)) := by
              rw [eD]
              unfold sgn'
              rw [List.map_map] <;> rfl
            refine ⟨_, D, l.map fun c => (⟨#[c]⟩ : Str), rfl, rfl, .inl (sl_of eD'), ?_, ?_⟩
            · have e0 : ("" : Str).length = 0 := by decide +kernel
              rw [e0, List.map_map]
              have : ((l.map (Str.length ∘ fun c => (⟨#[c]⟩ : Str))).sum) = l.length := by
                clear eD eD' la ll
                induction l with
                | nil => rfl
                | cons a r ih =>
                  rw [List.map_cons, List.sum_cons, ih, List.length_cons]
                  show 1 + r.length = _
                  omega
              rw [this]
              omega
            · have gK : GrBut d Hh Hk := gC.trans gk
              refine ⟨ga.trans gK, dk.mono (by omega), gK _ _ ep pd0, gK _ _ ef fd0, _, _, ?_, rfl⟩
              show nameL _ = true
              rw [tl_glue]
              unfold nameL
              rw [la, decide_eq_true (by omega : 1 ≤ l.length), decide_eq_true (by omega : l.length ≤ 8)] <;> rfl
        · exact ⟨ga.trans (gb2.trans gb3), hd3.mono (by omega), gb3 _ _ ep2 pd0, gb3 _ _ ef2 fd0, y1, _, nj, rfl⟩
      · rintro σ' H' ⟨gz, dz, pz, fz, y, z4, ny, rfl⟩
        refine ⟨_, rfl, _, rfl, f, _, rfl, DPut.k (k := Sum.inr y) fz ?_, ?_⟩
        · have : kvs.length < 10 := by omega
          exact Nat.lt_trans this (by decide)
        · have hff : H f = none := hf0
          refine ⟨gz.mut hff, (dz.upd fd0).mono (by omega), by rw [upd_ne (Ne.symm hfp)]; exact pz, ⟨_, upd_same, Nat.le_trans (putK_le _ _ _) (by omega), fun _ => putK_ne _ _ _, fun kv hkv => ?_⟩, _, _, _, rfl⟩
          rcases mem_putK hkv with e | ⟨z, hz, e⟩
          · exact ⟨y, e, ny⟩
          · obtain ⟨y', e', n'⟩ := kn z hz
            exact ⟨y', e.trans e', n'⟩
    · obtain ⟨ga, da, ep, ⟨kvs, ef, kl, k0, kn⟩, z1, z2, z3, rfl⟩ := pv
      obtain ⟨ks, ek, nk⟩ := keys_strs kvs kn
      have hks : ks.length = kvs.length := by
        have := congrArg List.length ek
        simpa using this.symm
      refine ⟨_, rfl, f, kvs, ks, rfl, .inl ef, ek, by omega, fun ys p' perm _ hp' => ?_⟩
      have hl : ys.length = kvs.length := perm.length_eq.trans hks
      refine q p' _ ys (ga.mut ?_) ((da.upd (da.ne hp')).mono (by omega)) upd_same (fun y hy => nk y (perm.mem_iff.mp hy)) ?_ (by omega)
      · cases q0 : H p' with
        | none => rfl
        | some o =>
          rw [ga _ _ q0 (da.ne hp')] at hp'
          cases hp'
      · have := List.length_pos_iff.mpr (k0 (by omega))
        omega
end
end K86
set_option Elab.async false
set_option linter.all false
set_option maxRecDepth 100000
set_option maxHeartbeats 4000000
/-! monos, polys, forms as data -/
namespace K86
open PySem PySem.Spec PyProof.Rows L2
abbrev Mo := List (Str × Int)
abbrev Kd := Mo × Int × Int
def pairD (x : Str × Int) : PyData := .tuple [.str x.1, .int x.2]
def monoD (l : Mo) : PyData := .tuple (l.map pairD)
def kindD (k : Kd) : PyData := .tuple [monoD k.1, .int k.2.1, .int k.2.2]
def shareD (q : Int × Int) : PyData := .tuple [.int q.1, .int q.2]
def termD (x : Mo × Int) : PyData := .tuple [monoD x.1, .int x.2]
def fermD (x : Kd × Int × Int) : PyData := .tuple [kindD x.1, shareD x.2]
def polyD (l : List (Mo × Int)) : PyData := .tuple (l.map termD)
def formD (l : List (Kd × Int × Int)) : PyData := .tuple (l.map fermD)
theorem pair_inj {x y : Str × Int} (h : pairD x = pairD y) : x = y := by
  unfold pairD at h
  simp only [PyData.tuple.injEq, List.cons.injEq, PyData.str.injEq, PyData.int.injEq, and_true] at h
  exact Prod.ext h.1 h.2
theorem map_inj' {α : Type} {f : α → PyData} (hf : ∀ x y, f x = f y → x = y) : ∀ {l m : List α}, l.map f = m.map f → l = m
  | [], [], _ => rfl
  | [], _ :: _, h => by simp at h
  | _ :: _, [], h => by simp at h
  | x :: l, y :: m, h => by
    rw [List.map_cons, List.map_cons] at h
    injection h with h1 h2
    rw [hf _ _ h1, map_inj' hf h2]
theorem mono_inj {a b : Mo} (h : monoD a = monoD b) : a = b := map_inj' (fun _ _ => pair_inj) (PyData.tuple.inj h)
theorem kind_inj {a b : Kd} (h : kindD a = kindD b) : a = b := by
  unfold kindD at h
  simp only [PyData.tuple.injEq, List.cons.injEq, PyData.int.injEq, and_true] at h
  obtain ⟨h1, h2, h3⟩ := h
  exact Prod.ext (mono_inj h1) (Prod.ext h2 h3)
theorem keyable_pair (x : Str × Int) : keyable (pairD x) = true := by
  unfold pairD
  simp [keyable, keyableAll]
theorem keyableAll_map {α : Type} {f : α → PyData} (h : ∀ x, keyable (f x) = true) : ∀ l : List α, keyableAll (l.map f) = true
  | [] => by simp [keyableAll]
  | x :: l => by rw [List.map_cons, keyableAll, h x, keyableAll_map h l] <;> rfl
theorem keyable_mono (l : Mo) : keyable (monoD l) = true := by
  unfold monoD
  rw [keyable, keyableAll_map keyable_pair]
theorem keyable_kind (k : Kd) : keyable (kindD k) = true := by
  unfold kindD
  rw [keyable]
  simp [keyableAll, keyable_mono, keyable]
theorem depthAll_map {α : Type} {f : α → PyData} {n : Nat} (h : ∀ x, (f x).depth ≤ n) : ∀ l : List α, PyData.depthAll (l.map f) ≤ n
  | [] => by simp [PyData.depthAll]
  | x :: l => by
    rw [List.map_cons, PyData.depthAll]
    exact Nat.max_le.mpr ⟨h x, depthAll_map h l⟩
theorem depth_pair (x : Str × Int) : (pairD x).depth ≤ 1 := by
  unfold pairD
  simp [PyData.depth, PyData.depthAll]
theorem depth_mono (l : Mo) : (monoD l).depth ≤ 2 := by
  unfold monoD
  rw [PyData.depth]
  have := depthAll_map depth_pair l
  omega
theorem depth_kind (k : Kd) : (kindD k).depth ≤ 3 := by
  unfold kindD
  have := depth_mono k.1
  simp only [PyData.depth, PyData.depthAll]
  omega
theorem depth_term (x : Mo × Int) : (termD x).depth ≤ 3 := by
  unfold termD
  have := depth_mono x.1
  simp only [PyData.depth, PyData.depthAll]
  omega
theorem depth_ferm (x : Kd × Int × Int) : (fermD x).depth ≤ 4 := by
  unfold fermD shareD
  have := depth_kind x.1
  simp only [PyData.depth, PyData.depthAll]
  omega
theorem depth_poly (l : List (Mo × Int)) : (polyD l).depth ≤ 4 := by
  unfold polyD
  rw [PyData.depth]
  have := depthAll_map depth_term l
  omega
theorem depth_form (l : List (Kd × Int × Int)) : (formD l).depth ≤ 5 := by
  unfold formD
  rw [PyData.depth]
  have := depthAll_map depth_ferm l
  omega
theorem nl_pair (x : Str × Int) : nl (pairD x) = true := keyable_nl _ (keyable_pair x)
theorem nl_mono (l : Mo) : nl (monoD l) = true := keyable_nl _ (keyable_mono l)
theorem nl_kind (l : Kd) : nl (kindD l) = true := keyable_nl _ (keyable_kind l)
theorem nl_share (q : Int × Int) : nl (shareD q) = true := by
  unfold shareD
  simp [nl, nlAll]
theorem nl_term (x : Mo × Int) : nl (termD x) = true := by
  unfold termD
  simp [nl, nlAll, nl_mono]
theorem nl_ferm (x : Kd × Int × Int) : nl (fermD x) = true := by
  unfold fermD
  simp [nl, nlAll, nl_kind, nl_share]
theorem nlAll_map {α : Type} {f : α → PyData} (h : ∀ x, nl (f x) = true) : ∀ l : List α, nlAll (l.map f) = true
  | [] => by simp [nlAll]
  | x :: l => by rw [List.map_cons, nlAll, h x, nlAll_map h l] <;> rfl
theorem nl_poly (l : List (Mo × Int)) : nl (polyD l) = true := by
  unfold polyD
  rw [nl, nlAll_map nl_term]
theorem nl_form (l : List (Kd × Int × Int)) : nl (formD l) = true := by
  unfold formD
  rw [nl, nlAll_map nl_ferm]
def eM : KEnc Mo := ⟨monoD, keyable_mono, fun k => Nat.le_trans (depth_mono k) (by decide), fun _ _ => mono_inj⟩
def eK : KEnc Kd := ⟨kindD, keyable_kind, fun k => Nat.le_trans (depth_kind k) (by decide), fun _ _ => kind_inj⟩
/-! ### alike -/
open PySem.W in
theorem alikeAll_map {α : Type} {f : α → PyData} (h : ∀ x y, alike (f x) (f y) = true) : ∀ l m : List α, alikeAll (l.map f) (m.map f) = true
  | [], m => by simp [alikeAll]
  | x :: l, [] => by simp [alikeAll]
  | x :: l, y :: m => by rw [List.map_cons, List.map_cons, alikeAll, h x y, alikeAll_map h l m] <;> rfl
open PySem.W in
theorem alike_pair (x y : Str × Int) : alike (pairD x) (pairD y) = true := by
  unfold pairD
  simp [alike, alikeAll]
open PySem.W in
theorem alike_mono (a b : Mo) : alike (monoD a) (monoD b) = true := by
  unfold monoD
  rw [alike, alikeAll_map alike_pair]
open PySem.W in
theorem alike_kind (a b : Kd) : alike (kindD a) (kindD b) = true := by
  unfold kindD
  simp [alike, alikeAll, alike_mono]
open PySem.W in
theorem alike_term (a b : Mo × Int) : alike (termD a) (termD b) = true := by
  unfold termD
  simp [alike, alikeAll, alike_mono]
open PySem.W in
theorem alike_ferm (a b : Kd × Int × Int) : alike (fermD a) (fermD b) = true := by
  unfold fermD shareD
  simp [alike, alikeAll, alike_kind]
theorem srtOk_map {α : Type} {f : α → PyData} {n : Nat} (h1 : ∀ x y, PySem.W.alike (f x) (f y) = true) (h2 : ∀ x, ∃ a r, f x = .tuple (a :: r)) (h3 : ∀ x, (f x).depth ≤ n) (hn : n ≤ 40) (l : List α) : SrtOk (l.map f) := by
  refine ⟨fun d hd d' hd' => ?_, .inl fun d hd => ?_, fun d hd => ?_⟩
  · obtain ⟨x, _, rfl⟩ := List.mem_map.mp hd
    obtain ⟨y, _, rfl⟩ := List.mem_map.mp hd'
    exact h1 x y
  · obtain ⟨x, _, rfl⟩ := List.mem_map.mp hd
    exact h2 x
  · obtain ⟨x, _, rfl⟩ := List.mem_map.mp hd
    exact Nat.le_trans (h3 x) hn
theorem srtOk_term (l : List (Mo × Int)) : SrtOk (l.map termD) := srtOk_map alike_term (fun x => ⟨_, _, rfl⟩) depth_term (by decide) l
theorem srtOk_ferm (l : List (Kd × Int × Int)) : SrtOk (l.map fermD) := srtOk_map alike_ferm (fun x => ⟨_, _, rfl⟩) depth_ferm (by decide) l
theorem srtOk_pair (l : List (Str × Int)) : SrtOk (l.map pairD) := srtOk_map alike_pair (fun x => ⟨_, _, rfl⟩) depth_pair (by decide) l
/-- the sorted list of what f makes is what f makes of some order -/
theorem perm_map {α : Type} {f : α → PyData} : ∀ {m : List PyData} {l : List α}, m.Perm (l.map f) → ∃ l' : List α, l'.Perm l ∧ m = l'.map f := by
  intro m l h
  have key : ∀ {a b : List PyData}, a.Perm b → ∀ l : List α, b = l.map f → ∃ l' : List α, l'.Perm l ∧ a = l'.map f := by
    intro a b h
    induction h with
    | nil => intro l e; exact ⟨l, .refl _, e⟩
    | cons x h ih =>
      intro l e
      cases l with
      | nil => simp at e
      | cons y t =>
        rw [List.map_cons] at e
        injection e with e1 e2
        obtain ⟨l', p, q⟩ := ih t e2
        exact ⟨y :: l', .cons y p, by rw [List.map_cons, e1, q]⟩
    | swap x y t =>
      intro l e
      match l with
      | [] => simp at e
      | [_] => simp at e
      | u :: v :: r =>
        simp only [List.map_cons, List.cons.injEq] at e
        exact ⟨v :: u :: r, .swap _ _ _, by simp only [List.map_cons, e.1, e.2.1, e.2.2]⟩
    | trans h1 h2 ih1 ih2 =>
      intro l e
      obtain ⟨l1, p1, q1⟩ := ih2 l e
      obtain ⟨l2, p2, q2⟩ := ih1 l1 q1
      exact ⟨l2, p2.trans p1, q2⟩
  exact key h l rfl
theorem srt_map {α : Type} (f : α → PyData) (l : List α) : ∃ l' : List α, l'.Perm l ∧ srt (l.map f) = l'.map f := by
  obtain ⟨l', p, e⟩ := perm_map (f := f) (l := l) (List.mergeSort_perm (l.map f) (PySem.W.dataLe false id))
  exact ⟨l', p, e⟩
section
variable {P : Program} {w : World} {K : PySem.W.Frag} {mg : Str → Option Value} {base : Heap}
/-- a drawn mono -/
def okM (l : Mo) : Prop := l.length ≤ 2 ∧ ∀ x ∈ l, nm x.1 ∧ 1 ≤ x.2 ∧ x.2 ≤ 3
def sp_law_mono (K : PySem.W.Frag) : Sp := fun vs H Q _ => ∃ (d : Addr) (n : Int), vs = [.ref d] ∧ Draw H d n ∧ n < 2 ^ 39 ∧
  ∀ (p : Addr) (H' : Hp) (l : Mo), GrBut d H H' → Draw H' d (n + 200) → okM l → Dp K H' (.ref p) (monoD l) → Q (.ref p) H'
theorem sc_law_mono : FnScope ["_law_draw_here", "_law_boxes_here", "_law_box"] ["_law_draw_here"] (defScope s_law_mono) := ⟨rfl, rfl, rfl, by decide +kernel, rfl, by decide +kernel, by decide +kernel⟩
theorem b39 : (2 : Int) ^ 39 = 549755813888 := by decide
theorem GrBut.free {d : Addr} {H H1 : Hp} (a : GrBut d H H1) {p : Addr} (h : H1 p = none) (hd : p ≠ d) : H p = none := by
  cases q : H p with
  | none => rfl
  | some o =>
    rw [a p o q hd] at h
    cases h
theorem cut_mem {xs : List V} {lo hi : Option Int} {x : V} (h : x ∈ cutV xs lo hi) : x ∈ xs := List.mem_of_mem_drop (List.mem_of_mem_take h)
theorem ok_law_mono (T : Tx K mg) (F_law_take : TakeF P w K mg base) (F_law_boxes : Fn P w K mg base CX0 3 "_law_boxes" ["_law_draw_here", "_law_most"] sp_law_boxes) : Fn P w K mg base CX0 4 "_law_mono" ["_law_draw_here"] (sp_law_mono K) := by
  refine Fn.of T.f_law_mono sc_law_mono (fun _ _ _ _ _ _ us hl => match us, hl with | [_], _ => rfl) (fun vs H Q E h => ?_) (fun f cdv A outer s H vs Q E hr h => ⟨_, PSs.nox (pss_cons (ps_set (i := 1) sc_law_mono.nd rfl (Or.inl rfl) (pe_slice sl_list (pe_fn F_law_boxes (hr.mono (by omega)) (pa_cons (pv 0) (pa_cons pe_int pa_nil))) po_none (po_some (pe_fn F_law_take (hr.mono (by omega)) (pa_cons (pv 0) (pa_cons pe_int pa_nil))))))
  (pss_one (ps_ret (pe_callTy call_tuple_of (by rfl) T.b_tuple (by decide +kernel) (pa_cons (pe_lc (own := [("_law_box", 2)]) (g := (gName 2)) (tt := tYes) (by rfl) sc_law_mono.nd (pi_list (pv 1)) (blkOk_by (own := [("_law_box", 2)]) (N := ["_law_draw_here", "_law_boxes_here", "_law_box"]) (sc := defScope s_law_mono) (by decide +kernel)) (fun _ _ _ _ _ => (pg_name (i := 2) sc_law_mono.nd rfl (Or.inl rfl))) (fun _ _ _ _ _ => pts_nil) (fun _ _ _ _ _ => (pe_tup (pa_cons (pv 2) (pa_cons (pe_op op_add pe_int (pe_fn F_law_take (hr.mono (by omega)) (pa_cons (pv 0) (pa_cons pe_int pa_nil)))) pa_nil))))) pa_nil))))), ?_⟩)
  · obtain ⟨d, n, rfl, _⟩ := h
    rfl
  · obtain ⟨d, n, rfl, hd, hn, q⟩ := h
    rw [b39] at hn
    refine ⟨_, rfl, d, 2, n, rfl, by decide, by decide, hd, by rw [b40]; omega, fun p H1 ys g1 d1 e1 ny l1 l2 => ?_⟩
    refine ⟨_, rfl, d, 3, _, rfl, by decide, by rw [b60]; decide, d1, by rw [b60]; omega, fun r H2 r0 r1 g2 d2 => ⟨r, rfl, ?_⟩⟩
    have pd : p ≠ d := fun e => by
      obtain ⟨o, s, a, ed, _⟩ := d1
      rw [e, ed] at e1
      cases e1
    refine ⟨p, _, rfl, sl_of (g2 _ _ e1 pd), fun b hb => ?_⟩
    have g3 : GrBut d H (upd H2 b (.lst (cutV (ys.map V.str) none (some r)))) := (g1.trans g2).mut ((g1.trans g2).free hb (d2.ne hb))
    have d3 := d2.upd (o := .lst (cutV (ys.map V.str) none (some r))) (d2.ne hb)
    have hc : ∀ x ∈ cutV (ys.map V.str) none (some r), ∃ y, x = V.str y ∧ nm y := fun x hx => by
      obtain ⟨y, hy, rfl⟩ := List.mem_map.mp (cut_mem hx)
      exact ⟨y, rfl, ny y hy⟩
    have hcl : (cutV (ys.map V.str) none (some r)).length ≤ 2 := by
      have := cutV_length (ys.map V.str) none (some r)
      rw [List.length_map] at this
      omega
    generalize cutV (ys.map V.str) none (some r) = bs at g3 d3 hc hcl
    have eb : (upd H2 b (.lst bs)) b = some (.lst bs) := upd_same
    generalize upd H2 b (.lst bs) = H3 at g3 d3 eb
    have bd : b ≠ d := fun e => by
      obtain ⟨o, s, a, ed, _⟩ := d3
      rw [e, ed] at eb
      cases eb
    refine ⟨_, rfl, b, rfl, ⟨_, sl_of eb⟩, fun D hD => ?_⟩
    have Dd : D ≠ d := d3.ne hD
    have Db : D ≠ b := fun e => by rw [e, eb] at hD; cases hD
    refine lc_it walk_list (fun i Hh => GrBut d H3 Hh ∧ Draw Hh d (n + 100 + 1 + i) ∧ Hh b = some (.lst bs) ∧ ∃ (xs : List V) (l : Mo), Hh D = some (.lst xs) ∧ DpAll K Hh xs (l.map pairD) ∧ l.length = i ∧ ∀ x ∈ l, nm x.1 ∧ 1 ≤ x.2 ∧ x.2 ≤ 3) ?_ (fun i Hh _ pv => sl_of pv.2.2.1) (fun i x Hh H' hi pv y => ?_) (fun Hh pv => ?_)
    · exact ⟨(Gr.new hD).but, (d3.upd Dd).mono (by omega), by rw [upd_ne (Ne.symm Db)]; exact eb, [], [], upd_same, .nil, rfl, by simp⟩
    · obtain ⟨gh, dh, ebh, xs, l, eD, dxs, ll, ok⟩ := pv
      obtain ⟨rfl, hx⟩ := y
      obtain ⟨y, rfl, hy⟩ := hc x (List.mem_of_getElem? hx)
      refine ⟨rfl, _, rfl, _, rfl, d, 3, _, rfl, by decide, by rw [b60]; decide, dh, by rw [b60]; omega, fun r4 H4 r40 r41 g4 d4 => ⟨_, _, rfl, rfl, by show 2 ≤ sizeLine; decide, fun t ht => ⟨xs, ?_, ?_, ?_⟩⟩⟩
      · have Dt : D ≠ t := ne_of_none (g4 _ _ eD Dd) ht
        rw [upd_ne Dt]
        exact g4 _ _ eD Dd
      · rw [DpAll.length dxs, List.length_map, ll]
        exact Nat.lt_of_lt_of_le hi (Nat.le_trans hcl (by decide))
      · have td : t ≠ d := d4.ne ht
        have tb : b ≠ t := ne_of_none (g4 _ _ ebh bd) ht
        have k4 : Kt H' H4 := dh.kt g4
        have gt : Gr H4 (upd H4 t (.tup [.str y, .int (1 + r4)])) := Gr.new ht
        have e4 : (upd H4 t (.tup [.str y, .int (1 + r4)])) D = some (.lst xs) := gt _ _ (g4 _ _ eD Dd)
        have kD : Kt (upd H4 t (.tup [.str y, .int (1 + r4)])) (upd (upd H4 t (.tup [.str y, .int (1 + r4)])) D (.lst (xs ++ [.ref t]))) := Kt.put (by rw [e4]; exact True.intro)
        refine ⟨((gh.trans g4).trans gt.but).mut hD, ((d4.upd td).upd Dd).mono (by omega), by rw [upd_ne (Ne.symm Db), upd_ne tb]; exact g4 _ _ ebh bd, xs ++ [.ref t], l ++ [(y, 1 + r4)], upd_same, ?_, by simp [ll], fun x hx => ?_⟩
        · have nlx : nlAll ((l ++ [(y, 1 + r4)]).map pairD) = true := nlAll_map nl_pair _
          refine DpAll.kt kD _ _ nlx ?_
          rw [List.map_append]
          refine DpAll.append (DpAll.gr gt _ _ (DpAll.kt k4 _ _ (nlAll_map nl_pair _) dxs)) (.cons ?_ .nil)
          exact .tup (st_of upd_same) (.cons (.str y) (.cons (.int _) .nil))
        · rcases List.mem_append.mp hx with hx | hx
          · exact ok x hx
          · rw [List.mem_singleton.mp hx]
            exact ⟨hy, by show 1 ≤ 1 + r4; omega, by show 1 + r4 ≤ 3; omega⟩
    · obtain ⟨gh, dh, ebh, xs, l, eD, dxs, ll, ok⟩ := pv
      refine ⟨D, xs, rfl, .inl ⟨sl_of eD, fun t ht => ?_⟩⟩
      have td := dh.ne ht
      refine q t _ l (((g3.trans gh)).mut ((g3.trans gh).free ht td)) ((dh.upd td).mono (by omega)) ⟨by omega, ok⟩ (.tup (st_of upd_same) (DpAll.gr (Gr.new ht) _ _ dxs))
def sp_law_number : Sp := fun vs H Q _ => ∃ (d : Addr) (n : Int), vs = [.ref d] ∧ Draw H d n ∧ n < 2 ^ 39 ∧
  ∀ (i : Int) (H' : Hp), GrBut d H H' → Draw H' d (n + 2) → i.natAbs < 10 ^ 40 → Q (.int i) H'
theorem sc_law_number : FnScope ["_law_draw_here"] ["_law_draw_here"] (defScope s_law_number) := ⟨rfl, rfl, rfl, by decide +kernel, rfl, by decide +kernel, by decide +kernel⟩
theorem ok_law_number (T : Tx K mg) (F_law_take : TakeF P w K mg base) : Fn P w K mg base CX0 3 "_law_number" ["_law_draw_here"] sp_law_number := by
  refine Fn.of T.f_law_number sc_law_number (fun _ _ _ _ _ _ us hl => match us, hl with | [_], _ => rfl) (fun vs H Q E h => ?_) (fun f cdv A outer s H vs Q E hr h => ⟨_, PSs.nox (pss_one (ps_ret (pe_ix ix_list (pe_lst (pa_cons pe_int (pa_cons (pe_un un_neg pe_int) (pa_cons pe_int (pa_cons (pe_op op_sub (pe_fn F_law_take (hr.mono (by omega)) (pa_cons (pv 0) (pa_cons pe_int pa_nil))) pe_int) (pa_cons (pe_op op_pow pe_int pe_int) (pa_cons (pe_un un_neg pe_int) pa_nil))))))) (pe_fn F_law_take (hr.mono (by omega)) (pa_cons (pv 0) (pa_cons pe_int pa_nil))) (fun _ _ => rfl)))), ?_⟩)
  · obtain ⟨d, n, rfl, _⟩ := h
    rfl
  · obtain ⟨d, n, rfl, hd, hn, q⟩ := h
    rw [b39] at hn
    refine ⟨1, rfl, _, rfl, d, 2000, n, rfl, by decide, by rw [b60]; decide, hd, by rw [b60]; omega, fun r H1 r0 r1 g1 d1 => ⟨_, _, rfl, rfl, _, _, rfl, rfl, ⟨by decide, by decide, by decide⟩, 12, rfl, by show 6 ≤ sizeLine; decide, fun p hp => ?_⟩⟩
    have pd := d1.ne hp
    refine ⟨_, rfl, d, 6, _, rfl, by decide, by rw [b60]; decide, d1.upd pd, by rw [b60]; omega, fun r2 H2 r20 r21 g2 d2 => ?_⟩
    obtain ⟨j, rfl⟩ := Int.eq_ofNat_of_zero_le r20
    have hj : j < 6 := by omega
    have e2 := g2 _ _ (upd_same (H := H1) (a := p) (o := .lst [.int 1, .int (-1), .int 2, .int (r - 1000), .int (10 ^ (39 : Int).toNat), .int (-12)])) pd
    have gg : GrBut d H H2 := ((g1.mut (g1.free hp pd)).trans g2)
    have ten : (10 : Nat) ^ 40 = 10000000000000000000000000000000000000000 := by decide
    have fin : ∀ i : Int, i.natAbs < 10 ^ 40 → Q (.int i) H2 := fun i hi => q i H2 gg (d2.mono (by omega)) hi
    have at_ : ∃ i : Int, ([.int 1, .int (-1), .int 2, .int (r - 1000), .int (10 ^ (39 : Int).toNat), .int (-12)] : List V)[j]? = some (.int i) ∧ i.natAbs < 10 ^ 40 := by
      match j, hj with
      | 0, _ => exact ⟨_, rfl, by decide⟩
      | 1, _ => exact ⟨_, rfl, by decide⟩
      | 2, _ => exact ⟨_, rfl, by decide⟩
      | 3, _ => exact ⟨_, rfl, by rw [ten]; omega⟩
      | 4, _ => exact ⟨_, rfl, by decide⟩
      | 5, _ => exact ⟨_, rfl, by decide⟩
    obtain ⟨i, ei, hi⟩ := at_
    exact ⟨p, _, _, _, rfl, rfl, sl_of e2, atI_nat ei, fin i hi⟩
end
end K86
set_option Elab.async false
set_option linter.all false
set_option maxRecDepth 100000
set_option maxHeartbeats 4000000
/-! sorted(d.items()) -/
namespace K86
open PySem PySem.Spec PyProof.Rows L2
section
variable {X : Cx}
theorem vals_refs' : ∀ as : List Addr, Vals (as.map V.ref) (as.map Value.ref)
  | [] => .nil
  | _ :: as => .cons rfl (vals_refs' as)
/-- a pair's datum -/
def PairDt (K : PySem.W.Frag) (H : Hp) (p : V × V) (d : PyData) : Prop := ∃ a b, d = .tuple [a, b] ∧ Dp K H p.1 a ∧ Dp K H p.2 b
/-- which pairs a dict holds -/
structure Raws (s : Shared) (d : Addr) (ps : List (V × V)) (es : Array DictEntry) (ep : Nat) : Prop where
  nm : (d == sysModules) = false
  raw : s.heap.DictRaw d es ep
  sz : es.size = ps.length
  le : ps.length ≤ sizeLine
  at_ : ∀ (i : Nat) (p : V × V), ps[i]? = some p → ∃ e, es[i]? = some e ∧ RelV p.1 e.key ∧ RelV p.2 e.val
def fOf (l : Addr) (ys : List V) (as : List Addr) (ps : List (V × V)) : Hp := fun a => if a = l then some (.lst ys) else ((as.zip ps).lookup a).map fun p => .tup [p.1, p.2]
theorem lookup_zip {as : List Addr} : ∀ {ps : List (V × V)} {j : Nat} {t : Addr} {p : V × V}, as.Nodup → as[j]? = some t → ps[j]? = some p → (as.zip ps).lookup t = some p := by
  induction as with
  | nil => intro ps j t p _ h; simp at h
  | cons a as ih =>
    intro ps j t p hn h1 h2
    cases ps with
    | nil => simp at h2
    | cons q ps =>
      cases j with
      | zero =>
        simp at h1 h2
        subst h1 h2
        simp [List.lookup]
      | succ j =>
        simp at h1 h2
        have hn' := List.nodup_cons.mp hn
        have hne : t ≠ a := fun e => hn'.1 (by rw [← e]; exact List.mem_of_getElem? h1)
        rw [List.zip_cons_cons, List.lookup_cons, beq_false_of_ne hne]
        exact ih hn'.2 h1 h2
theorem zip_lookup {as : List Addr} : ∀ {ps : List (V × V)} {t : Addr} {p : V × V}, (as.zip ps).lookup t = some p → ∃ j : Nat, as[j]? = some t ∧ ps[j]? = some p := by
  induction as with
  | nil => intro ps t p h; simp at h
  | cons a as ih =>
    intro ps t p h
    cases ps with
    | nil => simp at h
    | cons q ps =>
      rw [List.zip_cons_cons, List.lookup_cons] at h
      cases c : t == a with
      | true =>
        rw [c] at h
        have e : t = a := by simpa using c
        exact ⟨0, by simp [e], by simpa using h⟩
      | false =>
        rw [c] at h
        obtain ⟨j, h1, h2⟩ := ih h
        exact ⟨j + 1, by simpa using h1, by simpa using h2⟩
theorem paired_ix {α β : Type} {F : α → β → Prop} : ∀ {xs : List α} {ys : List β} {i : Nat} {y : β}, Paired F xs ys → ys[i]? = some y → ∃ x, xs[i]? = some x ∧ F x y
  | _, _, i, y, .nil, h => by simp at h
  | _, _, 0, y, .cons r t, h => by
    simp at h
    subst h
    exact ⟨_, by simp, r⟩
  | _, _, i + 1, y, .cons r t, h => by
    obtain ⟨x, h1, h2⟩ := paired_ix (i := i) t (by simpa using h)
    exact ⟨x, by simpa using h1, h2⟩
theorem eachIs_ix {α β : Type} {F : α → β → Prop} : ∀ {xs : List α} {ys : List β}, xs.length = ys.length → (∀ (i : Nat) x y, xs[i]? = some x → ys[i]? = some y → F x y) → PySem.W.EachIs F xs ys
  | [], [], _, _ => .nil
  | [], _ :: _, h, _ => by simp at h
  | _ :: _, [], h, _ => by simp at h
  | x :: xs, y :: ys, h, f => .cons (f 0 x y rfl rfl) (eachIs_ix (by simpa using h) fun i a b h1 h2 => f (i + 1) a b (by simpa using h1) (by simpa using h2))
theorem paired_at {α β : Type} {F : α → β → Prop} : ∀ {xs : List α} {ys : List β} {i : Nat} {x : α} {y : β}, Paired F xs ys → xs[i]? = some x → ys[i]? = some y → F x y
  | _, _, i, x, y, .nil, h, _ => by simp at h
  | _, _, 0, x, y, .cons r t, h, h2 => by
    simp at h h2
    subst h h2
    exact r
  | _, _, i + 1, x, y, .cons r t, h, h2 => paired_at t (by simpa using h) (by simpa using h2)
theorem sort_items {pins : List (Addr × Obj)} {σ : L2.St} {H : Hp} {s : Shared} {d : Addr} {ps : List (V × V)} {ds : List PyData} {es : Array DictEntry} {ep : Nat} {r : Addr} {Q : VK} (hu : X.A.units + 64 < cLine) (hh : X.A.handled = none) (I : Inv X pins σ H s) (hr : s.heap.IsItemsView r d) (R : Raws s d ps es ep) (pd : Paired (PairDt X.K H) ps ds) (so : SrtOk ds)
    (q : ∀ (p : Addr) (H' : Hp) (ys : List V), H p = none → Gr H H' → H' p = some (.lst ys) → DpAll X.K H' ys (srt ds) → Q (.ref p) H') : wpAny (model X.prog X.w) X.A (call (.builtin "sorted") [.ref r]) (EP X pins σ Q) X.xe s := by
  have lds : ds.length = ps.length := (Paired.length pd).symm
  obtain ⟨so1, so2, so3⟩ := so
  refine sorted_coll (fun vs h' => ∃ as : List Addr, vs = as.map Value.ref ∧ as.length = es.size ∧ PySem.W.DilG es s.heap.objs.size h' as) (fun E' Z hz => ?_) (fun vs h' tk g' d' k ag ⟨as, ev, la, G⟩ => ?_)
  · refine PySem.W.dil_collect hh hr R.raw (by rw [R.sz]; exact R.le) fun h' tk as k la G => ?_
    exact hz _ h' tk s.gens s.drawn k I.bare ⟨as, rfl, la, G⟩
  subst ev
  have nd : as.Nodup := List.Pairwise.imp (fun {a b} (h : a < b) => Nat.ne_of_lt h) G.rise
  have lps : as.length = ps.length := la.trans R.sz
  -- what stands at the j-th tuple
  have tup : ∀ (j : Nat) (t : Addr) (p : V × V), as[j]? = some t → ps[j]? = some p → ∃ u v, RelV p.1 u ∧ RelV p.2 v ∧ h'.get? t = some { cls := .type "tuple", data := .seq #[u, v] } := fun j t p h1 h2 => by
    obtain ⟨hj, e⟩ := G.pairs j t h1
    obtain ⟨en, e1, e2, e3⟩ := R.at_ j p h2
    have e4 : es[j] = en := by
      rw [Array.getElem?_eq_getElem hj] at e1
      exact Option.some.inj e1
    rw [e4] at e
    exact ⟨_, _, e2, e3, e⟩
  have I' : Inv X pins σ H ⟨h', g', d', tk, s.os⟩ := (lay_all (F := fun _ => none) I k ag fun a o z => by cases z).1 |> fun J => by
    have e : over (fun _ => none) H = H := rfl
    exact J
  refine ⟨fun v d => ∃ (j : Nat) (t : Addr), v = .ref t ∧ as[j]? = some t ∧ ds[j]? = some d, ds, eachIs_ix (by rw [List.length_map, lps, lds]) (fun i x y h1 h2 => ?_), eachIs_ix (by rw [List.length_map, lps, lds]) (fun i x y h1 h2 => ?_), so1, so2, by rw [lds]; exact R.le, fun b hb => ?_, fun h2 out c k2 ho lo eo => ?_⟩
  · rw [List.getElem?_map] at h1
    cases z : as[i]? with
    | none => rw [z] at h1; cases h1
    | some t =>
      rw [z] at h1
      exact ⟨i, t, (Option.some.inj h1).symm, z, h2⟩
  · rw [List.getElem?_map] at h1
    cases z : as[i]? with
    | none => rw [z] at h1; cases h1
    | some t =>
      rw [z] at h1
      have e1 : x = .ref t := (Option.some.inj h1).symm
      subst e1
      obtain ⟨p, hp, a, b, rfl, da, db⟩ := paired_ix pd h2
      obtain ⟨u, v, ru, rv, ht⟩ := tup i t p z hp
      obtain ⟨as1, r1⟩ := Dp.reads I' _ _ _ da ru
      obtain ⟨as2, r2⟩ := Dp.reads I' _ _ _ db rv
      refine ⟨_, .tuple ht rfl rfl (.cons r1 (.cons r2 .nil))⟩
  · have := so3 b hb
    omega
  · -- the heap behind
    have lout : out.length = ps.length := lo.trans lds
    have vs_of : ∀ {out : List Value} {es : List PyData}, PySem.W.EachIs (fun v d => ∃ (j : Nat) (t : Addr), v = .ref t ∧ as[j]? = some t ∧ ds[j]? = some d) out es → ∃ ts : List Addr, out = ts.map Value.ref ∧ PySem.W.EachIs (fun t d => ∃ j : Nat, as[j]? = some t ∧ ds[j]? = some d) ts es := by
      intro out es e
      induction e with
      | nil => exact ⟨[], rfl, .nil⟩
      | cons h _ ih =>
        obtain ⟨j, t, rfl, h1, h2⟩ := h
        obtain ⟨ts, e1, e2⟩ := ih
        exact ⟨t :: ts, by rw [List.map_cons, e1], .cons ⟨j, h1, h2⟩ e2⟩
    obtain ⟨ts, rfl, et⟩ := vs_of eo
    have lts : ts.length = ps.length := by rw [← lout, List.length_map]
    have above : ∀ t ∈ as, s.heap.get? t = none := fun t ht => Heap.get?_none_of_le (Nat.le_of_lt (G.above t ht))
    have newl : s.heap.get? h'.objs.size = none := by
      cases c : s.heap.get? h'.objs.size with
      | none => rfl
      | some o => exact absurd (Heap.lt_size (k _ _ c)) (Nat.lt_irrefl _)
    have lnot : ∀ t ∈ as, t ≠ h'.objs.size := fun t ht e => by
      have := G.there ht
      rw [e] at this
      exact Nat.lt_irrefl _ this
    obtain ⟨J, gr⟩ := lay_all (F := fOf h'.objs.size (ts.map V.ref) as ps) (h' := h2) (t' := tk) (g' := g') (d' := d') I (fun b o z => k2 b o (k b o z)) ag (fun a o z => by
      unfold fOf at z
      by_cases c : a = h'.objs.size
      · rw [if_pos c] at z
        cases z
        subst c
        refine ⟨newl, fun H' => ⟨by rw [List.length_map, lts]; exact R.le, ts.map Value.ref, _, vals_refs' ts, ho⟩⟩
      · rw [if_neg c] at z
        cases q0 : (as.zip ps).lookup a with
        | none => rw [q0] at z; cases z
        | some p =>
          rw [q0] at z
          cases z
          obtain ⟨j, h1, hp⟩ := zip_lookup q0
          obtain ⟨u, v, ru, rv, ht⟩ := tup j a p h1 hp
          exact ⟨above a (List.mem_of_getElem? h1), fun H' => ⟨by show 2 ≤ sizeLine; decide, [u, v], .cons ru (.cons rv .nil), ⟨_, k2 _ _ ht, rfl, _, rfl⟩⟩⟩)
    have el : over (fOf h'.objs.size (ts.map V.ref) as ps) H h'.objs.size = some (.lst (ts.map V.ref)) := over_new (by unfold fOf; rw [if_pos rfl])
    have dall : ∀ {us : List Addr} {es : List PyData}, PySem.W.EachIs (fun t d => ∃ j : Nat, as[j]? = some t ∧ ds[j]? = some d) us es → DpAll X.K (over (fOf h'.objs.size (ts.map V.ref) as ps) H) (us.map V.ref) es := by
      intro us es e
      induction e with
      | nil => exact .nil
      | cons h _ ih =>
        obtain ⟨j, h1, hd⟩ := h
        obtain ⟨p, hp, a, b, rfl, da, db⟩ := paired_ix pd hd
        refine .cons (.tup (st_of (over_new ?_)) (.cons (Dp.gr gr _ _ da) (.cons (Dp.gr gr _ _ db) .nil))) ih
        unfold fOf
        rw [if_neg (lnot _ (List.mem_of_getElem? h1)), lookup_zip nd h1 hp] <;> rfl
    exact ⟨.ref h'.objs.size, _, J, rfl, q _ _ _ (HOk.gone I.hok newl) gr el (dall et)⟩
/-- the dict at d holds these pairs -/
def HasPairs (P : Program) (w : World) (H : Hp) (d : Addr) (ps : List (V × V)) : Prop := ∃ u, H d = some u ∧ ∀ (H' : Hp) (s : Shared), ObjOk P w H' s.heap d u → ∃ es ep, Raws s d ps es ep
theorem pairs_ix {P : Program} {w : World} : ∀ {es : List DictEntry} {vs : List (Key × Value)} {kvs : List (Key × V)} {i : Nat} {kv : Key × V}, Pairs (mixKind P w) es vs → KV kvs vs → kvs[i]? = some kv → ∃ e, es[i]? = some e ∧ RelV (kV kv.1) e.key ∧ RelV kv.2 e.val
  | _, _, _, i, kv, .nil, h, e => by
    cases h
    simp at e
  | _, _, _, 0, kv, .cons h1 h2 t, h, e => by
    cases h with
    | cons r t' =>
      simp at e
      subst e
      refine ⟨_, rfl, ?_, ?_⟩
      · rw [r.1]
        exact relV_key h1
      · rw [h2]
        exact r.2
  | _, _, _, i + 1, kv, .cons h1 h2 t, h, e => by
    cases h with
    | cons r t' =>
      obtain ⟨en, q1, q2⟩ := pairs_ix (i := i) t t' (by simpa using e)
      exact ⟨en, by simpa using q1, q2⟩
theorem pairs_len {P : Program} {w : World} : ∀ {es : List DictEntry} {vs : List (Key × Value)}, Pairs (mixKind P w) es vs → es.length = vs.length
  | _, _, .nil => rfl
  | _, _, .cons _ _ t => by rw [List.length_cons, List.length_cons, pairs_len t]
theorem hasPairs_dK {P : Program} {w : World} {H : Hp} {d : Addr} {kvs : List (Key × V)} (h : H d = some (.dK kvs)) : HasPairs P w H d (kvs.map fun kv => (kV kv.1, kv.2)) := by
  refine ⟨_, h, fun H' s ob => ?_⟩
  obtain ⟨hz, hs0, vs, kv, o, es, ep, ho, hx, hdt, hk, hp, hn⟩ := ob
  refine ⟨es, ep, hs0, ⟨o, ho, hx, hdt⟩, ?_, by rw [List.length_map]; exact hz, fun i p hi => ?_⟩
  · rw [List.length_map, ← Array.length_toList, pairs_len hp]
    exact (Paired.length kv).symm
  · rw [List.getElem?_map] at hi
    cases c : kvs[i]? with
    | none => rw [c] at hi; cases hi
    | some q =>
      rw [c] at hi
      cases hi
      obtain ⟨e, e1, e2⟩ := pairs_ix hp kv c
      exact ⟨e, by rw [← Array.getElem?_toList]; exact e1, e2⟩
theorem hasPairs_N {P : Program} {w : World} {κ : Type} [DecidableEq κ] {E : KEnc κ} {H : Hp} {d : Addr} {xs : List (κ × Addr × V)} (h : H d = some (kdO P w E d xs)) : HasPairs P w H d (xs.map fun x => (V.ref x.2.1, x.2.2)) := by
  refine ⟨_, h, fun H' s ob => ?_⟩
  obtain ⟨h1, h2, ys, r, o, es, ep, q1, q2, q3, q4, q5⟩ := (show ObjOk P w H' s.heap d (.ext (kraw P w E d xs)) from ob).1
  refine ⟨es, ep, h1, ⟨o, q1, q2, q3⟩, ?_, by rw [List.length_map]; exact h2, fun i p hi => ?_⟩
  · rw [List.length_map, ← Array.length_toList, q4, List.length_map, r.length]
  · rw [List.getElem?_map] at hi
    cases c : xs[i]? with
    | none => rw [c] at hi; cases hi
    | some x =>
      rw [c] at hi
      cases hi
      obtain ⟨y, hy, y1, y2, y3⟩ := pair_at r c
      refine ⟨entryOfKey (nestedKind P w) y, ?_, ?_, y3⟩
      · rw [← Array.getElem?_toList, q4, List.getElem?_map, hy] <;> rfl
      · show (entryOfKey (nestedKind P w) y).key = Value.ref x.2.1
        rw [y2] <;> rfl
def tSortI (P : Program) (w : World) (K : PySem.W.Frag) (te : TE) : TE := fun σ H Q => te σ H fun x H1 => ∃ (d : Addr) (ps : List (V × V)) (ds : List PyData), x = .ref d ∧ HasPairs P w H1 d ps ∧ Paired (PairDt K H1) ps ds ∧ SrtOk ds ∧
  ∀ (p : Addr) (H' : Hp) (ys : List V), H1 p = none → Gr H1 H' → H' p = some (.lst ys) → DpAll K H' ys (srt ds) → Q (.ref p) H'
/-- sorted(e.items()) -/
theorem pe_sortI {e : Expr} {te : TE} {p apos cpos pos : Pos} (hc : X.calm = true) (hu : X.A.units + 64 < cLine) (he : PE X e te) (hm : X.mg "sorted" = none) (hg : Gl X "sorted" := by rfl) (hbase : attributeBase e "items" X.env (eval e X.env) = eval e X.env := by rfl) (hline : (apos.endLine == cpos.line) = true := by rfl)
    (hs : starEach [.Call (.Attribute e "items" apos) [] [] cpos] X.env = (false, eval (.Call (.Attribute e "items" apos) [] [] cpos) X.env) :: starEach [] X.env := by rfl) :
    PE X (.Call (.Name "sorted" p) [.Call (.Attribute e "items" apos) [] [] cpos] [] pos) (tSortI X.prog X.w X.K te) := by
  refine ⟨fun pins s σ H Q I hq => ?_⟩
  refine wpAny_Call_Name_kw (ld_blt I hg hm (u := .builtin "sorted") (by decide +kernel) ?_)
  refine Calls.callWith_builtin rfl ?_
  rw [hs]
  refine Calls.evalArgs_plain (Calls.spliced_cons ?_)
  refine wpAny_Call_method (T := "dict") (id := "dict.items") hbase rfl hline F.plainAttrs_dict F.slot_dict_items F.type_dict_items (thn (he.run pins s σ H _ I hq) fun u s1 ⟨x, H1, I1, rx, d, ps, ds, ex, hd, pd, so, q⟩ => ?_)
  subst ex
  obtain rfl : u = Value.ref d := rx
  obtain ⟨uo, hud, hall⟩ := hd
  obtain ⟨es, ep, R⟩ := hall _ _ (I1.hok d _ hud)
  have I2 : Inv X pins σ H1 { s1 with heap := s1.heap.push { cls := .type "dict_items", data := .fields #[.ref d] } } := I1.kept (t' := s1.toks) fun b ob q => Heap.get?_push_of_some _ q
  refine ⟨R.raw.typeIs, fun b q => ?_, ?_⟩
  · cases q
    obtain ⟨o, ho, hx, _⟩ := R.raw
    exact ⟨o, ho, hx.2.1⟩
  show wpAny _ _ (callWith cpos (.builtin "dict.items") [.ref d] [] []) _ X.xe s1
  refine method_meetsIn F.slot_dict_items F.entry_dict_items rfl (PySem.evalArgs_none ⟨rfl, R.raw.typeIs, F.args_dict_items_1 _, _, meets_dict_items_raw d R.nm, ⟨es, ep, R.raw⟩, ?_⟩)
  refine Calls.spliced_nil ?_
  exact sort_items hu (I1.ok.hd hc) I2 ⟨_, Heap.get?_push_size _ rfl, rfl, rfl⟩ ⟨R.nm, R.raw.at fun o q => Heap.get?_push_of_some _ q, R.sz, R.le, R.at_⟩ pd so q
end
end K86
set_option Elab.async false
set_option linter.all false
set_option maxRecDepth 100000
set_option maxHeartbeats 4000000
/-! [(k, v) for k, v in d.items() if ..], d by nested keys -/
namespace K86
open PySem PySem.Spec PyProof.Rows L2
theorem Kt.putN {H : Hp} {p : Addr} {o : HO} (n : ∀ xs, ¬ Rd H p (.tup xs)) : Kt H (upd H p o) := fun x xs e => by
  have hx : x ≠ p := fun z => by
    subst z
    exact n xs e
  rcases e with e | ⟨u, e⟩
  · exact .inl (by rw [upd_ne hx]; exact e)
  · exact .inr ⟨u, by rw [upd_ne hx]; exact e⟩
theorem filter_take {α : Type} (c : α → Bool) {xs : List α} {i : Nat} {x : α} (h : xs[i]? = some x) : (xs.take (i + 1)).filter c = (xs.take i).filter c ++ (if c x = true then [x] else []) := by
  rw [take_snoc h, List.filter_append]
  cases q : c x <;> simp [q]
section
variable {P : Program} {w : World} {K : PySem.W.Frag} {κ : Type} [DecidableEq κ] {E : KEnc κ}
theorem items_list {td : TE} {tt : TT} {a b : Nat} {σ : L2.St} {H0 : Hp} {d : Addr} {xs : List (κ × Addr × V)} {vs : List Nat} {Q : VK} (hd : H0 d = some (kdO P w E d xs)) (hz : xs.length < sizeLine) (hk : Keys E K H0 xs) (vd : κ × Addr × V → PyData) (hv : ∀ x ∈ xs, Dp K H0 x.2.2 (vd x) ∧ nl (vd x) = true) (c : κ × Addr × V → Bool)
    (htd : ∀ (od : Obj) (R : VK), R (.ref d) (upd H0 d (.frz od (kdO P w E d xs))) → td σ (upd H0 d (.frz od (kdO P w E d xs))) R)
    (hw : ∀ v1 v2, wipe (((wipe σ vs).set a (some v1)).set b (some v2)) vs = wipe σ vs) (ha : ∀ v1 v2, (((wipe σ vs).set a (some v1)).set b (some v2))[a]? = some (some v1)) (hb : ∀ v1 v2, (((wipe σ vs).set a (some v1)).set b (some v2))[b]? = some (some v2))
    (htt : ∀ x ∈ xs, ∀ (H2 : Hp) (C : Bool → Hp → Prop), (∀ y d, nl d = true → Dp K H0 y d → Dp K H2 y d) → (∀ H3, Gr H2 H3 → C (c x) H3) → tt (((wipe σ vs).set a (some (.ref x.2.1))).set b (some x.2.2)) H2 C)
    (q : ∀ (D : Addr) (H' : Hp) (ys : List V), H0 D = none → Gr H0 H' → H' D = some (.lst ys) → DpAll K H' ys ((xs.filter c).map fun x => .tuple [E.D x.1, vd x]) → Q (.ref D) H') :
    tLockE (tLc (iItN P w E td) (gTup K 2 (gCons (gName a) (gCons (gName b) gNil))) tt (tTup (tCons (tVar a) (tCons (tVar b) tNil))) vs) σ H0 Q := by
  refine ⟨d, _, hd, kd_mut, fun od => htd od _ ⟨d, od, xs, rfl, upd_same, fun D hD => ?_⟩⟩
  have k01 : Kt H0 (upd H0 d (.frz od (kdO P w E d xs))) := Kt.put (by rw [hd]; exact kd_not)
  have Dd : D ≠ d := fun e => by rw [e, upd_same] at hD; cases hD
  have hD0 : H0 D = none := by rw [upd_ne Dd] at hD; exact hD
  generalize eH1 : upd H0 d (.frz od (kdO P w E d xs)) = H1 at hD k01
  have ed : H1 d = some (.frz od (kdO P w E d xs)) := by rw [← eH1, upd_same]
  refine lc_dt (w := walk_itemsN) (K := K) hD (fun i => ((xs.take i).filter c).map fun x => .tuple [E.D x.1, vd x]) rfl (fun i hi => ?_) (fun i hi => ?_) (fun H g => g _ _ ed) (fun i x H H' hi g y C C0 h1 h2 => ?_) (fun H ys g eD dp => ?_)
  · rw [List.length_map]
    have h1 := List.length_filter_le c (xs.take i)
    rw [List.length_take] at h1
    omega
  · refine nlAll_of _ fun z hz => ?_
    obtain ⟨x, hx, rfl⟩ := List.mem_map.mp hz
    have hx' := List.mem_of_mem_take (List.mem_filter.mp hx).1
    simp [nl, nlAll, keyable_nl _ (E.key x.1), (hv x hx').2]
  · obtain ⟨T, q1, v, rfl, hT, rfl, e1, e2⟩ := y
    have hx := List.getElem?_eq_getElem hi
    have e1' : Option.map (fun x : κ × Addr × V => V.ref x.2.1) xs[i]? = some q1 := e1
    have e2' : Option.map (fun x : κ × Addr × V => x.2.2) xs[i]? = some v := e2
    rw [hx] at e1' e2'
    cases e1'
    cases e2'
    have hm : xs[i] ∈ xs := List.getElem_mem hi
    generalize xs[i] = x at hx hm
    have gT : Gr H (upd H T (.tup [.ref x.2.1, x.2.2])) := Gr.new hT
    have kk : ∀ y d, nl d = true → Dp K H0 y d → Dp K (upd H T (.tup [.ref x.2.1, x.2.2])) y d := fun y d n h => Dp.gr gT _ _ (Dp.gr g _ _ (Dp.kt k01 _ _ n h))
    refine ⟨T, _, rfl, st_of upd_same, rfl, _, _, rfl, _, _, rfl, rfl, hw _ _, htt x hm _ _ kk fun H3 g3 => ite2 (fun cc => ?_) (fun cc => ?_)⟩
    · refine ⟨_, ha _ _, _, hb _ _, by show 2 ≤ sizeLine; decide, fun t ht => h1 _ (.tuple [E.D x.1, vd x]) _ ((gT.trans g3).more ht) ?_ ?_⟩
      · show ((xs.take (i + 1)).filter c).map _ = _
        rw [filter_take c hx, if_pos cc, List.map_append] <;> rfl
      · have gt : Gr H3 (upd H3 t (.tup [.ref x.2.1, x.2.2])) := Gr.new ht
        exact .tup (st_of upd_same) (.cons (Dp.gr gt _ _ (Dp.gr g3 _ _ (kk _ _ (keyable_nl _ (E.key x.1)) (hk x hm)))) (.cons (Dp.gr gt _ _ (Dp.gr g3 _ _ (kk _ _ (hv x hm).2 (hv x hm).1))) .nil))
    · refine h2 _ (gT.trans g3) ?_
      show ((xs.take (i + 1)).filter c).map _ = _
      rw [filter_take c hx, cc, if_neg Bool.false_ne_true, List.append_nil]
  · have edH := g _ _ ed
    have kp : Kt H (upd H d (kdO P w E d xs)) := Kt.putN fun zs z => by
      rcases z with z | ⟨o, z⟩
      · rw [edH] at z
        cases z
      · rw [edH] at z
        cases z
    refine ⟨edH, q D _ ys hD0 (fun z o e => ?_) (by rw [upd_ne Dd]; exact eD) ?_⟩
    · by_cases hz : z = d
      · subst hz
        rw [upd_same, ← hd]
        exact e
      · rw [upd_ne hz]
        refine g _ _ ?_
        rw [← eH1, upd_ne hz]
        exact e
    · rw [List.take_length] at dp
      refine DpAll.kt kp _ _ (nlAll_of _ fun z hz => ?_) dp
      obtain ⟨x, hx, rfl⟩ := List.mem_map.mp hz
      simp [nl, nlAll, keyable_nl _ (E.key x.1), (hv x (List.mem_filter.mp hx).1).2]
end
end K86
set_option Elab.async false
set_option linter.all false
set_option maxRecDepth 100000
set_option maxHeartbeats 4000000
/-! drawn polys and forms -/
namespace K86
open PySem PySem.Spec PyProof.Rows L2
theorem mem_putN {κ : Type} [DecidableEq κ] {xs : List (κ × Addr × V)} {k : κ} {a : Addr} {v : V} {x : κ × Addr × V} (h : x ∈ putN xs k a v) : (x.1 = k ∧ x.2.2 = v) ∨ x ∈ xs := by
  unfold putN at h
  split at h
  · obtain ⟨z, hz, e⟩ := List.mem_map.mp h
    split at e
    · subst e
      rename_i q
      exact .inl ⟨q, rfl⟩
    · subst e
      exact .inr hz
  · rcases List.mem_append.mp h with h | h
    · exact .inr h
    · rw [List.mem_singleton.mp h]
      exact .inl ⟨rfl, rfl⟩
def intOf : V → Int
  | .int i => i
  | _ => 0
section
variable {P : Program} {w : World} {K : PySem.W.Frag} {mg : Str → Option Value} {base : Heap}
def okP (l : List (Mo × Int)) : Prop := l.length ≤ 3 ∧ ∀ x ∈ l, okM x.1 ∧ x.2.natAbs < 10 ^ 40
def sp_law_poly (K : PySem.W.Frag) : Sp := fun vs H Q _ => ∃ (d : Addr) (n : Int), vs = [.ref d] ∧ Draw H d n ∧ n < 2 ^ 38 ∧
  ∀ (p : Addr) (H' : Hp) (l : List (Mo × Int)), GrBut d H H' → Draw H' d (n + 1000) → okP l → Dp K H' (.ref p) (polyD l) → Q (.ref p) H'
theorem b38 : (2 : Int) ^ 38 = 274877906944 := by decide
theorem sc_law_poly : FnScope ["_law_draw_here", "_law_found", "_law_k", "_law_mono_here", "_law_number_here"] ["_law_draw_here"] (defScope s_law_poly) := ⟨rfl, rfl, rfl, by decide +kernel, rfl, by decide +kernel, by decide +kernel⟩
theorem ok_law_poly (T : Tx K mg) (F_law_take : TakeF P w K mg base) (F_law_mono : Fn P w K mg base CX0 4 "_law_mono" ["_law_draw_here"] (sp_law_mono K)) (F_law_number : Fn P w K mg base CX0 3 "_law_number" ["_law_draw_here"] sp_law_number) : Fn P w K mg base CX0 5 "_law_poly" ["_law_draw_here"] (sp_law_poly K) := by
  refine Fn.of T.f_law_poly sc_law_poly (fun _ _ _ _ _ _ us hl => match us, hl with | [_], _ => rfl) (fun vs H Q E h => ?_) (fun f cdv A outer s H vs Q E hr h => ⟨_, PSs.nox (pss_cons (ps_set (i := 1) sc_law_poly.nd rfl (Or.inl rfl) (pe_dnewN eM))
  (pss_cons (ps_for PassesOwn.never rfl (pi_range1 (by rfl) T.b_range (pa_cons (pe_fn F_law_take (hr.mono (by omega)) (pa_cons (pv 0) (pa_cons pe_int pa_nil))) pa_nil)) (pg_name (i := 2) sc_law_poly.nd rfl (Or.inl rfl))
  (pss_one (ps_dputN eM hr.units (pv 1) (pe_fn F_law_mono (hr.mono (by omega)) (pa_cons (pv 0) pa_nil)) (pe_fn F_law_number (hr.mono (by omega)) (pa_cons (pv 0) pa_nil)) rfl)))
  (pss_one (ps_ret (pe_callTy call_tuple_of (by rfl) T.b_tuple (by decide +kernel) (pa_cons (pe_callB (cr_sortedDt hr.units) (by rfl) T.b_sorted (by decide +kernel) (pa_cons (pe_lock (pe_lc (own := [("_law_mono_here", 3), ("_law_number_here", 4)]) (g := (gTup K 2 (gCons (gName 3) (gCons (gName 4) gNil)))) (tt := _) (by rfl) sc_law_poly.nd (pi_itemsN eM (pv 1)) (blkOk_by (own := [("_law_mono_here", 3), ("_law_number_here", 4)]) (N := ["_law_draw_here", "_law_found", "_law_k", "_law_mono_here", "_law_number_here"]) (sc := defScope s_law_poly) (by decide +kernel)) (fun _ _ _ _ _ => (pg_tup rfl (pgs_cons (pg_name (i := 3) sc_law_poly.nd rfl (Or.inl rfl)) (pgs_cons (pg_name (i := 4) sc_law_poly.nd rfl (Or.inl rfl)) pgs_nil)))) (fun _ _ _ _ _ => (pts_one (pt_cmpR op_ne (pv 4) pe_int (nomark _)))) (fun _ _ _ _ _ => (pe_tup (pa_cons (pv 3) (pa_cons (pv 4) pa_nil)))))) pa_nil)) pa_nil)))))), ?_⟩)
  · obtain ⟨d, n, rfl, _⟩ := h
    rfl
  · obtain ⟨d, n, rfl, hd, hn, q⟩ := h
    rw [b38] at hn
    intro f hf
    have fd := hd.ne hf
    refine ⟨_, rfl, d, 4, n, rfl, by decide, by rw [b60]; decide, hd.upd fd, by rw [b60]; omega, fun r H1 r0 r1 g1 d1 => ⟨r, rfl, by rw [b62]; omega, by rw [b62]; omega, ?_⟩⟩
    have g0 : GrBut d H H1 := (Gr.new hf).thenBut g1
    refine for_range (lo := 0) (fun i σ Hh => GrBut d H Hh ∧ Draw Hh d (n + 1 + 210 * i) ∧ (∃ xs, Hh f = some (kdO P w eM f xs) ∧ xs.length ≤ i ∧ Keys eM K Hh xs ∧ ∀ x ∈ xs, okM x.1 ∧ ∃ v : Int, x.2.2 = .int v ∧ v.natAbs < 10 ^ 40) ∧ ∃ z, σ = [some (.ref d), some (.ref f), z, none, none]) ?_ (fun i σ Hh hi pv => ?_) (fun σ Hh pv => ?_)
    · exact ⟨g0, d1.mono (by omega), ⟨[], g1 _ _ upd_same fd, Nat.le_refl _, (fun x hx => by cases hx), (fun x hx => by cases hx)⟩, _, rfl⟩
    · obtain ⟨gh, dh, ⟨xs, ef, lx, kx, ox⟩, z, rfl⟩ := pv
      have hi3 : i ≤ 2 := by omega
      refine ⟨_, rfl, d, _, rfl, dh, by rw [b39]; omega, fun v H2 g2 d2 hv => ⟨_, rfl, _, rfl, d, _, rfl, d2, by rw [b39]; omega, fun p H3 l g3 d3 okl dl => ?_⟩⟩
      have g23 := g2.trans g3
      have ef3 := g23 _ _ ef fd
      have k3 : Kt Hh H3 := dh.kt g23
      have kput : Kt H3 (upd H3 f (kdO P w eM f (putN xs l p (.int v)))) := Kt.put (by rw [ef3]; exact kd_not)
      have kx3 : Keys eM K H3 xs := kx.kt k3
      refine ⟨f, xs, p, l, rfl, rfl, ef3, kx3, dl, Nat.lt_of_le_of_lt lx (Nat.lt_of_le_of_lt hi3 (by decide)), (gh.trans g23).mut hf, (d3.upd fd).mono (by omega), ⟨_, upd_same, Nat.le_trans (putN_length _ _ _ _) (by omega), (kx3.put dl).kt kput, fun x hx => ?_⟩, _, rfl⟩
      rcases mem_putN hx with ⟨e1, e2⟩ | hx
      · rw [e1]
        exact ⟨okl, v, e2, hv⟩
      · exact ox x hx
    · obtain ⟨gh, dh, ⟨xs, ef, lx, kx, ox⟩, z, rfl⟩ := pv
      have lx3 : xs.length ≤ 3 := by omega
      refine items_list ef (Nat.lt_of_le_of_lt lx3 (by decide)) kx (fun x => .int (intOf x.2.2)) (fun x hx => ?_) (fun x => !decide (x.2.2 = .int 0)) (fun od R h => ⟨_, rfl, h⟩) (fun _ _ => rfl) (fun _ _ => rfl) (fun _ _ => rfl) (fun x hx H2 C _ h => ?_) (fun D H2 ys hD g2 eD dD => ?_)
      · obtain ⟨_, v, e, _⟩ := ox x hx
        rw [e]
        exact ⟨.int v, by rw [nl]⟩
      · obtain ⟨_, v, e, _⟩ := ox x hx
        refine ⟨_, rfl, by rw [e] <;> rfl, _, rfl, ?_⟩
        exact h _ (Gr.rfl' _)
      · have eds : ((xs.filter fun x => !decide (x.2.2 = .int 0)).map fun x => PyData.tuple [eM.D x.1, .int (intOf x.2.2)]) = ((xs.filter fun x => !decide (x.2.2 = .int 0)).map fun x => (x.1, intOf x.2.2)).map termD := by
          rw [List.map_map] <;> rfl
        rw [eds] at dD
        refine ⟨D, ys, _, rfl, sl_of eD, dD, srtOk_term _, fun zs p H3 hp eH3 dz => ?_⟩
        subst eH3
        refine ⟨p, zs, rfl, .inl ⟨sl_of upd_same, fun t ht => ?_⟩⟩
        obtain ⟨l', pm, e⟩ := srt_map termD ((xs.filter fun x : Mo × Addr × V => !decide (x.2.2 = V.int 0)).map fun x : Mo × Addr × V => ((x.1, intOf x.2.2) : Mo × Int))
        rw [e] at dz
        have gp : Gr H2 (upd H2 p (.lst zs)) := Gr.new hp
        have d3 := ((dh.gr g2).gr gp).gr (Gr.new (o := .tup zs) ht)
        refine q t _ l' ((gh.trans ((g2.trans gp).more ht).but)) (d3.mono (by omega)) ⟨?_, fun x hx => ?_⟩ (.tup (st_of upd_same) (DpAll.gr (Gr.new ht) _ _ (DpAll.gr gp _ _ dz)))
        · have e1 := pm.length_eq
          have e2 := List.length_filter_le (fun x : Mo × Addr × V => !decide (x.2.2 = .int 0)) xs
          rw [List.length_map] at e1
          omega
        · obtain ⟨y, hy, rfl⟩ := List.mem_map.mp (pm.mem_iff.mp hx)
          obtain ⟨h1, v, e, h2⟩ := ox y (List.mem_filter.mp hy).1
          refine ⟨h1, ?_⟩
          show (intOf y.2.2).natAbs < _
          rw [e]
          exact h2
/-! ### forms -/
def okS (q : Int × Int) : Prop := q = (1, 1) ∨ q = (-1, 2) ∨ q = (7, 1) ∨ q = (5, 3) ∨ q = (-10 ^ 39, 7)
def okF (l : List (Kd × Int × Int)) : Prop := l.length ≤ 3 ∧ ∀ x ∈ l, okM x.1.1 ∧ (0 ≤ x.1.2.1 ∧ x.1.2.1 ≤ 99) ∧ (-4 ≤ x.1.2.2 ∧ x.1.2.2 ≤ 4) ∧ okS x.2
def sp_law_form (K : PySem.W.Frag) : Sp := fun vs H Q _ => ∃ (d : Addr) (n : Int), vs = [.ref d] ∧ Draw H d n ∧ n < 2 ^ 38 ∧
  ∀ (p : Addr) (H' : Hp) (l : List (Kd × Int × Int)), GrBut d H H' → Draw H' d (n + 1000) → okF l → Dp K H' (.ref p) (formD l) → Q (.ref p) H'
theorem sc_law_form : FnScope ["_law_draw_here", "_law_found", "_law_k", "_law_kind"] ["_law_draw_here"] (defScope s_law_form) := ⟨rfl, rfl, rfl, by decide +kernel, rfl, by decide +kernel, by decide +kernel⟩
theorem ok_law_form (T : Tx K mg) (F_law_take : TakeF P w K mg base) (F_law_mono : Fn P w K mg base CX0 4 "_law_mono" ["_law_draw_here"] (sp_law_mono K)) : Fn P w K mg base CX0 5 "_law_form" ["_law_draw_here"] (sp_law_form K) := by
  refine Fn.of T.f_law_form sc_law_form (fun _ _ _ _ _ _ us hl => match us, hl with | [_], _ => rfl) (fun vs H Q E h => ?_) (fun f cdv A outer s H vs Q E hr h => ⟨_, PSs.nox (pss_cons (ps_set (i := 1) sc_law_form.nd rfl (Or.inl rfl) (pe_dnewN eK))
  (pss_cons (ps_for PassesOwn.never rfl (pi_range1 (by rfl) T.b_range (pa_cons (pe_fn F_law_take (hr.mono (by omega)) (pa_cons (pv 0) (pa_cons pe_int pa_nil))) pa_nil)) (pg_name (i := 2) sc_law_form.nd rfl (Or.inl rfl))
  (pss_cons (ps_set (i := 3) sc_law_form.nd rfl (Or.inl rfl) (pe_tup (pa_cons (pe_fn F_law_mono (hr.mono (by omega)) (pa_cons (pv 0) pa_nil)) (pa_cons (pe_ix ix_list (pe_lst (pa_cons pe_int (pa_cons pe_int (pa_cons pe_int (pa_cons pe_int (pa_cons pe_int pa_nil)))))) (pe_fn F_law_take (hr.mono (by omega)) (pa_cons (pv 0) (pa_cons pe_int pa_nil))) (fun _ _ => rfl)) (pa_cons (pe_op op_sub (pe_fn F_law_take (hr.mono (by omega)) (pa_cons (pv 0) (pa_cons pe_int pa_nil))) pe_int) pa_nil)))))
  (pss_one (ps_dputN eK hr.units (pv 1) (pv 3) (pe_ix ix_list (pe_lst (pa_cons (pe_tup (pa_cons pe_int (pa_cons pe_int pa_nil))) (pa_cons (pe_tup (pa_cons (pe_un un_neg pe_int) (pa_cons pe_int pa_nil))) (pa_cons (pe_tup (pa_cons pe_int (pa_cons pe_int pa_nil))) (pa_cons (pe_tup (pa_cons pe_int (pa_cons pe_int pa_nil))) (pa_cons (pe_tup (pa_cons (pe_un un_neg (pe_op op_pow pe_int pe_int)) (pa_cons pe_int pa_nil))) pa_nil)))))) (pe_fn F_law_take (hr.mono (by omega)) (pa_cons (pv 0) (pa_cons pe_int pa_nil))) (fun _ _ => rfl)) rfl))))
  (pss_one (ps_ret (pe_callTy call_tuple_of (by rfl) T.b_tuple (by decide +kernel) (pa_cons (pe_sortI rfl hr.units (pv 1) T.b_sorted) pa_nil)))))), ?_⟩)
  · obtain ⟨d, n, rfl, _⟩ := h
    rfl
  · obtain ⟨d, n, rfl, hd, hn, q⟩ := h
    rw [b38] at hn
    intro f hf
    have fd := hd.ne hf
    refine ⟨_, rfl, d, 4, n, rfl, by decide, by rw [b60]; decide, hd.upd fd, by rw [b60]; omega, fun r H1 r0 r1 g1 d1 => ⟨r, rfl, by rw [b62]; omega, by rw [b62]; omega, ?_⟩⟩
    have g0 : GrBut d H H1 := (Gr.new hf).thenBut g1
    refine for_range (lo := 0) (fun i σ Hh => GrBut d H Hh ∧ Draw Hh d (n + 1 + 210 * i) ∧ (∃ xs, Hh f = some (kdO P w eK f xs) ∧ xs.length ≤ i ∧ Keys eK K Hh xs ∧ ∀ x ∈ xs, okM x.1.1 ∧ (0 ≤ x.1.2.1 ∧ x.1.2.1 ≤ 99) ∧ (-4 ≤ x.1.2.2 ∧ x.1.2.2 ≤ 4) ∧ ∃ (c : Addr) (s : Int × Int), x.2.2 = .ref c ∧ okS s ∧ Dp K Hh (.ref c) (shareD s)) ∧ ∃ z1 z2, σ = [some (.ref d), some (.ref f), z1, z2]) ?_ (fun i σ Hh hi pv => ?_) (fun σ Hh pv => ?_)
    · exact ⟨g0, d1.mono (by omega), ⟨[], g1 _ _ upd_same fd, Nat.le_refl _, (fun x hx => by cases hx), (fun x hx => by cases hx)⟩, _, _, rfl⟩
    · obtain ⟨gh, dh, ⟨xs, ef, lx, kx, ox⟩, z1, z2, rfl⟩ := pv
      have hi3 : i ≤ 2 := by omega
      refine ⟨_, rfl, d, _, rfl, dh, by rw [b39]; omega, fun p H3 l g3 d3 okl dl => ⟨by show 5 ≤ sizeLine; decide, fun b hb => ?_⟩⟩
      have bd := d3.ne hb
      refine ⟨_, rfl, d, 5, _, rfl, by decide, by rw [b60]; decide, d3.upd bd, by rw [b60]; omega, fun r2 H4 r20 r21 g4 d4 => ?_⟩
      obtain ⟨j, rfl⟩ := Int.eq_ofNat_of_zero_le r20
      have hj : j < 5 := by omega
      have eb := g4 _ _ (upd_same (H := H3) (a := b) (o := .lst [.int 0, .int 0, .int 1, .int 2, .int 99])) bd
      have at1 : ∃ i : Int, ([.int 0, .int 0, .int 1, .int 2, .int 99] : List V)[j]? = some (.int i) ∧ 0 ≤ i ∧ i ≤ 99 := by
        match j, hj with
        | 0, _ => exact ⟨_, rfl, by decide, by decide⟩
        | 1, _ => exact ⟨_, rfl, by decide, by decide⟩
        | 2, _ => exact ⟨_, rfl, by decide, by decide⟩
        | 3, _ => exact ⟨_, rfl, by decide, by decide⟩
        | 4, _ => exact ⟨_, rfl, by decide, by decide⟩
      obtain ⟨pl, epl, pl0, pl1⟩ := at1
      have g34 : GrBut d H3 H4 := (Gr.new hb).thenBut g4
      refine ⟨b, _, _, _, rfl, rfl, sl_of eb, atI_nat epl, _, rfl, d, 9, _, rfl, by decide, by rw [b60]; decide, d4, by rw [b60]; omega, fun r3 H5 r30 r31 g5 d5 => ⟨_, _, rfl, rfl, by show 3 ≤ sizeLine; decide, fun t ht => ?_⟩⟩
      have td := d5.ne ht
      have g35 : GrBut d H3 H5 := g34.trans g5
      have k35 : Kt H3 H5 := d3.kt g35
      have gt : Gr H5 (upd H5 t (.tup [.ref p, .int pl, .int (r3 - 4)])) := Gr.new ht
      have dkd : Dp K (upd H5 t (.tup [.ref p, .int pl, .int (r3 - 4)])) (.ref t) (kindD (l, pl, r3 - 4)) := .tup (st_of upd_same) (.cons (Dp.gr gt _ _ (Dp.kt k35 _ _ (nl_mono l) dl)) (.cons (.int _) (.cons (.int _) .nil)))
      have d6 : Draw (upd H5 t (.tup [.ref p, .int pl, .int (r3 - 4)])) d (n + 1 + 210 * i + 200 + 1 + 1) := d5.upd td
      have g06 : GrBut d H (upd H5 t (.tup [.ref p, .int pl, .int (r3 - 4)])) := ((gh.trans g3).trans g35).mut (((gh.trans g3).trans g35).free ht td)
      have ghh : GrBut d Hh (upd H5 t (.tup [.ref p, .int pl, .int (r3 - 4)])) := (g3.trans g35).trans gt.but
      generalize upd H5 t (.tup [.ref p, .int pl, .int (r3 - 4)]) = H6 at dkd d6 g06 ghh
      refine ⟨by show 2 ≤ sizeLine; decide, fun t1 h1 => ⟨_, rfl, by show 2 ≤ sizeLine; decide, fun t2 h2 => ⟨by show 2 ≤ sizeLine; decide, fun t3 h3 => ⟨by show 2 ≤ sizeLine; decide, fun t4 h4 => ⟨_, _, rfl, rfl, ⟨by decide, by decide, by decide⟩, _, rfl, by show 2 ≤ sizeLine; decide, fun t5 h5 => ⟨by show 5 ≤ sizeLine; decide, fun b2 hb2 => ?_⟩⟩⟩⟩⟩⟩
      have G1 := Gr.new (o := .tup [.int 1, .int 1]) h1
      have G2 := Gr.new (o := .tup [.int (-1), .int 2]) h2
      have G3 := Gr.new (o := .tup [.int 7, .int 1]) h3
      have G4 := Gr.new (o := .tup [.int 5, .int 3]) h4
      have G5 := Gr.new (o := .tup [.int (-(10 ^ (39 : Int).toNat)), .int 7]) h5
      have G6 := Gr.new (o := .lst [.ref t1, .ref t2, .ref t3, .ref t4, .ref t5]) hb2
      have e1 := G6 _ _ (G5 _ _ (G4 _ _ (G3 _ _ (G2 _ _ (upd_same (H := H6) (a := t1) (o := .tup [.int 1, .int 1]))))))
      have e2 := G6 _ _ (G5 _ _ (G4 _ _ (G3 _ _ (upd_same (a := t2) (o := .tup [.int (-1), .int 2])))))
      have e3 := G6 _ _ (G5 _ _ (G4 _ _ (upd_same (a := t3) (o := .tup [.int 7, .int 1]))))
      have e4 := G6 _ _ (G5 _ _ (upd_same (a := t4) (o := .tup [.int 5, .int 3])))
      have e5 := G6 _ _ (upd_same (a := t5) (o := .tup [.int (-(10 ^ (39 : Int).toNat)), .int 7]))
      have e6 := upd_same (a := b2) (o := .lst [.ref t1, .ref t2, .ref t3, .ref t4, .ref t5]) (H := upd (upd (upd (upd (upd H6 t1 (.tup [.int 1, .int 1])) t2 (.tup [.int (-1), .int 2])) t3 (.tup [.int 7, .int 1])) t4 (.tup [.int 5, .int 3])) t5 (.tup [.int (-(10 ^ (39 : Int).toNat)), .int 7]))
      have GG := ((((G1.trans G2).trans G3).trans G4).trans G5).trans G6
      have d7 := d6.gr GG
      refine ⟨_, rfl, d, 5, _, rfl, by decide, by rw [b60]; decide, d7, by rw [b60]; omega, fun r4 H8 r40 r41 g8 d8 => ?_⟩
      have k8 := d7.kt g8
      obtain ⟨j2, rfl⟩ := Int.eq_ofNat_of_zero_le r40
      have hj2 : j2 < 5 := by omega
      have b2d : b2 ≠ d := (d6.gr ((((G1.trans G2).trans G3).trans G4).trans G5)).ne hb2
      have sh : ∃ (c : Addr) (s : Int × Int), ([.ref t1, .ref t2, .ref t3, .ref t4, .ref t5] : List V)[j2]? = some (.ref c) ∧ okS s ∧ Dp K H8 (.ref c) (shareD s) := by
        match j2, hj2 with
        | 0, _ => exact ⟨t1, (1, 1), rfl, .inl rfl, Dp.kt k8 _ _ (nl_share _) (.tup (st_of e1) (.cons (.int _) (.cons (.int _) .nil)))⟩
        | 1, _ => exact ⟨t2, (-1, 2), rfl, .inr (.inl rfl), Dp.kt k8 _ _ (nl_share _) (.tup (st_of e2) (.cons (.int _) (.cons (.int _) .nil)))⟩
        | 2, _ => exact ⟨t3, (7, 1), rfl, .inr (.inr (.inl rfl)), Dp.kt k8 _ _ (nl_share _) (.tup (st_of e3) (.cons (.int _) (.cons (.int _) .nil)))⟩
        | 3, _ => exact ⟨t4, (5, 3), rfl, .inr (.inr (.inr (.inl rfl))), Dp.kt k8 _ _ (nl_share _) (.tup (st_of e4) (.cons (.int _) (.cons (.int _) .nil)))⟩
        | 4, _ => exact ⟨t5, (-10 ^ 39, 7), rfl, .inr (.inr (.inr (.inr rfl))), Dp.kt k8 _ _ (nl_share _) (.tup (st_of e5) (.cons (.int _) (.cons (.int _) .nil)))⟩
      obtain ⟨c, sv, ec, oks, dc⟩ := sh
      refine ⟨b2, _, _, _, rfl, rfl, sl_of (g8 _ _ e6 b2d), atI_nat ec, _, rfl, _, rfl, ?_⟩
      have gh8 : GrBut d Hh H8 := (ghh.trans GG.but).trans g8
      have ef8 := gh8 _ _ ef fd
      have k8h : Kt Hh H8 := dh.kt gh8
      have kput : Kt H8 (upd H8 f (kdO P w eK f (putN xs (l, pl, r3 - 4) t (.ref c)))) := Kt.put (by rw [ef8]; exact kd_not)
      have dk8 : Dp K H8 (.ref t) (kindD (l, pl, r3 - 4)) := Dp.kt k8 _ _ (nl_kind _) (Dp.gr GG _ _ dkd)
      have kx8 : Keys eK K H8 xs := kx.kt k8h
      refine ⟨f, xs, t, (l, pl, r3 - 4), rfl, rfl, ef8, kx8, dk8, Nat.lt_of_le_of_lt lx (Nat.lt_of_le_of_lt hi3 (by decide)), ((g06.trans GG.but).trans g8).mut hf, (d8.upd fd).mono (by omega), ⟨_, upd_same, Nat.le_trans (putN_length _ _ _ _) (by omega), (kx8.put dk8).kt kput, fun x hx => ?_⟩, _, _, rfl⟩
      rcases mem_putN hx with ⟨e1, e2⟩ | hx
      · rw [e1]
        exact ⟨okl, ⟨pl0, pl1⟩, ⟨by show -4 ≤ r3 - 4; omega, by show r3 - 4 ≤ 4; omega⟩, c, sv, e2, oks, Dp.kt kput _ _ (nl_share _) dc⟩
      · obtain ⟨o1, o2, o3, c2, s2, o4, o5, o6⟩ := ox x hx
        exact ⟨o1, o2, o3, c2, s2, o4, o5, Dp.kt kput _ _ (nl_share _) (Dp.kt k8h _ _ (nl_share _) o6)⟩
    · obtain ⟨gh, dh, ⟨xs, ef, lx, kx, ox⟩, z1, z2, rfl⟩ := pv
      have lx3 : xs.length ≤ 3 := by omega
      -- the shares by the entries
      have sel : ∃ l : List (Kd × Int × Int), l.length = xs.length ∧ Paired (PairDt K Hh) (xs.map fun x => (V.ref x.2.1, x.2.2)) (l.map fermD) ∧ ∀ x ∈ l, okM x.1.1 ∧ (0 ≤ x.1.2.1 ∧ x.1.2.1 ≤ 99) ∧ (-4 ≤ x.1.2.2 ∧ x.1.2.2 ≤ 4) ∧ okS x.2 := by
        clear lx lx3 ef
        induction xs with
        | nil => exact ⟨[], rfl, .nil, by simp⟩
        | cons x xs ih =>
          obtain ⟨l, e1, e2, e3⟩ := ih (fun y hy => kx y (List.mem_cons_of_mem _ hy)) (fun y hy => ox y (List.mem_cons_of_mem _ hy))
          obtain ⟨o1, o2, o3, c2, s2, o4, o5, o6⟩ := ox x List.mem_cons_self
          refine ⟨(x.1, s2) :: l, by rw [List.length_cons, List.length_cons, e1], .cons ⟨_, _, rfl, kx x List.mem_cons_self, ?_⟩ e2, fun y hy => ?_⟩
          · show Dp K Hh x.2.2 _
            rw [o4]
            exact o6
          · rcases List.mem_cons.mp hy with e | hy
            · rw [e]
              exact ⟨o1, o2, o3, o5⟩
            · exact e3 y hy
      obtain ⟨l, ll, pl, ol⟩ := sel
      refine ⟨_, rfl, f, _, _, rfl, hasPairs_N ef, pl, srtOk_ferm l, fun p H2 ys hp g2 ep dp => ⟨p, ys, rfl, .inl ⟨sl_of ep, fun t ht => ?_⟩⟩⟩
      obtain ⟨l', pm, e⟩ := srt_map fermD l
      rw [e] at dp
      refine q t _ l' (gh.trans (g2.more ht).but) (((dh.gr g2).gr (Gr.new ht)).mono (by omega)) ⟨?_, fun x hx => ol x (pm.mem_iff.mp hx)⟩ (.tup (st_of upd_same) (DpAll.gr (Gr.new ht) _ _ dp))
      have := pm.length_eq
      omega
end
end K86
set_option Elab.async false
set_option linter.all false
set_option maxRecDepth 100000
set_option maxHeartbeats 4000000
/-! words_of; the law's words -/
namespace K86
open PySem PySem.Spec PyProof.Rows L2
section
variable {P : Program} {w : World} {K : PySem.W.Frag} {mg : Str → Option Value} {base : Heap}
theorem in_strs (y : Str) : ∀ ys : List Str, inV (.str y) (ys.map V.str) = decide (y ∈ ys)
  | [] => rfl
  | z :: zs => by
    have ih := in_strs y zs
    unfold inV at ih ⊢
    rw [List.map_cons, List.any_cons, ih, Bool.eq_iff_iff]
    simp only [eqV, Bool.or_eq_true, beq_iff_eq, decide_eq_true_eq, List.mem_cons]
    exact or_congr eq_comm Iff.rfl
theorem flat_strs (ys : List Str) : (ys.map V.str).all flatV = true := by
  rw [List.all_eq_true]
  intro x hx
  obtain ⟨y, _, rfl⟩ := List.mem_map.mp hx
  rfl
def blank : Str := " "
/-- the words of a row -/
def wordsOf (z : Str) : List Str := Txt.split z ⟨#[32]⟩
def sp_words_of : Sp := fun vs H Q _ => ∃ z : Str, vs = [.str z] ∧ z.length + 2 ≤ sizeLine ∧ (Str.empty ∈ wordsOf z → ∀ H', Gr H H' → Q .non H') ∧
  (Str.empty ∉ wordsOf z → ∀ p H', Gr H H' → H' p = some (.lst ((wordsOf z).map V.str)) → Q (.ref p) H')
theorem sc_words_of : FnScope ["row", "found"] ["row"] (defScope s_words_of) := ⟨rfl, rfl, rfl, by decide +kernel, rfl, by decide +kernel, by decide +kernel⟩
theorem ok_words_of (T : Tx K mg) : Fn P w K mg base CX0 1 "words_of" ["row"] sp_words_of := by
  refine Fn.of T.f_words_of sc_words_of (fun _ _ _ _ _ _ us hl => match us, hl with | [_], _ => rfl) (fun vs H Q E h => ?_) (fun f cdv A outer s H vs Q E hr h => ⟨_, PSs.nox (pss_cons (ps_if (pt_not (pt_val (pe_callB call_isi (by rfl) T.b_isinstance (by decide +kernel) (pa_cons (pv 0) (pa_cons (pe_bltn (by rfl) T.b_str (v := .ty "str") (u := .type "str") (by decide +kernel) (by rfl)) pa_nil))))) (pss_one (ps_ret pe_non)) pss_nil)
  (pss_cons (ps_set (i := 1) sc_words_of.nd rfl (Or.inl rfl) (pe_split (pv 0) pe_str))
  (pss_cons (ps_if (pt_cmpR op_in_seq pe_str (pv 1) (by rfl)) (pss_one (ps_ret pe_non)) pss_nil)
  (pss_one (ps_ret (pv 1)))))), ?_⟩)
  · obtain ⟨z, rfl, _⟩ := h
    rfl
  · obtain ⟨z, rfl, hz, q1, q2⟩ := h
    refine ⟨_, rfl, _, _, .type "str", .type "str", true, rfl, .ty "str", .base (.str z), kit_str, true, rfl, ?_⟩
    refine iteF rfl ?_
    refine ⟨_, rfl, ⟨z, rfl⟩, z, _, rfl, rfl, rfl, hz, fun p hp => ?_⟩
    have e : Txt.split z " " = wordsOf z := rfl
    rw [e]
    refine ⟨_, rfl, p, _, rfl, .inl (sl_of upd_same), rfl, flat_strs _, _, rfl, ?_⟩
    rw [show (V.str "" : V) = V.str Str.empty from rfl, in_strs]
    refine ite2 (fun c => ?_) (fun c => ?_)
    · exact q1 (dT c) _ (Gr.new hp)
    · exact ⟨_, rfl, q2 (dF c) p _ (Gr.new hp) upd_same⟩
/-! ### the law's words -/
/-- the signs that are not so -/
def odd (f : Nat → Bool) (z : Str) (i : Nat) : List Nat := ((tl z).take i).filter fun c => !f c
def sgn (l : List Nat) : List V := l.map fun c => V.str ⟨#[c]⟩
theorem odd_snoc {f : Nat → Bool} {z : Str} {i c : Nat} (h : z.cps[i]? = some c) : odd f z (i + 1) = odd f z i ++ (if f c = true then [] else [c]) := by
  have h' : (tl z)[i]? = some c := by
    show z.cps.toList[i]? = some c
    rw [Array.getElem?_toList]
    exact h
  unfold odd
  rw [take_snoc h', List.filter_append]
  cases q : f c <;> simp [q]
theorem odd_len {f : Nat → Bool} {z : Str} {i : Nat} (hi : i < z.cps.size) (hz : z.length ≤ sizeLine) : (sgn (odd f z i)).length < sizeLine := by
  unfold sgn odd
  rw [List.length_map]
  have h1 := List.length_filter_le (fun c => !f c) ((tl z).take i)
  rw [List.length_take] at h1
  have : (tl z).length = z.length := (len_tl z).symm
  have h2 : z.length = z.cps.size := rfl
  omega
theorem odd_all {f : Nat → Bool} {z : Str} : odd f z z.cps.size = (tl z).filter fun c => !f c := by
  unfold odd
  rw [List.take_of_length_le (by show z.cps.toList.length ≤ _; simp)]
theorem none_odd {f : Nat → Bool} (l : List Nat) : decide ((l.filter fun c => !f c) = []) = l.all f := by
  rw [Bool.eq_iff_iff]
  simp [List.filter_eq_nil_iff]
theorem sgn_data {K : PySem.W.Frag} {H : Hp} : ∀ l : List Nat, DpAll K H (sgn l) (l.map fun c => PyData.str ⟨#[c]⟩)
  | [] => .nil
  | c :: r => .cons (.str _) (sgn_data r)
theorem eqv_nil (ds : List PyData) : PyData.eqv (.list ds) (.list []) = decide (ds = []) := by
  cases ds <;> simp [PyData.eqv, PyData.eqvAll]
/-- plain signs only -/
def asc (z : Str) : Prop := ∀ c ∈ tl z, c < 128
theorem strOk_asc {z : Str} (h : asc z) : PyData.strOk z = true := by
  unfold PyData.strOk
  first
  | (rw [← Array.all_toList, List.all_eq_true]
     intro c hc
     have := h c hc
     simp
     omega)
  | (rw [Array.all_eq_true]
     intro i hi
     have := h _ (Array.getElem_mem_toList hi)
     simp
     omega)
theorem depthAll_strs : ∀ l : List Str, PyData.depthAll (l.map PyData.str) = 0
  | [] => by simp [PyData.depthAll]
  | z :: l => by
    rw [List.map_cons, PyData.depthAll, depthAll_strs l]
    simp [PyData.depth]
theorem canLay_strs : ∀ l : List Str, (∀ z ∈ l, asc z) → PyData.canLayAll0 (l.map PyData.str) = true
  | [], _ => by simp [PyData.canLayAll0]
  | z :: l, h => by
    rw [List.map_cons, PyData.canLayAll0, canLay_strs l (fun y hy => h y (List.mem_cons_of_mem _ hy)), PyData.canLay0, strOk_asc (h z List.mem_cons_self)]
    rfl
theorem shaped_strs {l : List Str} (h : ∀ z ∈ l, asc z) : SeqAt.shaped (.list (l.map PyData.str)) = true := by
  unfold SeqAt.shaped
  rw [PyData.canLay0, canLay_strs l h, PyData.depth, depthAll_strs] <;> rfl
theorem asc_one {c : Nat} (h : c < 128) : asc ⟨#[c]⟩ := fun d hd => by
  have : d = c := by simpa [TL.tl] using hd
  omega
theorem sgn_map (l : List Nat) : (l.map fun c => PyData.str ⟨#[c]⟩) = (l.map fun c => (⟨#[c]⟩ : Str)).map PyData.str := by
  rw [List.map_map] <;> rfl
theorem shaped_nil : SeqAt.shaped (.list []) = true := by decide
def sp_wordB (f : List Nat → Bool) : Sp := fun vs H Q _ => ∃ z : Str, vs = [.str z] ∧ z.length ≤ sizeLine ∧ asc z ∧ ∀ H', Gr H H' → Q (.bl (f (tl z))) H'
theorem sc_law_is_name : FnScope ["_law_word", "_law_sign"] ["_law_word"] (defScope s_law_is_name) := ⟨rfl, rfl, rfl, by decide +kernel, rfl, by decide +kernel, by decide +kernel⟩
theorem ok_law_is_name (T : Tx K mg) : Fn P w K mg base CX0 1 "_law_is_name" ["_law_word"] (sp_wordB nameL) := by
  refine Fn.of T.f_law_is_name sc_law_is_name (fun _ _ _ _ _ _ us hl => match us, hl with | [_], _ => rfl) (fun vs H Q E h => ?_) (fun f cdv A outer s H vs Q E hr h => ⟨_, PSs.nox (pss_one (ps_ret (pe_and (pe_chain op_le op_le pe_int (pe_callB call_len_str (by rfl) T.b_len (by decide +kernel) (pa_cons (pv 0) pa_nil)) pe_int) (pe_one (pe_cmpR (op_eqD hr.units) (pe_lc (own := [("_law_sign", 1)]) (g := (gName 1)) (tt := _) (by rfl) sc_law_is_name.nd (pi_str (pv 0)) (blkOk_by (own := [("_law_sign", 1)]) (N := ["_law_word", "_law_sign"]) (sc := defScope s_law_is_name) (by decide +kernel)) (fun _ _ _ _ _ => (pg_name (i := 1) sc_law_is_name.nd rfl (Or.inl rfl))) (fun _ _ _ _ _ => (pts_one (pt_cmpR op_notIn_sign (pv 1) pe_str (by rfl)))) (fun _ _ _ _ _ => (pv 1))) (pe_lst pa_nil) (nomark _)))))), ?_⟩)
  · obtain ⟨z, rfl, _⟩ := h
    rfl
  · obtain ⟨z, rfl, hz, ha, q⟩ := h
    have hl : z.length = (tl z).length := len_tl z
    refine ⟨_, rfl, z, rfl, hz, _, _, rfl, rfl, _, rfl, ?_⟩
    refine ite2 (fun c1 => ?_) (fun c1 => ?_)
    · refine ⟨_, _, rfl, rfl, _, rfl, ?_⟩
      refine ite2 (fun c2 => ?_) (fun c2 => ?_)
      · refine ⟨_, rfl, z, rfl, fun D hD => lc_gr walk_str hD (fun i => sgn (odd lowC z i)) rfl (fun i hi => odd_len hi hz) (fun _ _ => trivial) (fun i x H1 H2 hi g1 y C C0 h1 h2 => ?_) (fun H1 g1 e1 => ?_)⟩
        · obtain ⟨rfl, c, hc, rfl⟩ := y
          refine ⟨rfl, _, rfl, c, _, rfl, rfl, _, rfl, ?_⟩
          rw [low_mem]
          refine ite2 (fun c3 => ?_) (fun c3 => ?_)
          · refine ⟨_, rfl, h1 _ _ (Gr.rfl' _) ?_⟩
            have c3' : lowC c = false := by simpa using c3
            show sgn (odd lowC z (i + 1)) = _
            rw [odd_snoc hc, c3']
            unfold sgn
            rw [List.map_append] <;> rfl
          · refine h2 _ (Gr.rfl' _) ?_
            have c3' : lowC c = true := by simpa using c3
            show sgn (odd lowC z (i + 1)) = _
            rw [odd_snoc hc, c3', if_pos rfl, List.append_nil]
        · rw [odd_all] at e1
          refine ⟨by show 0 ≤ sizeLine; omega, fun p hp => ?_⟩
          refine ⟨_, _, .lst (sl_of (by rw [upd_ne (ne_of_none e1 hp)]; exact e1)) (sgn_data _), .lst (sl_of upd_same) .nil, ?_, shaped_nil, ?_⟩
          · rw [sgn_map]
            refine shaped_strs fun y hy => ?_
            obtain ⟨c, hc, rfl⟩ := List.mem_map.mp hy
            exact asc_one (ha c (List.mem_filter.mp hc).1)
          · rw [eqv_nil]
            have e : nameL (tl z) = decide ((((tl z).filter fun c => !lowC c).map fun c => PyData.str ⟨#[c]⟩) = []) := by
              unfold nameL
              rw [decide_eq_true (p := 1 ≤ (tl z).length) (by have := dT c1; omega), decide_eq_true (p := (tl z).length ≤ 8) (by have := dT c2; omega), ← none_odd]
              simp
            exact e ▸ q _ (g1.more hp)
      · have e : nameL (tl z) = false := by
          unfold nameL
          rw [decide_eq_false (p := (tl z).length ≤ 8) (by have := dF c2; omega)]
          simp
        exact e ▸ q H (Gr.rfl' H)
    · have e : nameL (tl z) = false := by
        unfold nameL
        rw [decide_eq_false (p := 1 ≤ (tl z).length) (by have := dF c1; omega)]
        simp
      refine ⟨false, rfl, iteF rfl ?_⟩
      exact e ▸ q H (Gr.rfl' H)
end
end K86
set_option Elab.async false
set_option linter.all false
set_option maxRecDepth 100000
set_option maxHeartbeats 4000000
/-! the law's figures and numbers -/
namespace K86
open PySem PySem.Spec PyProof.Rows L2
section
variable {P : Program} {w : World} {K : PySem.W.Frag} {mg : Str → Option Value} {base : Heap}
theorem sc_law_figures : FnScope ["_law_word", "_law_good", "_law_sign"] ["_law_word"] (defScope s_law_figures) := ⟨rfl, rfl, rfl, by decide +kernel, rfl, by decide +kernel, by decide +kernel⟩
theorem ok_law_figures (T : Tx K mg) : Fn P w K mg base CX0 1 "_law_figures" ["_law_word"] (sp_wordB figL) := by
  refine Fn.of T.f_law_figures sc_law_figures (fun _ _ _ _ _ _ us hl => match us, hl with | [_], _ => rfl) (fun vs H Q E h => ?_) (fun f cdv A outer s H vs Q E hr h => ⟨_, PSs.nox (pss_cons (ps_set (i := 1) sc_law_figures.nd rfl (Or.inl rfl) (pe_cut (pe_and (pe_cmpR (op_eqD hr.units) (pe_lc (own := [("_law_sign", 2)]) (g := (gName 2)) (tt := _) (by rfl) sc_law_figures.nd (pi_str (pv 0)) (blkOk_by (own := [("_law_sign", 2)]) (N := ["_law_word", "_law_good", "_law_sign"]) (sc := defScope s_law_figures) (by decide +kernel)) (fun _ _ _ _ _ => (pg_name (i := 2) sc_law_figures.nd rfl (Or.inl rfl))) (fun _ _ _ _ _ => (pts_one (pt_cmpR op_notIn_sign (pv 2) pe_str (by rfl)))) (fun _ _ _ _ _ => (pv 2))) (pe_lst pa_nil) (nomark _)) (pe_one (pe_chain op_le op_le pe_int (pe_callB call_len_str (by rfl) T.b_len (by decide +kernel) (pa_cons (pv 0) pa_nil)) pe_int)))))
  (pss_one (ps_ret (pe_and (pv 1) (pe_one (pe_or (pe_cmpR op_eq (pe_callB call_len_str (by rfl) T.b_len (by decide +kernel) (pa_cons (pv 0) pa_nil)) pe_int (nomark _)) (pe_one (pe_cmpR op_ne (pe_ix ix_str (pv 0) pe_int (fun _ _ => rfl)) pe_str (nomark _))))))))), ?_⟩)
  · obtain ⟨z, rfl, _⟩ := h
    rfl
  · obtain ⟨z, rfl, hz, ha, q⟩ := h
    have hl : z.length = (tl z).length := len_tl z
    refine ⟨fun v H' => v = .bl (figs (tl z)) ∧ Gr H H', ?_, ?_⟩
    · refine ⟨_, rfl, z, rfl, fun D hD => lc_gr walk_str hD (fun i => sgn (odd figC z i)) rfl (fun i hi => odd_len hi hz) (fun _ _ => trivial) (fun i x H1 H2 hi g1 y C C0 h1 h2 => ?_) (fun H1 g1 e1 => ?_)⟩
      · obtain ⟨rfl, c, hc, rfl⟩ := y
        refine ⟨rfl, _, rfl, c, _, rfl, rfl, _, rfl, ?_⟩
        rw [fig_mem]
        refine ite2 (fun c3 => ?_) (fun c3 => ?_)
        · refine ⟨_, rfl, h1 _ _ (Gr.rfl' _) ?_⟩
          have c3' : figC c = false := by simpa using c3
          show sgn (odd figC z (i + 1)) = _
          rw [odd_snoc hc, c3']
          unfold sgn
          rw [List.map_append] <;> rfl
        · refine h2 _ (Gr.rfl' _) ?_
          have c3' : figC c = true := by simpa using c3
          show sgn (odd figC z (i + 1)) = _
          rw [odd_snoc hc, c3', if_pos rfl, List.append_nil]
      · rw [odd_all] at e1
        refine ⟨by show 0 ≤ sizeLine; omega, fun p hp => ?_⟩
        refine ⟨_, _, .lst (sl_of (by rw [upd_ne (ne_of_none e1 hp)]; exact e1)) (sgn_data _), .lst (sl_of upd_same) .nil, ?_, shaped_nil, ?_⟩
        · rw [sgn_map]
          refine shaped_strs fun y hy => ?_
          obtain ⟨c, hc, rfl⟩ := List.mem_map.mp hy
          exact asc_one (ha c (List.mem_filter.mp hc).1)
        · rw [eqv_nil]
          have e0 : decide ((((tl z).filter fun c => !figC c).map fun c => PyData.str ⟨#[c]⟩) = []) = (tl z).all figC := by
            rw [← none_odd]
            exact decide_eq_decide.mpr List.map_eq_nil_iff
          rw [e0]
          have g2 := g1.more (o := .lst []) hp
          refine ⟨_, rfl, ite2 (fun c1 => ?_) (fun c1 => ?_)⟩
          · refine ⟨_, rfl, z, rfl, hz, _, _, rfl, rfl, _, rfl, ite2 (fun c2 => ?_) (fun c2 => ?_)⟩
            · refine ⟨_, _, rfl, rfl, ?_, g2⟩
              unfold figs
              rw [c1, decide_eq_true (p := 1 ≤ (tl z).length) (by have := dT c2; omega)]
              simp only [Bool.true_and, Bool.and_true]
              congr 1
              exact decide_eq_decide.mpr (by omega)
            · refine ⟨?_, g2⟩
              unfold figs
              rw [decide_eq_false (p := 1 ≤ (tl z).length) (by have := dF c2; omega)]
              simp
          · refine ⟨?_, g2⟩
            unfold figs
            rw [c1]
            simp
    rintro v H' ⟨rfl, g⟩
    refine ⟨_, rfl, _, rfl, ite2 (fun c => ?_) (fun c => ?_)⟩
    · obtain ⟨a, r, ea⟩ : ∃ a r, tl z = a :: r := by
        cases h0 : tl z with
        | nil => rw [h0] at c; exact absurd c (by decide)
        | cons a r => exact ⟨a, r, rfl⟩
      have hat : atI z.cps.toList 0 = some a := by
        show atI (tl z) 0 = some a
        rw [ea]
        exact atI_nat (j := 0) rfl
      refine ⟨_, rfl, z, rfl, hz, rfl, _, rfl, ite2 (fun c2 => ?_) (fun c2 => ?_)⟩
      · have e : figL (tl z) = true := by
          unfold figL
          have h1 : (tl z).length = 1 := by
            have := V.int.inj (dT c2)
            omega
          rw [c, h1] <;> rfl
        exact e ▸ q _ g
      · refine ⟨_, rfl, z, 0, a, rfl, rfl, hz, hat, rfl, ?_⟩
        have e1 : decide (V.str ⟨#[a]⟩ = V.str "0") = decide (a = 48) := by
          refine decide_eq_decide.mpr ⟨fun z => ?_, fun z => by rw [z] <;> rfl⟩
          have z1 := congrArg tl (V.str.inj z)
          have z2 : [a] = [48] := z1
          simpa using z2
        rw [e1]
        have e : figL (tl z) = !decide (a = 48) := by
          unfold figL
          have h1 : ¬ (tl z).length = 1 := fun h1 => dF c2 (by rw [hl, h1] <;> rfl)
          rw [c, decide_eq_false h1, ea]
          simp
        exact e ▸ q _ g
    · have e : figL (tl z) = false := by
        unfold figL
        rw [c] <;> rfl
      exact e ▸ q _ g
theorem sc_law_is_number : FnScope ["_law_word"] ["_law_word"] (defScope s_law_is_number) := ⟨rfl, rfl, rfl, by decide +kernel, rfl, by decide +kernel, by decide +kernel⟩
theorem asc_cut {z : Str} {lo hi : Option Int} (h : asc z) : asc (cutS z lo hi) := fun c hc => h c (List.mem_of_mem_drop (List.mem_of_mem_take hc))
theorem len_cut {z : Str} {lo hi : Option Int} : (cutS z lo hi).length ≤ z.length := by
  rw [len_tl, len_tl, tl_cut, List.length_take, List.length_drop]
  omega
theorem ok_law_is_number (T : Tx K mg) (F_law_figures : Fn P w K mg base CX0 1 "_law_figures" ["_law_word"] (sp_wordB figL)) : Fn P w K mg base CX0 2 "_law_is_number" ["_law_word"] (sp_wordB numL) := by
  refine Fn.of T.f_law_is_number sc_law_is_number (fun _ _ _ _ _ _ us hl => match us, hl with | [_], _ => rfl) (fun vs H Q E h => ?_) (fun f cdv A outer s H vs Q E hr h => ⟨_, PSs.nox (pss_one (ps_ret (pe_or (pe_fn F_law_figures (hr.mono (by omega)) (pa_cons (pv 0) pa_nil)) (pe_one (pe_and (pe_cmpR op_eq (pe_slice sl_str (pv 0) po_none (po_some pe_int)) pe_str (nomark _)) (pe_and (pe_fn F_law_figures (hr.mono (by omega)) (pa_cons (pe_slice sl_str (pv 0) (po_some pe_int) po_none) pa_nil)) (pe_one (pe_cmpR op_ne (pv 0) pe_str (nomark _))))))))), ?_⟩)
  · obtain ⟨z, rfl, _⟩ := h
    rfl
  · obtain ⟨z, rfl, hz, ha, q⟩ := h
    refine ⟨_, rfl, z, rfl, hz, ha, fun H1 g1 => ⟨_, rfl, ite2 (fun c => ?_) (fun c => ?_)⟩⟩
    · have e : numL (tl z) = true := by
        unfold numL
        rw [c] <;> rfl
      exact e ▸ q _ g1
    · refine ⟨_, rfl, 1, rfl, z, rfl, hz, rfl, _, rfl, ?_⟩
      have e1 : decide (V.str (cutS z none (some 1)) = V.str "-") = decide ((tl z).head? = some 45) := by
        refine decide_eq_decide.mpr ⟨fun h => ?_, fun h => ?_⟩
        · have z1 := congrArg tl (V.str.inj h)
          rw [tl_to1] at z1
          have z2 : (tl z).take 1 = [45] := z1
          cases q : tl z with
          | nil => rw [q] at z2; simp at z2
          | cons a b => rw [q] at z2; simpa using z2
        · have : cutS z none (some 1) = "-" := str_eq.mpr (by
            rw [tl_to1]
            obtain ⟨r, er⟩ := head_eq.mp h
            rw [er] <;> rfl)
          rw [this]
      rw [e1]
      refine ite2 (fun c1 => ?_) (fun c1 => ?_)
      · refine ⟨_, rfl, 1, rfl, z, rfl, hz, _, rfl, Nat.le_trans len_cut hz, asc_cut ha, fun H2 g2 => ⟨_, rfl, ?_⟩⟩
        rw [tl_from1]
        refine ite2 (fun c2 => ?_) (fun c2 => ?_)
        · refine ⟨_, rfl, rfl, ?_⟩
          have e2 : (!decide (V.str z = V.str "-0")) = !decide (tl z = [45, 48]) := by
            congr 1
            refine decide_eq_decide.mpr ⟨fun h => congrArg tl (V.str.inj h), fun h => by rw [show z = "-0" from str_eq.mpr h]⟩
          rw [e2]
          have e : numL (tl z) = !decide (tl z = [45, 48]) := by
            unfold numL
            rw [c, c1, c2] <;> rfl
          exact e ▸ q _ (g1.trans g2)
        · have e : numL (tl z) = false := by
            unfold numL
            rw [c, c2]
            simp
          exact e ▸ q _ (g1.trans g2)
      · have e : numL (tl z) = false := by
          unfold numL
          rw [c, c1] <;> rfl
        exact e ▸ q _ g1
end
end K86
set_option Elab.async false
set_option linter.all false
set_option maxRecDepth 100000
set_option maxHeartbeats 4000000
/-! the makers of texts: terms, polys, forms -/
namespace K86
open PySem PySem.Spec PyProof.Rows L2
/-- plain signs, at most n of them, at most b blanks -/
structure Tt (z : Str) (n b : Nat) : Prop where
  a : asc z
  l : z.length ≤ n
  k : (tl z).count 32 ≤ b
theorem Tt.mono {z : Str} {n b m c : Nat} (h : Tt z n b) (h1 : n ≤ m) (h2 : b ≤ c) : Tt z m c := ⟨h.a, Nat.le_trans h.l h1, Nat.le_trans h.k h2⟩
theorem tl_app (x y : Str) : tl (x ++ y) = tl x ++ tl y := TL.tl_append x y
theorem Tt.app {x y : Str} {n b m c : Nat} (h : Tt x n b) (g : Tt y m c) : Tt (x ++ y) (n + m) (b + c) := by
  refine ⟨fun d hd => ?_, ?_, ?_⟩
  · rw [tl_app] at hd
    rcases List.mem_append.mp hd with hd | hd
    · exact h.a d hd
    · exact g.a d hd
  · rw [len_tl, tl_app, List.length_append, ← len_tl, ← len_tl]
    exact Nat.add_le_add h.l g.l
  · rw [tl_app, List.count_append]
    exact Nat.add_le_add h.k g.k
theorem joinL_cons (S p : List Nat) (q : List Nat) (r : List (List Nat)) : TL.joinL S (p :: q :: r) = p ++ (S ++ TL.joinL S (q :: r)) := rfl
theorem tl_joinT (y : Str) (ps : List Str) : tl (Txt.join y ps) = TL.joinL (tl y) (ps.map tl) := by
  rw [TL.join_eq]
  exact TL.tl_join y ps
theorem Tt.join {y : Str} {m c n b : Nat} (hy : Tt y m c) : ∀ {ps : List Str}, (∀ p ∈ ps, Tt p n b) → Tt (Txt.join y ps) (ps.length * (n + m)) (ps.length * b + (ps.length - 1) * c)
  | [], _ => by
    have e : tl (Txt.join y []) = [] := by
      rw [tl_joinT]
      rfl
    refine ⟨fun d hd => ?_, ?_, ?_⟩
    · rw [e] at hd
      cases hd
    · rw [len_tl, e]
      exact Nat.zero_le _
    · rw [e]
      exact Nat.zero_le _
  | [p], h => by
    have hp := h p List.mem_cons_self
    have e : tl (Txt.join y [p]) = tl p := by
      rw [tl_joinT]
      rfl
    refine ⟨fun d hd => by rw [e] at hd; exact hp.a d hd, ?_, ?_⟩
    · rw [len_tl, e, ← len_tl]
      have := hp.l
      simp
      omega
    · rw [e]
      have := hp.k
      simp only [List.length_singleton, Nat.one_mul, Nat.sub_self, Nat.zero_mul, Nat.add_zero]
      exact this
  | p :: q :: r, h => by
    have hp := h p List.mem_cons_self
    have ih := Tt.join hy (ps := q :: r) fun z hz => h z (List.mem_cons_of_mem _ hz)
    have e : tl (Txt.join y (p :: q :: r)) = tl p ++ (tl y ++ tl (Txt.join y (q :: r))) := by
      rw [tl_joinT, tl_joinT, List.map_cons, List.map_cons, joinL_cons]
    refine ⟨fun d hd => ?_, ?_, ?_⟩
    · rw [e] at hd
      rcases List.mem_append.mp hd with hd | hd
      · exact hp.a d hd
      · rcases List.mem_append.mp hd with hd | hd
        · exact hy.a d hd
        · exact ih.a d hd
    · rw [len_tl, e, List.length_append, List.length_append, ← len_tl, ← len_tl, ← len_tl]
      have h1 := hp.l
      have h2 := hy.l
      have h3 := ih.l
      simp only [List.length_cons] at h3 ⊢
      rw [Nat.succ_mul (r.length + 1)]
      omega
    · rw [e, List.count_append, List.count_append]
      have h1 := hp.k
      have h2 := hy.k
      have h3 := ih.k
      simp only [List.length_cons, Nat.add_sub_cancel] at h3 ⊢
      rw [Nat.succ_mul (r.length + 1) b, Nat.succ_mul r.length c]
      omega
theorem sum_le {ps : List Str} {n b : Nat} (h : ∀ p ∈ ps, Tt p n b) : (ps.map (·.length)).sum ≤ ps.length * n := by
  induction ps with
  | nil => simp
  | cons p ps ih =>
    have h1 := (h p List.mem_cons_self).l
    have h2 := ih fun z hz => h z (List.mem_cons_of_mem _ hz)
    rw [List.map_cons, List.sum_cons, List.length_cons, Nat.succ_mul]
    omega
theorem tt_lit (z : Str) (n b : Nat) (h : ((tl z).all (fun c => decide (c < 128)) && decide (z.length ≤ n) && decide ((tl z).count 32 ≤ b)) = true) : Tt z n b := by
  simp only [Bool.and_eq_true, decide_eq_true_eq, List.all_eq_true] at h
  exact ⟨h.1.1, h.1.2, h.2⟩
theorem nm_tt {y : Str} (h : nm y) : Tt y 8 0 := by
  have h' : nameL (tl y) = true := h
  unfold nameL at h'
  simp only [Bool.and_eq_true, decide_eq_true_eq, List.all_eq_true] at h'
  have low : ∀ c ∈ tl y, 97 ≤ c ∧ c ≤ 122 := fun c hc => by
    have := h'.2 c hc
    unfold lowC at this
    simpa using this
  refine ⟨fun c hc => by have := low c hc; omega, by rw [len_tl]; exact h'.1.2, ?_⟩
  rw [List.count_eq_zero.mpr]
  · exact Nat.le_refl _
  · intro hm
    have := low 32 hm
    omega
theorem tl_int (i : Int) : tl (Str.ofString (toString i)) = (if i < 0 then [45] else []) ++ TL.numL i.natAbs := by
  by_cases h : i < 0
  · obtain ⟨n, rfl⟩ : ∃ n : Nat, i = -((n + 1 : Nat) : Int) := ⟨i.natAbs - 1, by omega⟩
    have e : toString (-((n + 1 : Nat) : Int)) = "-" ++ toString ((n + 1 : Nat) : Int) := by
      show Int.repr _ = _
      first
      | rfl
      | (show "-" ++ Nat.repr (n + 1) = _; rfl)
    rw [if_pos h]
    show TL.tl _ = _
    rw [e, TL.tl_ofString, String.toList_append, List.map_append, ← TL.tl_ofString, ← TL.tl_ofString, TL.tl_num]
    have e2 : (-((n + 1 : Nat) : Int)).natAbs = n + 1 := by omega
    rw [e2] <;> rfl
  · obtain ⟨n, rfl⟩ := Int.eq_ofNat_of_zero_le (by omega : 0 ≤ i)
    rw [if_neg h]
    show TL.tl _ = _
    rw [TL.tl_num] <;> rfl
theorem int_tt {i : Int} (h : i.natAbs < 10 ^ 41) : Tt (Str.ofString (toString i)) 42 0 := by
  have d := TL.numL_digits i.natAbs
  have l := TL.numL_len (k := 41) (by decide) h
  refine ⟨fun c hc => ?_, ?_, ?_⟩
  · rw [tl_int] at hc
    rcases List.mem_append.mp hc with hc | hc
    · split at hc
      · rw [List.mem_singleton.mp hc]
        decide
      · cases hc
    · have := d c hc
      omega
  · rw [len_tl, tl_int, List.length_append]
    split <;> simp <;> omega
  · have e0 : (TL.numL i.natAbs).count 32 = 0 := List.count_eq_zero.mpr (fun hm => by have := d 32 hm; omega)
    rw [tl_int, List.count_append, e0]
    split <;> simp
theorem log_small {i : Int} (h : i.natAbs < 10 ^ 41) : i.natAbs.log2 < 1920 := by
  have h2 : i.natAbs < 2 ^ 137 := Nat.lt_of_lt_of_le h (by decide)
  have h3 := PySem.Flt.log2_lt_of (by decide) h2
  omega
/-! ### data, taken apart -/
section
variable {K : PySem.W.Frag} {H : Hp}
theorem dp_tuple {v : V} {ds : List PyData} (h : Dp K H v (.tuple ds)) : ∃ a xs, v = .ref a ∧ SqT K H a xs ∧ DpAll K H xs ds := by
  cases h with
  | tup h1 h2 => exact ⟨_, _, rfl, h1, h2⟩
theorem dp_int {v : V} {i : Int} (h : Dp K H v (.int i)) : v = .int i := by
  cases h
  rfl
theorem dp_str {v : V} {i : Str} (h : Dp K H v (.str i)) : v = .str i := by
  cases h
  rfl
theorem dpAll_cons {xs : List V} {d : PyData} {ds : List PyData} (h : DpAll K H xs (d :: ds)) : ∃ x r, xs = x :: r ∧ Dp K H x d ∧ DpAll K H r ds := by
  cases h with
  | cons a b => exact ⟨_, _, rfl, a, b⟩
theorem dpAll_nil {xs : List V} (h : DpAll K H xs []) : xs = [] := by
  cases h
  rfl
theorem dpAll_ix {xs : List V} {ds : List PyData} {i : Nat} {x : V} (h : DpAll K H xs ds) (e : xs[i]? = some x) : ∃ d, ds[i]? = some d ∧ Dp K H x d := DpAll.get i h e
theorem dp_pair {v : V} {x : Str × Int} (h : Dp K H v (pairD x)) : ∃ a, v = .ref a ∧ SqT K H a [.str x.1, .int x.2] := by
  obtain ⟨a, xs, rfl, h1, h2⟩ := dp_tuple h
  obtain ⟨x1, r, rfl, d1, h2⟩ := dpAll_cons h2
  obtain ⟨x2, r, rfl, d2, h2⟩ := dpAll_cons h2
  rw [dpAll_nil h2, dp_str d1, dp_int d2] at h1
  exact ⟨a, rfl, h1⟩
theorem dp_two {v : V} {d e : PyData} (h : Dp K H v (.tuple [d, e])) : ∃ a x y, v = .ref a ∧ SqT K H a [x, y] ∧ Dp K H x d ∧ Dp K H y e := by
  obtain ⟨a, xs, rfl, h1, h2⟩ := dp_tuple h
  obtain ⟨x1, r, rfl, d1, h2⟩ := dpAll_cons h2
  obtain ⟨x2, r, rfl, d2, h2⟩ := dpAll_cons h2
  rw [dpAll_nil h2] at h1
  exact ⟨a, _, _, rfl, h1, d1, d2⟩
theorem dp_three {v : V} {d e f : PyData} (h : Dp K H v (.tuple [d, e, f])) : ∃ a x y z, v = .ref a ∧ SqT K H a [x, y, z] ∧ Dp K H x d ∧ Dp K H y e ∧ Dp K H z f := by
  obtain ⟨a, xs, rfl, h1, h2⟩ := dp_tuple h
  obtain ⟨x1, r, rfl, d1, h2⟩ := dpAll_cons h2
  obtain ⟨x2, r, rfl, d2, h2⟩ := dpAll_cons h2
  obtain ⟨x3, r, rfl, d3, h2⟩ := dpAll_cons h2
  rw [dpAll_nil h2] at h1
  exact ⟨a, _, _, _, rfl, h1, d1, d2, d3⟩
end
section
variable {P : Program} {w : World} {K : PySem.W.Frag} {mg : Str → Option Value} {base : Heap}
def sp_law_term_text (K : PySem.W.Frag) : Sp := fun vs H Q _ => ∃ (v : V) (s : Str) (m : Mo), vs = [v, .str s] ∧ Dp K H v (monoD m) ∧ okM m ∧ Tt s 90 0 ∧ ∀ (H' : Hp) (z : Str), Gr H H' → Tt z 650 0 → Q (.str z) H'
theorem sc_law_term_text : FnScope ["_law_mono_here", "_law_share", "_law_words", "_law_box", "_law_power"] ["_law_mono_here", "_law_share"] (defScope s_law_term_text) := ⟨rfl, rfl, rfl, by decide +kernel, rfl, by decide +kernel, by decide +kernel⟩
theorem ok_law_term_text (T : Tx K mg) : Fn P w K mg base CX0 1 "_law_term_text" ["_law_mono_here", "_law_share"] (sp_law_term_text K) := by
  refine Fn.of T.f_law_term_text sc_law_term_text (fun _ _ _ _ _ _ us hl => match us, hl with | [_, _], _ => rfl) (fun vs H Q E h => ?_) (fun f cdv A outer s H vs Q E hr h => ⟨_, PSs.nox (pss_cons (ps_set (i := 2) sc_law_term_text.nd rfl (Or.inl rfl) (pe_lst (pa_cons (pv 1) pa_nil)))
  (pss_cons (ps_for PassesOwn.never rfl (pi_tup (pv 0)) (pg_tup rfl (pgs_cons (pg_name (i := 3) sc_law_term_text.nd rfl (Or.inl rfl)) (pgs_cons (pg_name (i := 4) sc_law_term_text.nd rfl (Or.inl rfl)) pgs_nil)))
  (pss_one (ps_set (i := 2) sc_law_term_text.nd rfl (Or.inl rfl) (pe_op op_cat (pv 2) (pe_op op_rep (pe_lst (pa_cons (pv 3) pa_nil)) (pv 4))))))
  (pss_one (ps_ret (pe_join pe_str (pv 2)))))), ?_⟩)
  · obtain ⟨v, s, m, rfl, _⟩ := h
    rfl
  · obtain ⟨v, s, m, rfl, hv, ⟨lm, om⟩, ts, q⟩ := h
    obtain ⟨a, xs, rfl, ha, dx⟩ := dp_tuple hv
    have lx : xs.length = m.length := by rw [DpAll.length dx, List.length_map]
    refine ⟨_, rfl, by show 1 ≤ sizeLine; decide, fun p hp => ⟨_, rfl, a, rfl, ⟨xs, (Gr.new hp).st ha⟩, for_tup (xs := xs) (K := K) (fun i σ Hh => Gr H Hh ∧ ∃ (c : Addr) (ys : List Str) (z1 z2 : Option V), σ = [some (.ref a), some (.str s), some (.ref c), z1, z2] ∧ Hh c = some (.lst (ys.map V.str)) ∧ ys.length ≤ 1 + 3 * i ∧ ∀ y ∈ ys, Tt y 90 0) ?_ (fun i σ Hh _ pv => pv.1.st ha) (fun i x σ Hh hx pv => ?_) (fun σ Hh pv => ?_)⟩⟩
    · exact ⟨Gr.new hp, p, [s], none, none, rfl, upd_same, by simp, fun y hy => by rw [List.mem_singleton.mp hy]; exact ts⟩
    · obtain ⟨gh, c, ys, z1, z2, rfl, ec, ly, ty⟩ := pv
      obtain ⟨d, ed, dd⟩ := dpAll_ix dx hx
      rw [List.getElem?_map] at ed
      have hi : i < m.length := by rw [← lx]; exact (List.getElem?_eq_some_iff.mp hx).1
      rw [List.getElem?_eq_getElem hi] at ed
      cases ed
      have om' := om _ (List.getElem_mem hi)
      generalize m[i] = bx at dd om'
      obtain ⟨t, rfl, ht⟩ := dp_pair dd
      refine ⟨t, _, rfl, gh.st ht, rfl, _, _, rfl, _, _, rfl, rfl, _, rfl, _, rfl, by show 1 ≤ sizeLine; decide, fun p1 h1 => ⟨_, rfl, p1, bx.2, [.str bx.1], rfl, rfl, upd_same, by omega, by omega, ?_, fun p2 h2 => ?_⟩⟩
      · have : bx.2.toNat ≤ 3 := by omega
        show 1 * bx.2.toNat ≤ sizeLine
        rw [Nat.one_mul]
        exact Nat.le_trans this (by decide)
      · have g1 : Gr Hh (upd Hh p1 (.lst [.str bx.1])) := Gr.new h1
        have rep : (List.replicate bx.2.toNat ([.str bx.1] : List V)).flatten = (List.replicate bx.2.toNat bx.1).map V.str := by
          rw [List.map_replicate]
          induction bx.2.toNat with
          | zero => rfl
          | succ k ih => rw [List.replicate_succ, List.flatten_cons, ih, List.replicate_succ] <;> rfl
        have g2 : Gr (upd Hh p1 (.lst [.str bx.1])) (upd (upd Hh p1 (.lst [.str bx.1])) p2 (.lst (List.replicate bx.2.toNat ([.str bx.1] : List V)).flatten)) := Gr.new h2
        refine ⟨c, p2, ys.map V.str, _, rfl, rfl, (g1.trans g2) _ _ ec, upd_same, ?_, fun p3 h3 => ⟨((gh.trans g1).trans g2).more h3, p3, ys ++ List.replicate bx.2.toNat bx.1, _, _, rfl, ?_, ?_, fun y hy => ?_⟩⟩
        · rw [rep, List.length_map, List.length_map, List.length_replicate]
          have h9 : ys.length + bx.2.toNat ≤ 20 := by omega
          exact Nat.le_trans h9 (by decide)
        · rw [upd_same, rep, List.map_append]
        · rw [List.length_append, List.length_replicate]
          omega
        · rcases List.mem_append.mp hy with hy | hy
          · exact ty y hy
          · rw [List.eq_of_mem_replicate hy]
            exact (nm_tt om'.1).mono (by decide) (Nat.le_refl _)
    · obtain ⟨gh, c, ys, z1, z2, rfl, ec, ly, ty⟩ := pv
      have l7 : ys.length ≤ 7 := by omega
      have tj := Tt.join (y := "*") (m := 1) (c := 0) (tt_lit _ _ _ (by decide +kernel)) ty
      have m7 : ys.length * (90 + 1) ≤ 650 := by omega
      refine ⟨⟨_, rfl⟩, _, rfl, "*", c, ys, rfl, rfl, .inl (sl_of ec), ?_, q _ _ gh (tj.mono m7 (by simp))⟩
      have h1 := sum_le ty
      have h2 : ("*" : Str).length = 1 := by decide +kernel
      rw [h2]
      omega
end
end K86
set_option Elab.async false
set_option linter.all false
set_option maxRecDepth 100000
set_option maxHeartbeats 4000000
/-! the texts of polys and forms -/
namespace K86
open PySem PySem.Spec PyProof.Rows L2
theorem canLay_map {α : Type} {f : α → PyData} : ∀ {l : List α}, (∀ x ∈ l, (f x).canLay0 = true) → PyData.canLayAll0 (l.map f) = true
  | [], _ => by simp [PyData.canLayAll0]
  | x :: l, h => by rw [List.map_cons, PyData.canLayAll0, h x List.mem_cons_self, canLay_map fun y hy => h y (List.mem_cons_of_mem _ hy)] <;> rfl
theorem nm_asc {y : Str} (h : nm y) : asc y := (nm_tt h).a
theorem lay_mono {m : Mo} (h : ∀ x ∈ m, nm x.1) : (monoD m).canLay0 = true := by
  unfold monoD
  rw [PyData.canLay0]
  refine canLay_map fun x hx => ?_
  unfold pairD
  simp [PyData.canLay0, PyData.canLayAll0, strOk_asc (nm_asc (h x hx))]
theorem lay_poly {l : List (Mo × Int)} (h : ∀ x ∈ l, ∀ y ∈ x.1, nm y.1) : (polyD l).canLay0 = true := by
  unfold polyD
  rw [PyData.canLay0]
  refine canLay_map fun x hx => ?_
  unfold termD
  simp [PyData.canLay0, PyData.canLayAll0, lay_mono (h x hx)]
theorem lay_form {l : List (Kd × Int × Int)} (h : ∀ x ∈ l, ∀ y ∈ x.1.1, nm y.1) : (formD l).canLay0 = true := by
  unfold formD
  rw [PyData.canLay0]
  refine canLay_map fun x hx => ?_
  unfold fermD kindD shareD
  simp [PyData.canLay0, PyData.canLayAll0, lay_mono (h x hx)]
theorem shaped_poly {l : List (Mo × Int)} (h : ∀ x ∈ l, ∀ y ∈ x.1, nm y.1) : SeqAt.shaped (polyD l) = true := by
  unfold SeqAt.shaped
  rw [lay_poly h, decide_eq_true (Nat.le_trans (depth_poly l) (by decide))] <;> rfl
theorem shaped_form {l : List (Kd × Int × Int)} (h : ∀ x ∈ l, ∀ y ∈ x.1.1, nm y.1) : SeqAt.shaped (formD l) = true := by
  unfold SeqAt.shaped
  rw [lay_form h, decide_eq_true (Nat.le_trans (depth_form l) (by decide))] <;> rfl
theorem eqv_nilT (ds : List PyData) : PyData.eqv (.tuple ds) (.tuple []) = decide (ds = []) := by
  cases ds <;> simp [PyData.eqv, PyData.eqvAll]
theorem shaped_nilT : SeqAt.shaped (.tuple []) = true := by decide
section
variable {P : Program} {w : World} {K : PySem.W.Frag} {mg : Str → Option Value} {base : Heap}
abbrev TermTF (P : Program) (w : World) (K : PySem.W.Frag) (mg : Str → Option Value) (base : Heap) : Prop := Fn P w K mg base CX0 1 "_law_term_text" ["_law_mono_here", "_law_share"] (sp_law_term_text K)
theorem dp_term {H : Hp} {v : V} {x : Mo × Int} (h : Dp K H v (termD x)) : ∃ a m, v = .ref a ∧ SqT K H a [m, .int x.2] ∧ Dp K H m (monoD x.1) := by
  obtain ⟨a, m, y, rfl, h1, h2, h3⟩ := dp_two h
  rw [dp_int h3] at h1
  exact ⟨a, m, rfl, h1, h2⟩
theorem dp_share {H : Hp} {v : V} {q : Int × Int} (h : Dp K H v (shareD q)) : ∃ a, v = .ref a ∧ SqT K H a [.int q.1, .int q.2] := by
  obtain ⟨a, m, y, rfl, h1, h2, h3⟩ := dp_two h
  rw [dp_int h2, dp_int h3] at h1
  exact ⟨a, rfl, h1⟩
theorem dp_ferm {H : Hp} {v : V} {x : Kd × Int × Int} (h : Dp K H v (fermD x)) : ∃ a k m s, v = .ref a ∧ SqT K H a [.ref k, .ref s] ∧ SqT K H k [m, .int x.1.2.1, .int x.1.2.2] ∧ Dp K H m (monoD x.1.1) ∧ SqT K H s [.int x.2.1, .int x.2.2] := by
  obtain ⟨a, k, s, rfl, h1, h2, h3⟩ := dp_two h
  obtain ⟨k, m, p, b, rfl, k1, k2, k3, k4⟩ := dp_three h2
  obtain ⟨s, rfl, h4⟩ := dp_share h3
  rw [dp_int k3, dp_int k4] at k1
  exact ⟨a, k, m, s, rfl, h1, k1, k2, h4⟩
def sp_law_poly_text (K : PySem.W.Frag) : Sp := fun vs H Q _ => ∃ (v : V) (l : List (Mo × Int)), vs = [v] ∧ Dp K H v (polyD l) ∧ okP l ∧ ∀ (H' : Hp) (z : Str), Gr H H' → Tt z 2000 4 → Q (.str z) H'
theorem sc_law_poly_text : FnScope ["_law_poly_here", "_law_mono_here", "_law_number_here"] ["_law_poly_here"] (defScope s_law_poly_text) := ⟨rfl, rfl, rfl, by decide +kernel, rfl, by decide +kernel, by decide +kernel⟩
theorem ok_law_poly_text (T : Tx K mg) (F_law_term_text : TermTF P w K mg base) : Fn P w K mg base CX0 2 "_law_poly_text" ["_law_poly_here"] (sp_law_poly_text K) := by
  refine Fn.of T.f_law_poly_text sc_law_poly_text (fun _ _ _ _ _ _ us hl => match us, hl with | [_], _ => rfl) (fun vs H Q E h => ?_) (fun f cdv A outer s H vs Q E hr h => ⟨_, PSs.nox (pss_cons (ps_if (pt_cmpR (op_eqD hr.units) (pv 0) (pe_tup pa_nil) (nomark _)) (pss_one (ps_ret pe_str)) pss_nil)
  (pss_one (ps_ret (pe_join pe_str (pe_lc (own := [("_law_mono_here", 1), ("_law_number_here", 2)]) (g := (gTup K 2 (gCons (gName 1) (gCons (gName 2) gNil)))) (tt := tYes) (by rfl) sc_law_poly_text.nd (pi_tup (pv 0)) (blkOk_by (own := [("_law_mono_here", 1), ("_law_number_here", 2)]) (N := ["_law_poly_here", "_law_mono_here", "_law_number_here"]) (sc := defScope s_law_poly_text) (by decide +kernel)) (fun _ _ _ _ _ => (pg_tup rfl (pgs_cons (pg_name (i := 1) sc_law_poly_text.nd rfl (Or.inl rfl)) (pgs_cons (pg_name (i := 2) sc_law_poly_text.nd rfl (Or.inl rfl)) pgs_nil)))) (fun _ _ _ _ _ => pts_nil) (fun _ _ _ _ _ => (pe_fn F_law_term_text (hr.mono (by omega)) (pa_cons (pv 1) (pa_cons (pe_callTy call_str_int (by rfl) T.b_str (by decide +kernel) (pa_cons (pv 2) pa_nil)) pa_nil))))))))), ?_⟩)
  · obtain ⟨v, l, rfl, _⟩ := h
    rfl
  · obtain ⟨v, l, rfl, hv, ⟨ll, ol⟩, q⟩ := h
    refine ⟨_, rfl, by show 0 ≤ sizeLine; omega, fun p hp => ?_⟩
    have gp : Gr H (upd H p (.tup [])) := Gr.new hp
    have hv1 := Dp.gr gp _ _ hv
    refine ⟨_, _, hv1, .tup (st_of upd_same) .nil, shaped_poly (fun x hx y hy => ((ol x hx).1.2 y hy).1), shaped_nilT, _, rfl, ite2 (fun c => ?_) (fun c => ?_)⟩
    · exact q _ _ gp (tt_lit _ _ _ (by decide +kernel))
    · obtain ⟨a, xs, rfl, ha, dx⟩ := dp_tuple hv1
      have lx : xs.length = l.length := by rw [DpAll.length dx, List.length_map]
      generalize upd H p (.tup []) = H1 at gp hv1 ha dx
      refine ⟨⟨_, rfl⟩, _, rfl, a, rfl, ⟨xs, ha⟩, fun D hD => lc_it walk_tup (fun i Hh => Gr H1 Hh ∧ ∃ ys : List Str, Hh D = some (.lst (ys.map V.str)) ∧ ys.length = i ∧ ∀ y ∈ ys, Tt y 650 0) ⟨Gr.new hD, [], upd_same, rfl, by simp⟩ (fun i Hh _ pv => pv.1.st ha) (fun i x Hh H' hi pv y => ?_) (fun Hh pv => ?_)⟩
      · obtain ⟨rfl, hx⟩ := y
        obtain ⟨gh, ys, eD, ly, ty⟩ := pv
        obtain ⟨d, ed, dd⟩ := dpAll_ix dx hx
        rw [List.getElem?_map] at ed
        rw [lx] at hi
        rw [List.getElem?_eq_getElem hi] at ed
        cases ed
        have om' := ol _ (List.getElem_mem hi)
        generalize l[i] = tm at dd om'
        obtain ⟨t, m, rfl, ht, hm⟩ := dp_term dd
        have b41 : tm.2.natAbs < 10 ^ 41 := Nat.lt_trans om'.2 (by decide)
        refine ⟨t, _, rfl, gh.st ht, rfl, _, _, rfl, _, _, rfl, rfl, rfl, _, rfl, _, rfl, _, rfl, log_small b41, _, _, _, rfl, Dp.gr gh _ _ hm, om'.1, (int_tt b41).mono (by decide) (Nat.le_refl _), fun H2 z g2 tz => ⟨ys.map V.str, g2 _ _ eD, ?_, (gh.trans g2).mut hD, ys ++ [z], ?_, by simp [ly], fun y hy => ?_⟩⟩
        · rw [List.length_map, ly]
          exact Nat.lt_of_lt_of_le hi (Nat.le_trans ll (by decide))
        · rw [upd_same, List.map_append] <;> rfl
        · rcases List.mem_append.mp hy with hy | hy
          · exact ty y hy
          · rw [List.mem_singleton.mp hy]
            exact tz
      · obtain ⟨gh, ys, eD, ly, ty⟩ := pv
        rw [lx] at ly
        have tj := Tt.join (y := " + ") (m := 3) (c := 2) (tt_lit _ _ _ (by decide +kernel)) ty
        have m7 : ys.length * (650 + 3) ≤ 2000 := by omega
        refine ⟨" + ", D, ys, rfl, rfl, .inl (sl_of eD), ?_, q _ _ (gp.trans gh) (tj.mono m7 (by omega))⟩
        have h1 := sum_le ty
        have h2 : (" + " : Str).length = 3 := by decide +kernel
        rw [h2]
        omega
def sp_law_form_text (K : PySem.W.Frag) : Sp := fun vs H Q _ => ∃ (v : V) (l : List (Kd × Int × Int)), vs = [v] ∧ Dp K H v (formD l) ∧ okF l ∧ ∀ (H' : Hp) (z : Str), Gr H H' → Tt z 2300 4 → Q (.str z) H'
theorem sc_law_form_text : FnScope ["_law_form_here", "_law_found", "_law_mono_here", "_law_place", "_law_base", "_law_share", "_law_number_here"] ["_law_form_here"] (defScope s_law_form_text) := ⟨rfl, rfl, rfl, by decide +kernel, rfl, by decide +kernel, by decide +kernel⟩
theorem ok_law_form_text (T : Tx K mg) (F_law_term_text : TermTF P w K mg base) : Fn P w K mg base CX0 2 "_law_form_text" ["_law_form_here"] (sp_law_form_text K) := by
  refine Fn.of T.f_law_form_text sc_law_form_text (fun _ _ _ _ _ _ us hl => match us, hl with | [_], _ => rfl) (fun vs H Q E h => ?_) (fun f cdv A outer s H vs Q E hr h => ⟨_, PSs.nox (pss_cons (ps_if (pt_cmpR (op_eqD hr.units) (pv 0) (pe_tup pa_nil) (nomark _)) (pss_one (ps_ret pe_str)) pss_nil)
  (pss_cons (ps_set (i := 1) sc_law_form_text.nd rfl (Or.inl rfl) (pe_lst pa_nil))
  (pss_cons (ps_for PassesOwn.never rfl (pi_tup (pv 0)) (pg_tup rfl (pgs_cons (pg_tup rfl (pgs_cons (pg_name (i := 2) sc_law_form_text.nd rfl (Or.inl rfl)) (pgs_cons (pg_name (i := 3) sc_law_form_text.nd rfl (Or.inl rfl)) (pgs_cons (pg_name (i := 4) sc_law_form_text.nd rfl (Or.inl rfl)) pgs_nil)))) (pgs_cons (pg_name (i := 5) sc_law_form_text.nd rfl (Or.inl rfl)) pgs_nil)))
  (pss_cons (ps_set (i := 6) sc_law_form_text.nd rfl (Or.inl rfl) (pe_cut (pe_ifExp (pt_cmpR op_eq (pe_ix ix_tup (pv 5) pe_int (fun _ _ => rfl)) pe_int (nomark _)) (pe_callTy call_str_int (by rfl) T.b_str (by decide +kernel) (pa_cons (pe_ix ix_tup (pv 5) pe_int (fun _ _ => rfl)) pa_nil)) (pe_op op_add_str (pe_op op_add_str (pe_callTy call_str_int (by rfl) T.b_str (by decide +kernel) (pa_cons (pe_ix ix_tup (pv 5) pe_int (fun _ _ => rfl)) pa_nil)) pe_str) (pe_callTy call_str_int (by rfl) T.b_str (by decide +kernel) (pa_cons (pe_ix ix_tup (pv 5) pe_int (fun _ _ => rfl)) pa_nil))))))
  (pss_one (ps_expr (pe_bm PySem.F.plainAttrs_list PySem.F.slot_list_append PySem.F.type_list_append mt_append (pv 1) (pa_cons (pe_op op_add_str (pe_op op_add_str (pe_op op_add_str (pe_op op_add_str (pe_op op_add_str (pe_fn F_law_term_text (hr.mono (by omega)) (pa_cons (pv 2) (pa_cons (pv 6) pa_nil))) pe_str) (pe_callTy call_str_int (by rfl) T.b_str (by decide +kernel) (pa_cons (pv 3) pa_nil))) pe_str) (pe_callTy call_str_int (by rfl) T.b_str (by decide +kernel) (pa_cons (pv 4) pa_nil))) pe_str) pa_nil))))))
  (pss_one (ps_ret (pe_join pe_str (pv 1))))))), ?_⟩)
  · obtain ⟨v, l, rfl, _⟩ := h
    rfl
  · obtain ⟨v, l, rfl, hv, ⟨ll, ol⟩, q⟩ := h
    refine ⟨_, rfl, by show 0 ≤ sizeLine; omega, fun p hp => ?_⟩
    have gp : Gr H (upd H p (.tup [])) := Gr.new hp
    have hv1 := Dp.gr gp _ _ hv
    refine ⟨_, _, hv1, .tup (st_of upd_same) .nil, shaped_form (fun x hx y hy => ((ol x hx).1.2 y hy).1), shaped_nilT, _, rfl, ite2 (fun c => ?_) (fun c => ?_)⟩
    · exact q _ _ gp (tt_lit _ _ _ (by decide +kernel))
    · obtain ⟨a, xs, rfl, ha, dx⟩ := dp_tuple hv1
      have lx : xs.length = l.length := by rw [DpAll.length dx, List.length_map]
      generalize upd H p (.tup []) = H1 at gp hv1 ha dx
      refine ⟨by show 0 ≤ sizeLine; omega, fun D hD => ?_⟩
      refine ⟨_, rfl, a, rfl, ⟨xs, (Gr.new hD).st ha⟩, for_tup (xs := xs) (K := K) (fun i σ Hh => Gr H1 Hh ∧ ∃ (ys : List Str) (z1 z2 z3 z4 z5 : Option V), σ = [some (.ref a), some (.ref D), z1, z2, z3, z4, z5] ∧ Hh D = some (.lst (ys.map V.str)) ∧ ys.length = i ∧ ∀ y ∈ ys, Tt y 750 0) ⟨Gr.new hD, [], _, _, _, _, _, rfl, upd_same, rfl, by simp⟩ (fun i σ Hh _ pv => pv.1.st ha) (fun i x σ Hh hx pv => ?_) (fun σ Hh pv => ?_)⟩
      · obtain ⟨gh, ys, z1, z2, z3, z4, z5, rfl, eD, ly, ty⟩ := pv
        obtain ⟨d, ed, dd⟩ := dpAll_ix dx hx
        rw [List.getElem?_map] at ed
        have hi : i < l.length := by rw [← lx]; exact (List.getElem?_eq_some_iff.mp hx).1
        rw [List.getElem?_eq_getElem hi] at ed
        cases ed
        have om' := ol _ (List.getElem_mem hi)
        generalize l[i] = tm at dd om'
        obtain ⟨t, k, m, sh, rfl, h1, h2, h3, h4⟩ := dp_ferm dd
        have h4' := gh.st h4
        have bs : tm.2.1.natAbs < 10 ^ 41 ∧ tm.2.2.natAbs < 10 ^ 41 := by
          have := om'.2.2.2
          unfold okS at this
          rcases this with e | e | e | e | e <;> rw [e] <;> exact ⟨by decide, by decide⟩
        have bp : tm.1.2.1.natAbs < 10 ^ 41 := by
          have := om'.2.1
          have h9 : (100 : Nat) < 10 ^ 41 := by decide
          omega
        have bb : tm.1.2.2.natAbs < 10 ^ 41 := by
          have := om'.2.2.1
          have h9 : (100 : Nat) < 10 ^ 41 := by decide
          omega
        have l42 : ∀ {i : Int}, i.natAbs < 10 ^ 41 → (Str.ofString (toString i)).length ≤ 42 := fun h => (int_tt h).l
        have big : 10000 ≤ sizeLine := by decide
        refine ⟨t, _, rfl, gh.st h1, rfl, _, _, rfl, ⟨k, _, rfl, gh.st h2, rfl, _, _, rfl, _, _, rfl, _, _, rfl, rfl, _, _, rfl, rfl, fun v H' => (∃ z : Str, v = .str z ∧ Tt z 85 0) ∧ H' = Hh, ?_, ?_⟩⟩
        · refine ⟨_, rfl, sh, _, 1, _, rfl, rfl, h4', atI_nat (j := 1) rfl, rfl, _, rfl, ite2 (fun _ => ?_) (fun _ => ?_)⟩
          · exact ⟨_, rfl, sh, _, 0, _, rfl, rfl, h4', atI_nat (j := 0) rfl, _, rfl, log_small bs.1, ⟨_, rfl, (int_tt bs.1).mono (by decide) (Nat.le_refl _)⟩, rfl⟩
          · have l1 := l42 bs.1
            have l2 := l42 bs.2
            have t1 : Tt (Str.ofString (toString tm.2.1) ++ "/") 43 0 := (int_tt bs.1).app (tt_lit "/" 1 0 (by decide +kernel))
            refine ⟨_, rfl, sh, _, 0, _, rfl, rfl, h4', atI_nat (j := 0) rfl, _, rfl, log_small bs.1, _, "/", rfl, rfl, ?_, _, rfl, sh, _, 1, _, rfl, rfl, h4', atI_nat (j := 1) rfl, _, rfl, log_small bs.2, _, _, rfl, rfl, ?_, ⟨_, rfl, t1.app (int_tt bs.2)⟩, rfl⟩
            · have := (int_tt bs.1).l
              have h9 : ("/" : Str).length = 1 := by decide +kernel
              rw [h9]
              omega
            · have h8 := t1.l
              omega
        · rintro v H' ⟨⟨z, rfl, tz⟩, rfl⟩
          refine ⟨_, rfl, .inl ⟨rfl, _, sl_of eD⟩, _, rfl, _, rfl, _, _, _, rfl, Dp.gr gh _ _ h3, om'.1, tz.mono (by decide) (Nat.le_refl _), fun H2 y g2 ty2 => ⟨y, "[", rfl, rfl, ?_, ?_⟩⟩
          · have := ty2.l
            have h9 : ("[" : Str).length = 1 := by decide +kernel
            rw [h9]
            omega
          have t1 : Tt (y ++ "[") 651 0 := ty2.app (tt_lit "[" 1 0 (by decide +kernel))
          have t2 : Tt (y ++ "[" ++ Str.ofString (toString tm.1.2.1)) 693 0 := t1.app (int_tt bp)
          have t3 : Tt (y ++ "[" ++ Str.ofString (toString tm.1.2.1) ++ ",") 694 0 := t2.app (tt_lit "," 1 0 (by decide +kernel))
          have t4 : Tt (y ++ "[" ++ Str.ofString (toString tm.1.2.1) ++ "," ++ Str.ofString (toString tm.1.2.2)) 736 0 := t3.app (int_tt bb)
          have t5 : Tt (y ++ "[" ++ Str.ofString (toString tm.1.2.1) ++ "," ++ Str.ofString (toString tm.1.2.2) ++ "]") 737 0 := t4.app (tt_lit "]" 1 0 (by decide +kernel))
          refine ⟨_, rfl, _, rfl, log_small bp, _, _, rfl, rfl, ?_, _, ",", rfl, rfl, ?_, _, rfl, _, rfl, log_small bb, _, _, rfl, rfl, ?_, _, "]", rfl, rfl, ?_, ?_⟩
          · have := t1.l
            have := l42 bp
            omega
          · have := t2.l
            have h9 : ("," : Str).length = 1 := by decide +kernel
            rw [h9]
            omega
          · have := t3.l
            have := l42 bb
            omega
          · have := t4.l
            have h9 : ("]" : Str).length = 1 := by decide +kernel
            rw [h9]
            omega
          refine ⟨D, ys.map V.str, _, rfl, rfl, g2 _ _ eD, ?_, (gh.trans g2).mut hD, ys ++ [y ++ "[" ++ Str.ofString (toString tm.1.2.1) ++ "," ++ Str.ofString (toString tm.1.2.2) ++ "]"], _, _, _, _, _, rfl, ?_, by simp [ly], fun x hx => ?_⟩
          · rw [List.length_map, ly]
            exact Nat.lt_of_lt_of_le hi (Nat.le_trans ll (by decide))
          · rw [upd_same, List.map_append] <;> rfl
          · rcases List.mem_append.mp hx with hx | hx
            · exact ty x hx
            · rw [List.mem_singleton.mp hx]
              exact t5.mono (by decide) (Nat.le_refl _)
      · obtain ⟨gh, ys, z1, z2, z3, z4, z5, rfl, eD, ly, ty⟩ := pv
        rw [lx] at ly
        have tj := Tt.join (y := " + ") (m := 3) (c := 2) (tt_lit _ _ _ (by decide +kernel)) ty
        have m7 : ys.length * (750 + 3) ≤ 2300 := by omega
        refine ⟨⟨_, rfl⟩, _, rfl, " + ", D, ys, rfl, rfl, .inl (sl_of eD), ?_, q _ _ (gp.trans gh) (tj.mono m7 (by omega))⟩
        have h1 := sum_le ty
        have h2 : (" + " : Str).length = 3 := by decide +kernel
        rw [h2]
        omega
end
end K86
set_option Elab.async false
set_option linter.all false
set_option maxRecDepth 100000
set_option maxHeartbeats 4000000
/-! drawn rows -/
namespace K86
open PySem PySem.Spec PyProof.Rows L2
def bothD (l : List (Str × List (Mo × Int))) : PyData := .tuple (l.map fun x => .tuple [.str x.1, polyD x.2])
def jumpD (l : List (Str × List (Kd × Int × Int))) : PyData := .tuple (l.map fun x => .tuple [.str x.1, formD x.2])
/-- a row without rows within -/
def okBase (x : PyData) : Prop := (∃ b p, nm b ∧ okP p ∧ x = .tuple [.str "set", .str b, polyD p]) ∨
  ∃ l : List (Str × List (Mo × Int)), l.length ≤ 6 ∧ (∀ y ∈ l, nm y.1 ∧ okP y.2) ∧ x = .tuple [.str "both", bothD l]
def okRow : Nat → PyData → Prop
  | 0, x => okBase x
  | d + 1, x => okBase x ∨ (∃ (c : List (Mo × Int)) (rs : List PyData), okP c ∧ rs.length ≤ 3 ∧ (∀ r ∈ rs, okRow d r) ∧ x = .tuple [.str "loop", polyD c, .tuple rs]) ∨
    ∃ (c : List (Mo × Int)) (l : List (Str × List (Kd × Int × Int))) (rs : List PyData), okP c ∧ l.length ≤ 4 ∧ (∀ y ∈ l, nm y.1 ∧ okF y.2) ∧ rs.length ≤ 3 ∧ (∀ r ∈ rs, okRow d r) ∧ x = .tuple [.str "jump", polyD c, jumpD l, .tuple rs]
theorem nl_pairS {α : Type} {f : α → PyData} (h : ∀ x, nl (f x) = true) (l : List (Str × α)) : nlAll (l.map fun x => PyData.tuple [.str x.1, f x.2]) = true := nlAll_map (fun x => by simp [nl, nlAll, h]) l
theorem nl_both (l) : nl (bothD l) = true := by
  unfold bothD
  rw [nl, nl_pairS nl_poly]
theorem nl_jump (l) : nl (jumpD l) = true := by
  unfold jumpD
  rw [nl, nl_pairS nl_form]
theorem okBase_nl {x : PyData} (h : okBase x) : nl x = true := by
  rcases h with ⟨b, p, _, _, rfl⟩ | ⟨l, _, _, rfl⟩
  · simp [nl, nlAll, nl_poly]
  · simp [nl, nlAll, nl_both]
theorem okRow_nl : ∀ {d : Nat} {x : PyData}, okRow d x → nl x = true
  | 0, _, h => okBase_nl h
  | d + 1, x, h => by
    rcases h with h | ⟨c, rs, _, _, hr, rfl⟩ | ⟨c, l, rs, _, _, _, _, hr, rfl⟩
    · exact okBase_nl h
    · have := nlAll_of rs fun r hr' => okRow_nl (hr r hr')
      simp [nl, nlAll, nl_poly, this]
    · have := nlAll_of rs fun r hr' => okRow_nl (hr r hr')
      simp [nl, nlAll, nl_poly, nl_jump, this]
theorem okRow_base {d : Nat} {x : PyData} (h : okBase x) : okRow d x := by
  cases d with
  | zero => exact h
  | succ d => exact .inl h
theorem okRow_mono : ∀ {d e : Nat} {x : PyData}, d ≤ e → okRow d x → okRow e x
  | 0, e, _, _, h => okRow_base h
  | d + 1, 0, _, l, _ => absurd l (by omega)
  | d + 1, e + 1, x, l, h => by
    rcases h with h | ⟨c, rs, h1, h2, h3, h4⟩ | ⟨c, l', rs, h1, h2, h3, h4, h5, h6⟩
    · exact .inl h
    · exact .inr (.inl ⟨c, rs, h1, h2, fun r hr => okRow_mono (by omega) (h3 r hr), h4⟩)
    · exact .inr (.inr ⟨c, l', rs, h1, h2, h3, h4, fun r hr => okRow_mono (by omega) (h5 r hr), h6⟩)
/-- all but d and e stands -/
def GrB2 (d e : Addr) (H H' : Hp) : Prop := ∀ a o, H a = some o → a ≠ d → a ≠ e → H' a = some o
theorem GrB2.rfl' (d e : Addr) (H : Hp) : GrB2 d e H H := fun _ _ q _ _ => q
theorem GrB2.trans {d e : Addr} {H H1 H2 : Hp} (a : GrB2 d e H H1) (b : GrB2 d e H1 H2) : GrB2 d e H H2 := fun x o q n m => b x o (a x o q n m) n m
theorem GrBut.b2 {d e : Addr} {H H1 : Hp} (a : GrBut d H H1) : GrB2 d e H H1 := fun x o q n _ => a x o q n
theorem Gr.b2 {d e : Addr} {H H1 : Hp} (a : Gr H H1) : GrB2 d e H H1 := fun x o q _ _ => a x o q
theorem GrB2.putE {d e : Addr} {H : Hp} {o : HO} : GrB2 d e H (upd H e o) := fun x u q n m => by
  rw [upd_ne m]
  exact q
theorem GrB2.mut {d e : Addr} {H H1 : Hp} {p : Addr} {o : HO} (a : GrB2 d e H H1) (h : H p = none) : GrB2 d e H (upd H1 p o) := fun b u q n m => by
  rw [upd_ne (ne_of_none q h)]
  exact a b u q n m
theorem GrB2.free {d e : Addr} {H H1 : Hp} (a : GrB2 d e H H1) {p : Addr} (h : H1 p = none) (hd : p ≠ d) (he : p ≠ e) : H p = none := by
  cases q : H p with
  | none => rfl
  | some o =>
    rw [a p o q hd he] at h
    cases h
theorem GrB2.kt {d e : Addr} {H H1 : Hp} (a : GrB2 d e H H1) (n : NoT (H d)) (m : NoT (H e)) : Kt H H1 := fun x xs q => by
  have hx : x ≠ d := fun z => by
    subst z
    rcases q with q | ⟨u, q⟩ <;> (rw [q] at n; exact n.elim)
  have hy : x ≠ e := fun z => by
    subst z
    rcases q with q | ⟨u, q⟩ <;> (rw [q] at m; exact m.elim)
  rcases q with q | ⟨u, q⟩
  · exact .inl (a _ _ q hx hy)
  · exact .inr ⟨u, a _ _ q hx hy⟩
/-- the room's list -/
def RoomL (H : Hp) (e : Addr) : Prop := ∃ r : Int, H e = some (.lst [.int r])
theorem RoomL.nt {H : Hp} {e : Addr} (h : RoomL H e) : NoT (H e) := by
  obtain ⟨r, q⟩ := h
  rw [q]
  exact True.intro
theorem RoomL.but {H H1 : Hp} {d e : Addr} (h : RoomL H e) (g : GrBut d H H1) (n : e ≠ d) : RoomL H1 e := by
  obtain ⟨r, q⟩ := h
  exact ⟨r, g _ _ q n⟩
theorem RoomL.ned {H : Hp} {d e : Addr} {n : Int} (h : RoomL H e) (hd : Draw H d n) : e ≠ d := fun z => by
  obtain ⟨r, q⟩ := h
  obtain ⟨_, _, _, q2, _⟩ := hd
  rw [z, q2] at q
  cases q
theorem RoomL.new {H : Hp} {e p : Addr} (h : RoomL H e) (hp : H p = none) : p ≠ e := fun z => by
  obtain ⟨r, q⟩ := h
  rw [z, q] at hp
  cases hp
section
variable {P : Program} {w : World} {K : PySem.W.Frag} {mg : Str → Option Value} {base : Heap}
/-- [(box, f(draw)) for box in boxes] -/
theorem lc_draws {α : Type} (sp : Sp) (fD : α → PyData) (ok : α → Prop) (nlf : ∀ a, nl (fD a) = true) {d b : Addr} {H : Hp} {n : Int} {ys : List Str} {i : Nat} {σ : L2.St} {Qd : Hp → Prop} {D : Addr} (hD : H D = none) (hn : n + 6000 < 2 ^ 38) (hl : ys.length ≤ 6) (hd : Draw H d n) (eb : H b = some (.lst (ys.map V.str)))
    (hF : ∀ (H : Hp) (n : Int) (Q : VK), Draw H d n → n < 2 ^ 38 → (∀ (p : Addr) (H' : Hp) (a : α), GrBut d H H' → Draw H' d (n + 1000) → ok a → Dp K H' (.ref p) (fD a) → Q (.ref p) H') → sp [.ref d] H Q E0)
    (h1 : ∀ v, ((wipe σ [i]).set i (some v))[i]? = some (some v)) (h2 : ∀ v, ((wipe σ [i]).set i (some v))[0]? = some (some (.ref d))) (h3 : ∀ v, wipe ((wipe σ [i]).set i (some v)) [i] = wipe σ [i])
    (q : ∀ (H' : Hp) (xs : List V) (l : List (Str × α)), GrBut d H H' → Draw H' d (n + 6000) → H' D = some (.lst xs) → DpAll K H' xs (l.map fun x => PyData.tuple [.str x.1, fD x.2]) → l.length ≤ ys.length → (∀ x ∈ l, x.1 ∈ ys ∧ ok x.2) → Qd H') :
    ∃ W : Nat → Nat → Hp → Prop, (∃ m, W 0 m (upd H D (.lst []))) ∧ ∀ i' m Hh, W i' m Hh →
      ((Itl K b).stop i' Hh ∧ Qd Hh) ∨ ((Itl K b).go i' Hh ∧ ∃ Nx : Hp → Prop, (∀ H', Nx H' → ∃ m', m' < m ∧ W (i' + 1) m' H') ∧ ∀ x H', (Itl K b).yld i' Hh x H' → (gName i) x (wipe σ [i]) H' fun σ2 H2 => wipe σ2 [i] = wipe σ [i] ∧ tYes σ2 H2 fun b H3 =>
        if b = true then (tTup (tCons (tVar i) (tCons (tFn sp (tCons (tVar 0) tNil)) tNil))) σ2 H3 fun y H4 => ∃ acc, H4 D = some (.lst acc) ∧ acc.length < sizeLine ∧ Nx (upd H4 D (.lst (acc ++ [y]))) else Nx H3) := by
  have b38 : (2 : Int) ^ 38 = 274877906944 := by decide
  rw [b38] at hn
  have bd : b ≠ d := fun e => by
    obtain ⟨_, _, _, ed, _⟩ := hd
    rw [e, ed] at eb
    cases eb
  have Dd : D ≠ d := hd.ne hD
  have Db : D ≠ b := fun e => by rw [e, eb] at hD; cases hD
  refine lc_it walk_list (fun j Hh => GrBut d H Hh ∧ Draw Hh d (n + 1000 * j) ∧ Hh b = some (.lst (ys.map V.str)) ∧ ∃ (xs : List V) (l : List (Str × α)), Hh D = some (.lst xs) ∧ DpAll K Hh xs (l.map fun x => PyData.tuple [.str x.1, fD x.2]) ∧ l.length = j ∧ ∀ x ∈ l, x.1 ∈ ys ∧ ok x.2) ?_ (fun j Hh _ pv => sl_of pv.2.2.1) (fun j x Hh H' hj pv y => ?_) (fun Hh pv => ?_)
  · exact ⟨(Gr.new hD).but, (hd.upd Dd).mono (by omega), by rw [upd_ne (Ne.symm Db)]; exact eb, [], [], upd_same, .nil, rfl, by simp⟩
  · obtain ⟨gh, dh, ebh, xs, l, eD, dxs, ll, ok'⟩ := pv
    obtain ⟨rfl, hx⟩ := y
    rw [List.length_map] at hj
    obtain ⟨y, hy, rfl⟩ := List.mem_map.mp (List.mem_of_getElem? hx)
    refine ⟨h3 _, _, h1 _, _, h2 _, hF _ _ _ dh (by rw [b38]; omega) fun p H4 a g4 d4 oa da => ⟨by show 2 ≤ sizeLine; decide, fun t ht => ⟨xs, ?_, ?_, ?_⟩⟩⟩
    · have Dt : D ≠ t := ne_of_none (g4 _ _ eD Dd) ht
      rw [upd_ne Dt]
      exact g4 _ _ eD Dd
    · rw [DpAll.length dxs, List.length_map, ll]
      exact Nat.lt_of_lt_of_le hj (Nat.le_trans hl (by decide))
    · have td : t ≠ d := d4.ne ht
      have tb : b ≠ t := ne_of_none (g4 _ _ ebh bd) ht
      have k4 : Kt H' H4 := dh.kt g4
      have gt : Gr H4 (upd H4 t (.tup [.str y, .ref p])) := Gr.new ht
      have e4 : (upd H4 t (.tup [.str y, .ref p])) D = some (.lst xs) := gt _ _ (g4 _ _ eD Dd)
      have kD : Kt (upd H4 t (.tup [.str y, .ref p])) (upd (upd H4 t (.tup [.str y, .ref p])) D (.lst (xs ++ [.ref t]))) := Kt.put (by rw [e4]; exact True.intro)
      have nlx : ∀ l : List (Str × α), nlAll (l.map fun x => PyData.tuple [.str x.1, fD x.2]) = true := nl_pairS nlf
      refine ⟨((gh.trans g4).trans gt.but).mut hD, ((d4.upd td).upd Dd).mono (by omega), by rw [upd_ne (Ne.symm Db), upd_ne tb]; exact g4 _ _ ebh bd, xs ++ [.ref t], l ++ [(y, a)], upd_same, ?_, by simp [ll], fun x hx => ?_⟩
      · refine DpAll.kt kD _ _ (nlx _) ?_
        rw [List.map_append]
        refine DpAll.append (DpAll.gr gt _ _ (DpAll.kt k4 _ _ (nlx _) dxs)) (.cons ?_ .nil)
        exact .tup (st_of upd_same) (.cons (.str y) (.cons (Dp.gr gt _ _ da) .nil))
      · rcases List.mem_append.mp hx with hx | hx
        · exact ok' x hx
        · rw [List.mem_singleton.mp hx]
          exact ⟨hy, oa⟩
  · obtain ⟨gh, dh, ebh, xs, l, eD, dxs, ll, ok'⟩ := pv
    rw [List.length_map] at ll dh
    exact q Hh xs l gh (dh.mono (by omega)) eD dxs (by omega) ok'
/-- how many draws a row may take -/
def costR (d : Nat) : Int := 10000 * 10 ^ d
theorem costR_pos (d : Nat) : 10000 ≤ costR d := by
  unfold costR
  have : (0 : Int) < 10 ^ d := Int.pow_pos (by decide)
  omega
theorem costR_succ (d : Nat) : costR (d + 1) = 10 * costR d := by
  unfold costR
  rw [Int.pow_succ]
  omega
theorem costR_mono {d e : Nat} (h : d ≤ e) : costR d ≤ costR e := by
  induction h with
  | refl => exact Int.le_refl _
  | step _ ih =>
    rw [costR_succ]
    have := costR_pos (d := d)
    omega
def sp_law_row (K : PySem.W.Frag) (D0 : Nat) : Sp := fun vs H Q _ => ∃ (d e : Addr) (D : Nat) (n : Int), D ≤ D0 ∧ vs = [.ref d, .int D, .ref e] ∧ Draw H d n ∧ n + costR D < 2 ^ 37 ∧ RoomL H e ∧
  ∀ (p : Addr) (H' : Hp) (x : PyData), GrB2 d e H H' → Draw H' d (n + costR D) → RoomL H' e → okRow D x → Dp K H' (.ref p) x → Q (.ref p) H'
def sp_law_rows (K : PySem.W.Frag) (D0 : Nat) : Sp := fun vs H Q _ => ∃ (d e : Addr) (D m : Nat) (n : Int), D < D0 ∧ vs = [.ref d, .int D, .int m, .ref e] ∧ m ≤ 4 ∧ Draw H d n ∧ n + 4 * costR D < 2 ^ 37 ∧ RoomL H e ∧
  ∀ (p : Addr) (H' : Hp) (xs : List PyData), GrB2 d e H H' → Draw H' d (n + m * costR D) → RoomL H' e → xs.length = m → (∀ x ∈ xs, okRow D x) → Dp K H' (.ref p) (.tuple xs) → Q (.ref p) H'
theorem sc_law_row : FnScope ["_law_draw_here", "_law_deep", "_law_room", "_law_way", "_law_count", "_law_pairs_here", "_law_box"] ["_law_draw_here", "_law_deep", "_law_room"] (defScope s_law_row) := ⟨rfl, rfl, rfl, by decide +kernel, rfl, by decide +kernel, by decide +kernel⟩
theorem sc_law_rows : FnScope ["_law_draw_here", "_law_deep", "_law_many", "_law_room", "_law_found", "_law_k"] ["_law_draw_here", "_law_deep", "_law_many", "_law_room"] (defScope s_law_rows) := ⟨rfl, rfl, rfl, by decide +kernel, rfl, by decide +kernel, by decide +kernel⟩
theorem b37 : (2 : Int) ^ 37 = 137438953472 := by decide
theorem ok_law_rows (T : Tx K mg) (D0 : Nat) (F_law_row : Fn P w K mg base CX0 (7 + 2 * D0) "_law_row" ["_law_draw_here", "_law_deep", "_law_room"] (sp_law_row K D0)) : Fn P w K mg base CX0 (6 + 2 * (D0 + 1)) "_law_rows" ["_law_draw_here", "_law_deep", "_law_many", "_law_room"] (sp_law_rows K (D0 + 1)) := by
  refine Fn.mono (j := 7 + 2 * D0 + 1) (Fn.of T.f_law_rows sc_law_rows (fun _ _ _ _ _ _ us hl => match us, hl with | [_, _, _, _], _ => rfl) (fun vs H Q E h => ?_) (fun f cdv A outer s H vs Q E hr h => ⟨_, PSs.nox (pss_cons (ps_set (i := 4) sc_law_rows.nd rfl (Or.inl rfl) (pe_lst pa_nil))
  (pss_cons (ps_for PassesOwn.never rfl (pi_range1 (by rfl) T.b_range (pa_cons (pv 2) pa_nil)) (pg_name (i := 5) sc_law_rows.nd rfl (Or.inl rfl))
  (pss_cons (ps_asg (pe_op op_sub (pe_ix ix_list (pv 3) pe_int (fun _ _ => rfl)) pe_int) (pg_sub (pv 3) pe_int set_list))
  (pss_one (ps_expr (pe_bm PySem.F.plainAttrs_list PySem.F.slot_list_append PySem.F.type_list_append mt_append (pv 4) (pa_cons (pe_fn F_law_row (hr.mono (by omega)) (pa_cons (pv 0) (pa_cons (pe_cut (pe_ifExp (pt_cmpR op_gt (pe_ix ix_list (pv 3) pe_int (fun _ _ => rfl)) pe_int (nomark _)) (pv 1) pe_int)) (pa_cons (pv 3) pa_nil)))) pa_nil))))))
  (pss_one (ps_ret (pe_callTy call_tuple_of (by rfl) T.b_tuple (by decide +kernel) (pa_cons (pv 4) pa_nil)))))), ?_⟩)) (by omega)
  · obtain ⟨d, e, D, m, n, _, rfl, _⟩ := h
    rfl
  · obtain ⟨d, e, D, m, n, hD, rfl, hm, hd, hn, he, q⟩ := h
    rw [b37] at hn
    have hc := costR_pos D
    refine ⟨by show 0 ≤ sizeLine; omega, fun f hf => ?_⟩
    have fd := hd.ne hf
    have fe := he.new hf
    have ed := he.ned hd
    have mul4 : ∀ i : Nat, i ≤ 4 → (i : Int) * costR D ≤ 4 * costR D := fun i hi => Int.mul_le_mul_of_nonneg_right (by omega) (by omega)
    have step : ∀ i : Nat, ((i + 1 : Nat) : Int) * costR D = (i : Int) * costR D + costR D := fun i => by
      rw [Int.natCast_add, Int.add_mul]
      simp
    refine ⟨_, rfl, m, rfl, by rw [b62]; omega, by rw [b62]; omega, for_range (lo := 0) (fun i σ Hh => GrB2 d e H Hh ∧ Draw Hh d (n + i * costR D) ∧ RoomL Hh e ∧ (∃ (xs : List V) (ds : List PyData), Hh f = some (.lst xs) ∧ DpAll K Hh xs ds ∧ ds.length = i ∧ ∀ x ∈ ds, okRow D x) ∧ ∃ z, σ = [some (.ref d), some (.int D), some (.int m), some (.ref e), some (.ref f), z]) ?_ (fun i σ Hh hi pv => ?_) (fun σ Hh pv => ?_)⟩
    · refine ⟨(Gr.new hf).b2, (hd.upd fd).mono (by simp), ?_, ⟨[], [], upd_same, .nil, rfl, by simp⟩, _, rfl⟩
      obtain ⟨r, er⟩ := he
      exact ⟨r, by rw [upd_ne (Ne.symm fe)]; exact er⟩
    · obtain ⟨gh, dh, ⟨r, er⟩, ⟨xs, ds, ef, dx, ld, ok⟩, z, rfl⟩ := pv
      have hi4 : i < m := by omega
      have m1 := mul4 (i + 1) (by omega)
      rw [step] at m1
      refine ⟨_, rfl, e, [.int r], 0, _, rfl, rfl, sl_of er, atI_nat (j := 0) rfl, _, _, rfl, rfl, _, rfl, e, [.int r], 0, 0, rfl, rfl, er, rfl, ?_⟩
      have er1 : (upd Hh e (.lst ([V.int r].set 0 (V.int (r - 1))))) e = some (.lst [.int (r - 1)]) := upd_same
      have g1 : GrB2 d e Hh (upd Hh e (.lst ([V.int r].set 0 (V.int (r - 1))))) := GrB2.putE
      have d1 : Draw (upd Hh e (.lst ([V.int r].set 0 (V.int (r - 1))))) d (n + i * costR D) := dh.upd ed
      have k1 : Kt Hh (upd Hh e (.lst ([V.int r].set 0 (V.int (r - 1))))) := Kt.put (by rw [er]; exact True.intro)
      have ef1 := g1 _ _ ef fd fe
      generalize upd Hh e (.lst ([V.int r].set 0 (V.int (r - 1)))) = H1 at er1 g1 d1 k1 ef1
      refine ⟨_, rfl, .inl ⟨rfl, _, sl_of ef1⟩, _, rfl, fun v H' => (∃ D' : Nat, v = .int D' ∧ D' ≤ D) ∧ H' = H1, ?_, ?_⟩
      · refine ⟨_, rfl, e, _, 0, _, rfl, rfl, sl_of er1, atI_nat (j := 0) rfl, _, _, rfl, rfl, _, rfl, ite2 (fun _ => ?_) (fun _ => ?_)⟩
        · exact ⟨_, rfl, ⟨D, rfl, Nat.le_refl _⟩, rfl⟩
        · exact ⟨⟨0, rfl, Nat.zero_le _⟩, rfl⟩
      rintro v H' ⟨⟨D', rfl, hD'⟩, rfl⟩
      have cm := costR_mono hD'
      refine ⟨_, rfl, d, e, D', _, by omega, rfl, d1, by rw [b37]; omega, ⟨_, er1⟩, fun p H2 x g2 d2 r2 okx dp => ?_⟩
      have ef2 := g2 _ _ ef1 fd fe
      have g02 : GrB2 d e Hh H2 := g1.trans g2
      have k2 : Kt Hh H2 := g02.kt dh.nt (by rw [er]; exact True.intro)
      have kput : Kt H2 (upd H2 f (.lst (xs ++ [.ref p]))) := Kt.put (by rw [ef2]; exact True.intro)
      refine ⟨f, xs, _, rfl, rfl, ef2, ?_, ?_⟩
      · rw [DpAll.length dx, ld]
        exact Nat.lt_of_lt_of_le hi4 (Nat.le_trans hm (by decide))
      · refine ⟨(gh.trans g02).mut hf, (d2.upd fd).mono ?_, ?_, ⟨_, ds ++ [x], upd_same, ?_, by simp [ld], fun y hy => ?_⟩, _, rfl⟩
        · rw [step]
          omega
        · obtain ⟨r', e'⟩ := r2
          exact ⟨r', by rw [upd_ne (Ne.symm fe)]; exact e'⟩
        · have nd : nlAll (ds ++ [x]) = true := nlAll_of _ fun y hy => by
            rcases List.mem_append.mp hy with hy | hy
            · exact okRow_nl (ok y hy)
            · rw [List.mem_singleton.mp hy]
              exact okRow_nl okx
          exact DpAll.kt kput _ _ nd (DpAll.append (DpAll.kt k2 _ _ (nlAll_of _ fun y hy => okRow_nl (ok y hy)) dx) (.cons dp .nil))
        · rcases List.mem_append.mp hy with hy | hy
          · exact ok y hy
          · rw [List.mem_singleton.mp hy]
            exact okRow_mono hD' okx
    · obtain ⟨gh, dh, re, ⟨xs, ds, ef, dx, ld, ok⟩, z, rfl⟩ := pv
      have em : ((m : Int).toNat) = m := by omega
      rw [em] at ld dh
      refine ⟨_, rfl, f, xs, rfl, .inl ⟨sl_of ef, fun t ht => ?_⟩⟩
      have td := dh.ne ht
      have te := re.new ht
      refine q t _ ds (gh.mut (gh.free ht td te)) (dh.upd td) ?_ ld ok (.tup (st_of upd_same) (DpAll.gr (Gr.new ht) _ _ dx))
      obtain ⟨r', e'⟩ := re
      exact ⟨r', by rw [upd_ne (Ne.symm te)]; exact e'⟩
end
end K86
set_option Elab.async false
set_option linter.all false
set_option maxRecDepth 100000
set_option maxHeartbeats 4000000
/-! the rows' texts -/
namespace K86
open PySem PySem.Spec PyProof.Rows L2
def cntR : Nat → Nat
  | 0 => 8
  | d + 1 => 8 + 3 * cntR d
theorem cntR_ge (d : Nat) : 8 ≤ cntR d := by
  cases d with
  | zero => exact Nat.le_refl _
  | succ d => rw [cntR]; omega
section
variable {P : Program} {w : World} {K : PySem.W.Frag} {mg : Str → Option Value} {base : Heap}
abbrev rAddS : R2 := fun x y H Q => ∃ i j, x = .str i ∧ y = .str j ∧ i.length + j.length ≤ sizeLine ∧ Q (.str (i ++ j)) H
/-- [box + ' = ' + F(x) for box, x in pairs] -/
theorem lc_lines {α : Type} (sp : Sp) (fD : α → PyData) (ok : α → Prop) {n : Nat} {a : Addr} {H : Hp} {l : List (Str × α)} {xs : List V} {i j : Nat} {σ : L2.St} {Qd : Hp → Prop} {D : Addr} (hD : H D = none) (hn : n ≤ 2400) (ha : SqT K H a xs) (dx : DpAll K H xs (l.map fun x => PyData.tuple [.str x.1, fD x.2])) (hl : l.length ≤ 6) (hok : ∀ x ∈ l, nm x.1 ∧ ok x.2)
    (hF : ∀ (H : Hp) (v : V) (x : α) (Q : VK), Dp K H v (fD x) → ok x → (∀ (H' : Hp) (z : Str), Gr H H' → Tt z n 4 → Q (.str z) H') → sp [v] H Q E0)
    (h1 : ∀ v1 v2, (((wipe σ [i, j]).set i (some v1)).set j (some v2))[i]? = some (some v1)) (h2 : ∀ v1 v2, (((wipe σ [i, j]).set i (some v1)).set j (some v2))[j]? = some (some v2)) (h3 : ∀ v1 v2, wipe (((wipe σ [i, j]).set i (some v1)).set j (some v2)) [i, j] = wipe σ [i, j])
    (q : ∀ (H' : Hp) (ys : List Str), Gr H H' → H' D = some (.lst (ys.map V.str)) → ys.length = l.length → (∀ y ∈ ys, Tt y (11 + n) 6) → Qd H') :
    ∃ W : Nat → Nat → Hp → Prop, (∃ m, W 0 m (upd H D (.lst []))) ∧ ∀ i' m Hh, W i' m Hh →
      ((Itt K a).stop i' Hh ∧ Qd Hh) ∨ ((Itt K a).go i' Hh ∧ ∃ Nx : Hp → Prop, (∀ H', Nx H' → ∃ m', m' < m ∧ W (i' + 1) m' H') ∧ ∀ x H', (Itt K a).yld i' Hh x H' → (gTup K 2 (gCons (gName i) (gCons (gName j) gNil))) x (wipe σ [i, j]) H' fun σ2 H2 => wipe σ2 [i, j] = wipe σ [i, j] ∧ tYes σ2 H2 fun b H3 =>
        if b = true then (tOp rAddS (tOp rAddS (tVar i) (tC (.str " = "))) (tFn sp (tCons (tVar j) tNil))) σ2 H3 fun y H4 => ∃ acc, H4 D = some (.lst acc) ∧ acc.length < sizeLine ∧ Nx (upd H4 D (.lst (acc ++ [y]))) else Nx H3) := by
  have lx : xs.length = l.length := by rw [DpAll.length dx, List.length_map]
  have big : 10000 ≤ sizeLine := by decide
  refine lc_it walk_tup (fun k Hh => Gr H Hh ∧ ∃ ys : List Str, Hh D = some (.lst (ys.map V.str)) ∧ ys.length = k ∧ ∀ y ∈ ys, Tt y (11 + n) 6) ⟨Gr.new hD, [], upd_same, rfl, by simp⟩ (fun k Hh _ pv => pv.1.st ha) (fun k x Hh H' hk pv y => ?_) (fun Hh pv => ?_)
  · obtain ⟨rfl, hx⟩ := y
    obtain ⟨gh, ys, eD, ly, ty⟩ := pv
    obtain ⟨d, ed, dd⟩ := dpAll_ix dx hx
    rw [List.getElem?_map] at ed
    rw [lx] at hk
    rw [List.getElem?_eq_getElem hk] at ed
    cases ed
    have om' := hok _ (List.getElem_mem hk)
    generalize l[k] = tm at dd om'
    obtain ⟨t, b, m, rfl, ht, hb, hm⟩ := dp_two dd
    have eb := dp_str hb
    subst eb
    have tb := nm_tt om'.1
    have e3 : (" = " : Str).length = 3 := by decide +kernel
    have t3 : Tt (tm.1 ++ " = ") 11 2 := tb.app (tt_lit " = " 3 2 (by decide +kernel))
    refine ⟨t, _, rfl, gh.st ht, rfl, _, _, rfl, _, _, rfl, rfl, h3 _ _, _, h1 _ _, tm.1, " = ", rfl, rfl, ?_, _, h2 _ _, hF _ _ _ _ (Dp.gr gh _ _ hm) om'.2 fun H2 z g2 tz => ⟨tm.1 ++ " = ", z, rfl, rfl, ?_, ys.map V.str, g2 _ _ eD, ?_, (gh.trans g2).mut hD, ys ++ [tm.1 ++ " = " ++ z], ?_, by simp [ly], fun y hy => ?_⟩⟩
    · have := tb.l
      rw [e3]
      omega
    · have := t3.l
      have := tz.l
      omega
    · rw [List.length_map, ly]
      exact Nat.lt_of_lt_of_le hk (Nat.le_trans hl (by decide))
    · rw [upd_same, List.map_append] <;> rfl
    · rcases List.mem_append.mp hy with hy | hy
      · exact ty y hy
      · rw [List.mem_singleton.mp hy]
        exact t3.app tz
  · obtain ⟨gh, ys, eD, ly, ty⟩ := pv
    exact q Hh ys gh eD (by omega) ty
abbrev PolyTF (P : Program) (w : World) (K : PySem.W.Frag) (mg : Str → Option Value) (base : Heap) : Prop := Fn P w K mg base CX0 2 "_law_poly_text" ["_law_poly_here"] (sp_law_poly_text K)
abbrev FormTF (P : Program) (w : World) (K : PySem.W.Frag) (mg : Str → Option Value) (base : Heap) : Prop := Fn P w K mg base CX0 2 "_law_form_text" ["_law_form_here"] (sp_law_form_text K)
theorem tF_poly (H : Hp) (v : V) (x : List (Mo × Int)) (Q : VK) (h : Dp K H v (polyD x)) (o : okP x) (q : ∀ (H' : Hp) (z : Str), Gr H H' → Tt z 2000 4 → Q (.str z) H') : sp_law_poly_text K [v] H Q E0 := ⟨v, x, rfl, h, o, q⟩
theorem tF_form (H : Hp) (v : V) (x : List (Kd × Int × Int)) (Q : VK) (h : Dp K H v (formD x)) (o : okF x) (q : ∀ (H' : Hp) (z : Str), Gr H H' → Tt z 2300 4 → Q (.str z) H') : sp_law_form_text K [v] H Q E0 := ⟨v, x, rfl, h, o, q⟩
def sp_law_text_rows (K : PySem.W.Frag) (D0 : Nat) : Sp := fun vs H Q _ => ∃ (v : V) (ds : List PyData) (D : Nat), D < D0 ∧ D ≤ 5 ∧ vs = [v] ∧ Dp K H v (.tuple ds) ∧ (∀ x ∈ ds, okRow D x) ∧ ds.length ≤ 4 ∧
  ∀ (H' : Hp) (p : Addr) (ys : List Str), Gr H H' → H' p = some (.lst (ys.map V.str)) → (∀ y ∈ ys, Tt y 2500 6) → ys.length ≤ ds.length * cntR D → Q (.ref p) H'
theorem sc_law_text_rows : FnScope ["_law_program", "_law_found", "_law_row_here", "_law_box", "_law_poly_here", "_law_form_here"] ["_law_program"] (defScope s_law_text_rows) := ⟨rfl, rfl, rfl, by decide +kernel, rfl, by decide +kernel, by decide +kernel⟩
theorem cat_strs {H : Hp} {a b : Addr} {xs ys : List Str} {Q : VK} (ha : H a = some (.lst (xs.map V.str))) (hb : H b = some (.lst (ys.map V.str))) (hl : xs.length + ys.length ≤ sizeLine) (q : ∀ (p : Addr) (H' : Hp), H p = none → Gr H H' → H' p = some (.lst ((xs ++ ys).map V.str)) → Q (.ref p) H') : rCat (.ref a) (.ref b) H Q :=
  ⟨a, b, _, _, rfl, rfl, ha, hb, by rw [List.length_map, List.length_map]; exact hl, fun p hp => q p _ hp (Gr.new hp) (by rw [upd_same, List.map_append])⟩
theorem cnt5 {D : Nat} (h : D ≤ 5) : cntR D ≤ 3000 := by
  have : cntR 5 = 2912 := by decide
  have mono : ∀ a b : Nat, a ≤ b → cntR a ≤ cntR b := fun a b hab => by
    induction hab with
    | refl => exact Nat.le_refl _
    | step _ ih => rw [cntR]; omega
  have := mono _ _ h
  omega
theorem ok_law_text_rows (T : Tx K mg) (D0 : Nat) (F_law_poly_text : PolyTF P w K mg base) (F_law_form_text : FormTF P w K mg base) (F_law_text_rows : Fn P w K mg base CX0 (3 + D0) "_law_text_rows" ["_law_program"] (sp_law_text_rows K D0)) :
    Fn P w K mg base CX0 (3 + D0 + 1) "_law_text_rows" ["_law_program"] (sp_law_text_rows K (D0 + 1)) := by
  refine Fn.of T.f_law_text_rows sc_law_text_rows (fun _ _ _ _ _ _ us hl => match us, hl with | [_], _ => rfl) (fun vs H Q E h => ?_) (fun f cdv A outer s H vs Q E hr h => ⟨_, PSs.nox (pss_cons (ps_set (i := 1) sc_law_text_rows.nd rfl (Or.inl rfl) (pe_lst pa_nil))
  (pss_cons (ps_for PassesOwn.never rfl (pi_tup (pv 0)) (pg_name (i := 2) sc_law_text_rows.nd rfl (Or.inl rfl))
  (pss_one (ps_cut (ps_if (pt_cmpR op_eq (pe_ix ix_tup (pv 2) pe_int (fun _ _ => rfl)) pe_str (nomark _)) (pss_one (ps_expr (pe_bm PySem.F.plainAttrs_list PySem.F.slot_list_append PySem.F.type_list_append mt_append (pv 1) (pa_cons (pe_op op_add_str (pe_op op_add_str (pe_ix ix_tup (pv 2) pe_int (fun _ _ => rfl)) pe_str) (pe_fn F_law_poly_text (hr.mono (by omega)) (pa_cons (pe_ix ix_tup (pv 2) pe_int (fun _ _ => rfl)) pa_nil))) pa_nil)))) (pss_one (ps_cut (ps_if (pt_cmpR op_eq (pe_ix ix_tup (pv 2) pe_int (fun _ _ => rfl)) pe_str (nomark _)) (pss_one (ps_set (i := 1) sc_law_text_rows.nd rfl (Or.inl rfl) (pe_op op_cat (pe_op op_cat (pe_op op_cat (pv 1) (pe_lst (pa_cons pe_str pa_nil))) (pe_lc (own := [("_law_box", 3), ("_law_poly_here", 4)]) (g := (gTup K 2 (gCons (gName 3) (gCons (gName 4) gNil)))) (tt := tYes) (by rfl) sc_law_text_rows.nd (pi_tup (pe_ix ix_tup (pv 2) pe_int (fun _ _ => rfl))) (blkOk_by (own := [("_law_box", 3), ("_law_poly_here", 4)]) (N := ["_law_program", "_law_found", "_law_row_here", "_law_box", "_law_poly_here", "_law_form_here"]) (sc := defScope s_law_text_rows) (by decide +kernel)) (fun _ _ _ _ _ => (pg_tup rfl (pgs_cons (pg_name (i := 3) sc_law_text_rows.nd rfl (Or.inl rfl)) (pgs_cons (pg_name (i := 4) sc_law_text_rows.nd rfl (Or.inl rfl)) pgs_nil)))) (fun _ _ _ _ _ => pts_nil) (fun _ _ _ _ _ => (pe_op op_add_str (pe_op op_add_str (pv 3) pe_str) (pe_fn F_law_poly_text (hr.mono (by omega)) (pa_cons (pv 4) pa_nil)))))) (pe_lst (pa_cons pe_str pa_nil))))) (pss_cons (ps_expr (pe_bm PySem.F.plainAttrs_list PySem.F.slot_list_append PySem.F.type_list_append mt_append (pv 1) (pa_cons (pe_op op_add_str (pe_op op_add_str (pe_ix ix_tup (pv 2) pe_int (fun _ _ => rfl)) pe_str) (pe_fn F_law_poly_text (hr.mono (by omega)) (pa_cons (pe_ix ix_tup (pv 2) pe_int (fun _ _ => rfl)) pa_nil))) pa_nil)))
  (pss_cons (ps_cut (ps_if (pt_cmpR op_eq (pe_ix ix_tup (pv 2) pe_int (fun _ _ => rfl)) pe_str (nomark _)) (pss_one (ps_set (i := 1) sc_law_text_rows.nd rfl (Or.inl rfl) (pe_op op_cat (pe_op op_cat (pv 1) (pe_lc (own := [("_law_box", 3), ("_law_form_here", 5)]) (g := (gTup K 2 (gCons (gName 3) (gCons (gName 5) gNil)))) (tt := tYes) (by rfl) sc_law_text_rows.nd (pi_tup (pe_ix ix_tup (pv 2) pe_int (fun _ _ => rfl))) (blkOk_by (own := [("_law_box", 3), ("_law_form_here", 5)]) (N := ["_law_program", "_law_found", "_law_row_here", "_law_box", "_law_poly_here", "_law_form_here"]) (sc := defScope s_law_text_rows) (by decide +kernel)) (fun _ _ _ _ _ => (pg_tup rfl (pgs_cons (pg_name (i := 3) sc_law_text_rows.nd rfl (Or.inl rfl)) (pgs_cons (pg_name (i := 5) sc_law_text_rows.nd rfl (Or.inl rfl)) pgs_nil)))) (fun _ _ _ _ _ => pts_nil) (fun _ _ _ _ _ => (pe_op op_add_str (pe_op op_add_str (pv 3) pe_str) (pe_fn F_law_form_text (hr.mono (by omega)) (pa_cons (pv 5) pa_nil)))))) (pe_lst (pa_cons pe_str pa_nil))))) pss_nil))
  (pss_one (ps_set (i := 1) sc_law_text_rows.nd rfl (Or.inl rfl) (pe_op op_cat (pe_op op_cat (pv 1) (pe_fn F_law_text_rows (hr.mono (by omega)) (pa_cons (pe_ix ix_tup (pv 2) (pe_un un_neg pe_int) (fun _ _ => rfl)) pa_nil))) (pe_lst (pa_cons pe_str pa_nil))))))))))))))
  (pss_one (ps_ret (pv 1))))), ?_⟩)
  · obtain ⟨v, ds, D, _, _, rfl, _⟩ := h
    rfl
  · obtain ⟨v, ds, D, hD, hD5, rfl, hv, okr, ld, q⟩ := h
    have c3 := cnt5 hD5
    have c8 := cntR_ge D
    have big : 100000 ≤ sizeLine := by decide
    obtain ⟨a, xs, rfl, ha, dx⟩ := dp_tuple hv
    have lx : xs.length = ds.length := DpAll.length dx
    refine ⟨by show 0 ≤ sizeLine; omega, fun f0 hf0 => ⟨_, rfl, a, rfl, ⟨xs, (Gr.new hf0).st ha⟩, for_tup (xs := xs) (K := K) (fun i σ Hh => Gr H Hh ∧ ∃ (c : Addr) (ys : List Str) (z2 z3 z4 z5 : Option V), σ = [some (.ref a), some (.ref c), z2, z3, z4, z5] ∧ H c = none ∧ Hh c = some (.lst (ys.map V.str)) ∧ ys.length ≤ i * cntR D ∧ ∀ y ∈ ys, Tt y 2500 6) ⟨Gr.new hf0, f0, [], _, _, _, _, rfl, hf0, upd_same, by simp, by simp⟩ (fun i σ Hh _ pv => pv.1.st ha) (fun i x σ Hh hx pv => ?_) (fun σ Hh pv => ?_)⟩⟩
    · obtain ⟨gh, c, ys, z2, z3, z4, z5, rfl, hc0, ec, ly, ty⟩ := pv
      obtain ⟨d, ed, dd⟩ := dpAll_ix dx hx
      have hi : i < ds.length := by rw [← lx]; exact (List.getElem?_eq_some_iff.mp hx).1
      have okd := okr d (List.mem_of_getElem? ed)
      have ddh := Dp.gr gh _ _ dd
      have iC : i * cntR D ≤ 3 * cntR D := Nat.mul_le_mul_right _ (by omega)
      have sC : (i + 1) * cntR D = i * cntR D + cntR D := Nat.succ_mul _ _
      have kinds : (∃ b p, nm b ∧ okP p ∧ d = .tuple [.str "set", .str b, polyD p]) ∨ (∃ l : List (Str × List (Mo × Int)), l.length ≤ 6 ∧ (∀ y ∈ l, nm y.1 ∧ okP y.2) ∧ d = .tuple [.str "both", bothD l]) ∨
          (∃ (D1 : Nat) (cp : List (Mo × Int)) (rs : List PyData), D = D1 + 1 ∧ okP cp ∧ rs.length ≤ 3 ∧ (∀ r ∈ rs, okRow D1 r) ∧ d = .tuple [.str "loop", polyD cp, .tuple rs]) ∨
          ∃ (D1 : Nat) (cp : List (Mo × Int)) (l : List (Str × List (Kd × Int × Int))) (rs : List PyData), D = D1 + 1 ∧ okP cp ∧ l.length ≤ 4 ∧ (∀ y ∈ l, nm y.1 ∧ okF y.2) ∧ rs.length ≤ 3 ∧ (∀ r ∈ rs, okRow D1 r) ∧ d = .tuple [.str "jump", polyD cp, jumpD l, .tuple rs] := by
        cases D with
        | zero =>
          rcases okd with h | h
          · exact .inl h
          · exact .inr (.inl h)
        | succ D1 =>
          rcases okd with (h | h) | ⟨cp, rs, h1, h2, h3, h4⟩ | ⟨cp, l, rs, h1, h2, h3, h4, h5, h6⟩
          · exact .inl h
          · exact .inr (.inl h)
          · exact .inr (.inr (.inl ⟨D1, cp, rs, rfl, h1, h2, h3, h4⟩))
          · exact .inr (.inr (.inr ⟨D1, cp, l, rs, rfl, h1, h2, h3, h4, h5, h6⟩))
      refine ⟨_, ?_, fun σ' H' h => h⟩
      have fin_ : ∀ (H' : Hp) (c' : Addr) (ys' : List Str) (z2 z3 z4 z5 : Option V), Gr H H' → H c' = none → H' c' = some (.lst (ys'.map V.str)) → ys'.length ≤ i * cntR D + cntR D → (∀ y ∈ ys', Tt y 2500 6) →
          Gr H H' ∧ ∃ (c : Addr) (ys : List Str) (z2' z3' z4' z5' : Option V), [some (.ref a), some (.ref c'), z2, z3, z4, z5] = [some (.ref a), some (.ref c), z2', z3', z4', z5'] ∧ H c = none ∧ H' c = some (.lst (ys.map V.str)) ∧ ys.length ≤ (i + 1) * cntR D ∧ ∀ y ∈ ys, Tt y 2500 6 :=
        fun H' c' ys' z2 z3 z4 z5 g hc e l t => ⟨g, c', ys', _, _, _, _, rfl, hc, e, by rw [sC]; exact l, t⟩
      have e3 : (" = " : Str).length = 3 := by decide +kernel
      have e1 : (" " : Str).length = 1 := by decide +kernel
      have tEnd : Tt ("end" : Str) 2500 6 := tt_lit _ _ _ (by decide +kernel)
      have tBoth : Tt ("both" : Str) 2500 6 := tt_lit _ _ _ (by decide +kernel)
      have tBy : Tt ("by" : Str) 2500 6 := tt_lit _ _ _ (by decide +kernel)
      have app2 : ∀ {xs ys : List Str}, (∀ y ∈ xs, Tt y 2500 6) → (∀ y ∈ ys, Tt y 2500 6) → ∀ y ∈ xs ++ ys, Tt y 2500 6 := fun h1 h2 y hy => (List.mem_append.mp hy).elim (h1 y) (h2 y)
      have one : ∀ {x : Str}, Tt x 2500 6 → ∀ y ∈ [x], Tt y 2500 6 := fun h y hy => by rw [List.mem_singleton.mp hy]; exact h
      rcases kinds with ⟨b, p, nb, op, rfl⟩ | ⟨l, ll, ol, rfl⟩ | ⟨D1, cp, rs, rfl, oc, lr, or_, rfl⟩ | ⟨D1, cp, l, rs, rfl, oc, ll, ol, lr, or_, rfl⟩
      · obtain ⟨t, x1, x2, x3, rfl, ht, d1, d2, d3⟩ := dp_three ddh
        have eb1 := dp_str d1
        have eb2 := dp_str d2
        subst eb1 eb2
        refine ⟨_, rfl, t, _, 0, _, rfl, rfl, ht, atI_nat (j := 0) rfl, rfl, _, rfl, iteT (decide_eq_true rfl) ?_⟩
        have t3 : Tt (b ++ " = ") 11 2 := (nm_tt nb).app (tt_lit " = " 3 2 (by decide +kernel))
        refine ⟨_, rfl, .inl ⟨rfl, _, sl_of ec⟩, _, rfl, t, _, 1, _, rfl, rfl, ht, atI_nat (j := 1) rfl, b, " = ", rfl, rfl, ?_, _, rfl, t, _, 2, _, rfl, rfl, ht, atI_nat (j := 2) rfl, _, p, rfl, d3, op, fun H2 z g2 tz => ⟨b ++ " = ", z, rfl, rfl, ?_, c, ys.map V.str, _, rfl, rfl, g2 _ _ ec, ?_, ?_⟩⟩
        · have := (nm_tt nb).l
          rw [e3]
          omega
        · have := t3.l
          have := tz.l
          omega
        · rw [List.length_map]
          omega
        · refine fin_ _ c (ys ++ [b ++ " = " ++ z]) _ _ _ _ ((gh.trans g2).mut hc0) hc0 (by rw [upd_same, List.map_append] <;> rfl) (by simp; omega) (app2 ty (one ((t3.app tz).mono (by decide) (Nat.le_refl _))))
      · obtain ⟨t, x1, x2, rfl, ht, d1, d2⟩ := dp_two ddh
        have eb1 := dp_str d1
        subst eb1
        refine ⟨_, rfl, t, _, 0, _, rfl, rfl, ht, atI_nat (j := 0) rfl, rfl, _, rfl, iteF (by decide +kernel) ?_⟩
        refine ⟨_, ?_, fun σ' H' h => h⟩
        refine ⟨_, rfl, t, _, 0, _, rfl, rfl, ht, atI_nat (j := 0) rfl, rfl, _, rfl, iteT (decide_eq_true rfl) ?_⟩
        refine ⟨_, rfl, by show 1 ≤ sizeLine; decide, fun p1 h1 => ?_⟩
        have g1 : Gr Hh (upd Hh p1 (.lst [.str "both"])) := Gr.new h1
        refine cat_strs (xs := ys) (ys := ["both"]) (g1 _ _ ec) upd_same (by simp; omega) fun p2 H2 h2 g2 e2 => ?_
        obtain ⟨ta, txs, rfl, hta, dta⟩ := dp_tuple d2
        refine ⟨_, rfl, t, _, 1, _, rfl, rfl, (g1.trans g2).st ht, atI_nat (j := 1) rfl, ta, rfl, ⟨_, (g1.trans g2).st hta⟩, fun D2 hD2 => ?_⟩
        refine lc_lines (sp_law_poly_text K) polyD okP (n := 2000) (i := 3) (j := 4) (l := l) hD2 (by decide) ((g1.trans g2).st hta) (DpAll.gr (g1.trans g2) _ _ dta) ll ol tF_poly (fun _ _ => by rfl) (fun _ _ => by rfl) (fun _ _ => by rfl) (fun H3 zs g3 e3 lz tz => ?_)
        refine cat_strs (g3 _ _ e2) e3 (by simp; omega) fun p4 H4 h4 g4 e4 => ⟨by show 1 ≤ sizeLine; decide, fun p5 h5 => ?_⟩
        have g5 : Gr H4 (upd H4 p5 (.lst [.str "end"])) := Gr.new h5
        refine cat_strs (ys := ["end"]) (g5 _ _ e4) upd_same (by simp; omega) fun p6 H6 h6 g6 e6 => ?_
        have gg := (((gh.trans g1).trans g2).trans g3).trans (g4.trans g5)
        exact fin_ H6 p6 _ _ _ _ _ (gg.trans g6) (gg.free h6) e6 (by simp; omega) (app2 (app2 (app2 ty (one tBoth)) (fun y hy => (tz y hy).mono (by decide) (Nat.le_refl _))) (one tEnd))
      · obtain ⟨t, x1, x2, x3, rfl, ht, d1, d2, d3⟩ := dp_three ddh
        have eb1 := dp_str d1
        subst eb1
        have c81 := cntR_ge D1
        have cS : cntR (D1 + 1) = 8 + 3 * cntR D1 := rfl
        refine ⟨_, rfl, t, _, 0, _, rfl, rfl, ht, atI_nat (j := 0) rfl, rfl, _, rfl, iteF (by decide +kernel) ?_⟩
        refine ⟨_, ?_, fun σ' H' h => h⟩
        refine ⟨_, rfl, t, _, 0, _, rfl, rfl, ht, atI_nat (j := 0) rfl, rfl, _, rfl, iteF (by decide +kernel) ?_⟩
        have t3 : Tt (("loop" : Str) ++ " ") 5 1 := tt_lit _ _ _ (by decide +kernel)
        refine ⟨_, rfl, .inl ⟨rfl, _, sl_of ec⟩, _, rfl, t, _, 0, _, rfl, rfl, ht, atI_nat (j := 0) rfl, "loop", " ", rfl, rfl, by decide +kernel, _, rfl, t, _, 1, _, rfl, rfl, ht, atI_nat (j := 1) rfl, _, cp, rfl, d2, oc, fun H2 z g2 tz => ⟨("loop" : Str) ++ " ", z, rfl, rfl, ?_, c, ys.map V.str, _, rfl, rfl, g2 _ _ ec, ?_, ?_⟩⟩
        · have := t3.l
          have := tz.l
          omega
        · rw [List.length_map]
          omega
        have g3 := (gh.trans g2).mut (o := .lst (ys.map V.str ++ [.str (("loop" : Str) ++ " " ++ z)])) hc0
        have e3' : (upd H2 c (.lst (ys.map V.str ++ [.str (("loop" : Str) ++ " " ++ z)]))) c = some (.lst ((ys ++ [("loop" : Str) ++ " " ++ z]).map V.str)) := by rw [upd_same, List.map_append] <;> rfl
        have k3 : Kt Hh (upd H2 c (.lst (ys.map V.str ++ [.str (("loop" : Str) ++ " " ++ z)]))) := g2.kt.trans (Kt.put (by rw [g2 _ _ ec]; exact True.intro))
        have ty3 := app2 ty (one ((t3.app tz).mono (m := 2500) (c := 6) (by decide) (by decide)))
        refine ⟨_, ?_, fun σ' H' h => h⟩
        refine ⟨_, rfl, t, _, 0, _, rfl, rfl, k3.st ht, atI_nat (j := 0) rfl, rfl, _, rfl, iteF (by decide +kernel) ?_⟩
        refine ⟨_, rfl, _, rfl, 1, rfl, t, _, -1, _, rfl, rfl, k3.st ht, atI_last [.str "loop", x2] x3, x3, rs, D1, by omega, by omega, rfl, Dp.kt k3 _ _ (by rw [nl]; exact nlAll_of rs fun r hr' => okRow_nl (or_ r hr')) d3, or_, by omega, fun H4 p4 ys4 g4 e4 t4 l4 => ?_⟩
        have l4' : ys4.length ≤ 3 * cntR D1 := Nat.le_trans l4 (Nat.mul_le_mul_right _ lr)
        refine cat_strs (g4 _ _ e3') e4 (by simp; omega) fun p5 H5 h5 g5 e5 => ⟨by show 1 ≤ sizeLine; decide, fun p6 h6 => ?_⟩
        have g6 : Gr H5 (upd H5 p6 (.lst [.str "end"])) := Gr.new h6
        refine cat_strs (ys := ["end"]) (g6 _ _ e5) upd_same (by simp; omega) fun p7 H7 h7 g7 e7 => ?_
        have gg := ((g3.trans g4).trans g5).trans g6
        exact fin_ H7 p7 _ _ _ _ _ (gg.trans g7) (gg.free h7) e7 (by simp; omega) (app2 (app2 ty3 t4) (one tEnd))
      · obtain ⟨t, txs, rfl, ht, dd4⟩ := dp_tuple ddh
        obtain ⟨x1, r1, rfl, d1, dd4⟩ := dpAll_cons dd4
        obtain ⟨x2, r2, rfl, d2, dd4⟩ := dpAll_cons dd4
        obtain ⟨x3, r3, rfl, d3, dd4⟩ := dpAll_cons dd4
        obtain ⟨x4, r4, rfl, d4, dd4⟩ := dpAll_cons dd4
        have er := dpAll_nil dd4
        subst er
        have eb1 := dp_str d1
        subst eb1
        have c81 := cntR_ge D1
        have cS : cntR (D1 + 1) = 8 + 3 * cntR D1 := rfl
        refine ⟨_, rfl, t, _, 0, _, rfl, rfl, ht, atI_nat (j := 0) rfl, rfl, _, rfl, iteF (by decide +kernel) ?_⟩
        refine ⟨_, ?_, fun σ' H' h => h⟩
        refine ⟨_, rfl, t, _, 0, _, rfl, rfl, ht, atI_nat (j := 0) rfl, rfl, _, rfl, iteF (by decide +kernel) ?_⟩
        have t3 : Tt (("jump" : Str) ++ " ") 5 1 := tt_lit _ _ _ (by decide +kernel)
        refine ⟨_, rfl, .inl ⟨rfl, _, sl_of ec⟩, _, rfl, t, _, 0, _, rfl, rfl, ht, atI_nat (j := 0) rfl, "jump", " ", rfl, rfl, by decide +kernel, _, rfl, t, _, 1, _, rfl, rfl, ht, atI_nat (j := 1) rfl, _, cp, rfl, d2, oc, fun H2 z g2 tz => ⟨("jump" : Str) ++ " ", z, rfl, rfl, ?_, c, ys.map V.str, _, rfl, rfl, g2 _ _ ec, ?_, ?_⟩⟩
        · have := t3.l
          have := tz.l
          omega
        · rw [List.length_map]
          omega
        have g3 := (gh.trans g2).mut (o := .lst (ys.map V.str ++ [.str (("jump" : Str) ++ " " ++ z)])) hc0
        have e3' : (upd H2 c (.lst (ys.map V.str ++ [.str (("jump" : Str) ++ " " ++ z)]))) c = some (.lst ((ys ++ [("jump" : Str) ++ " " ++ z]).map V.str)) := by rw [upd_same, List.map_append] <;> rfl
        have k3 : Kt Hh (upd H2 c (.lst (ys.map V.str ++ [.str (("jump" : Str) ++ " " ++ z)]))) := g2.kt.trans (Kt.put (by rw [g2 _ _ ec]; exact True.intro))
        have ty3 := app2 ty (one ((t3.app tz).mono (m := 2500) (c := 6) (by decide) (by decide)))
        generalize upd H2 c (.lst (ys.map V.str ++ [.str (("jump" : Str) ++ " " ++ z)])) = H3 at g3 e3' k3
        refine ⟨fun σ' H' => ∃ (c' : Addr) (ys' : List Str) (z3 z4 z5 : Option V), σ' = [some (.ref a), some (.ref c'), some (.ref t), z3, z4, z5] ∧ Gr H3 H' ∧ H' c' = some (.lst (ys'.map V.str)) ∧ ys'.length ≤ ys.length + 6 ∧ ∀ y ∈ ys', Tt y 2500 6, ?_, ?_⟩
        · refine ⟨_, rfl, t, _, 0, _, rfl, rfl, k3.st ht, atI_nat (j := 0) rfl, rfl, _, rfl, iteT (decide_eq_true rfl) ?_⟩
          obtain ⟨ta, txs, rfl, hta, dta⟩ := dp_tuple (Dp.kt k3 _ _ (nl_jump _) d3)
          refine ⟨_, rfl, _, rfl, t, _, 2, _, rfl, rfl, k3.st ht, atI_nat (j := 2) rfl, ta, rfl, ⟨_, hta⟩, fun D2 hD2 => ?_⟩
          refine lc_lines (sp_law_form_text K) formD okF (n := 2300) (i := 3) (j := 5) (l := l) hD2 (by decide) hta dta (by omega) ol tF_form (fun _ _ => by rfl) (fun _ _ => by rfl) (fun _ _ => by rfl) (fun H4 zs g4 e4 lz tz4 => ?_)
          refine cat_strs (g4 _ _ e3') e4 (by simp; omega) fun p5 H5 h5 g5 e5 => ⟨by show 1 ≤ sizeLine; decide, fun p6 h6 => ?_⟩
          have g6 : Gr H5 (upd H5 p6 (.lst [.str "by"])) := Gr.new h6
          refine cat_strs (ys := ["by"]) (g6 _ _ e5) upd_same (by simp; omega) fun p7 H7 h7 g7 e7 => ?_
          exact ⟨p7, _, _, _, _, rfl, ((g4.trans g5).trans g6).trans g7, e7, by simp; omega, app2 (app2 ty3 (fun y hy => (tz4 y hy).mono (by decide) (Nat.le_refl _))) (one tBy)⟩
        rintro σ' H' ⟨c', ys', z3', z4', z5', rfl, g3', ec', ly', ty'⟩
        have k4 := k3.trans g3'.kt
        refine ⟨_, rfl, _, rfl, 1, rfl, t, _, -1, _, rfl, rfl, k4.st ht, atI_last [.str "jump", x2, x3] x4, x4, rs, D1, by omega, by omega, rfl, Dp.kt k4 _ _ (by rw [nl]; exact nlAll_of rs fun r hr' => okRow_nl (or_ r hr')) d4, or_, by omega, fun H4 p4 ys4 g4 e4 t4 l4 => ?_⟩
        have l4' : ys4.length ≤ 3 * cntR D1 := Nat.le_trans l4 (Nat.mul_le_mul_right _ lr)
        refine cat_strs (g4 _ _ ec') e4 (by omega) fun p5 H5 h5 g5 e5 => ⟨by show 1 ≤ sizeLine; decide, fun p6 h6 => ?_⟩
        have g6 : Gr H5 (upd H5 p6 (.lst [.str "end"])) := Gr.new h6
        refine cat_strs (ys := ["end"]) (g6 _ _ e5) upd_same (by simp; omega) fun p7 H7 h7 g7 e7 => ?_
        have gg := (((g3.trans g3').trans g4).trans g5).trans g6
        exact fin_ H7 p7 _ _ _ _ _ (gg.trans g7) (gg.free h7) e7 (by simp; omega) (app2 (app2 ty' t4) (one tEnd))
    · obtain ⟨gh, c, ys, z2, z3, z4, z5, rfl, hc0, ec, ly, ty⟩ := pv
      rw [lx] at ly
      exact ⟨_, rfl, q _ _ _ gh ec ty ly⟩
end
end K86
set_option Elab.async false
set_option linter.all false
set_option maxRecDepth 100000
set_option maxHeartbeats 4000000
/-! sorted(set(texts)) -/
namespace K86
open PySem PySem.Spec PyProof.Rows L2
def nameOf (e : Int × Value) : Str := match e.2 with
  | .str x _ => x
  | _ => Str.empty
def TxtE (w : World) (e : Int × Value) : Prop := ∃ x tk, e.2 = Value.str x tk ∧ e.1 = hashStr w x
/-- the set at a of the texts xs -/
def SetX (w : World) (h : Heap) (a : Addr) (xs : List Str) : Prop :=
  ∃ o es ep t, h.get? a = some o ∧ o.ExactSet ∧ o.data = .set es ep t ∧ (∀ e ∈ es.toList, TxtE w e) ∧ (es.toList.map nameOf).Perm xs ∧ xs.Nodup ∧ es.size < scanBound ∧ t.fits es.size = true ∧ Ris t.place.toList ∧ (w.params.followText "set-order" = true ∨ t.led = true)
section
variable {P : Program} {w : World} {A : Around} {E : Value → Shared → Prop} {s : Shared} {a : Addr} {xs : List Str}
theorem txt_is (x : Str) (tk : Tok) : (strKind P w).is x (.str x tk) = true := by
  show Value.isStrOf x (.str x tk) = true
  simp [Value.isStrOf]
theorem txt_elems {l : List (Int × Value)} (g : ∀ e ∈ l, TxtE w e) : ElemsOf (strKind P w) l := fun e he => by
  obtain ⟨x, tk, h1, h2⟩ := g e he
  refine ⟨⟨x, ?_, h2⟩, ?_⟩
  · rw [h1]
    exact txt_is x tk
  · rw [h1] <;> rfl
theorem txt_eq {e : Int × Value} (g : TxtE w e) (x : Str) : (strKind P w).is x e.2 = true ↔ nameOf e = x := by
  obtain ⟨y, tk, h1, _⟩ := g
  unfold nameOf
  rw [h1]
  show Value.isStrOf x (.str y tk) = true ↔ y = x
  simp [Value.isStrOf]
theorem txt_mem {l : List (Int × Value)} (g : ∀ e ∈ l, TxtE w e) (x : Str) : x ∈ l.map nameOf ↔ ∃ e ∈ l, (strKind P w).is x e.2 = true := by
  rw [List.mem_map]
  exact ⟨fun ⟨e, he, q⟩ => ⟨e, he, (txt_eq (g e he) x).2 q⟩, fun ⟨e, he, q⟩ => ⟨e, he, (txt_eq (g e he) x).1 q⟩⟩
theorem SetX.keep {h h' : Heap} (R : SetX w h a xs) (k : ∀ o, h.get? a = some o → h'.get? a = some o) : SetX w h' a xs := by
  obtain ⟨o, es, ep, t, ho, r⟩ := R
  exact ⟨o, es, ep, t, k o ho, r⟩
theorem setX_tail {g : Bool → Sem Unit} (hg : ∀ (b : Bool) (s₁ : Shared) (Q' : Unit → Shared → Prop), Q' () s₁ → wpAny (model P w) A (g b) Q' E s₁) {o : Obj} {es es1 : Array (Int × Value)} {ep : Nat} {t t2 : SetTable} (ho : s.heap.get? a = some o) (hex : o.ExactSet)
    (hd : o.data = .set es ep t) (g1 : ∀ e ∈ es1.toList, TxtE w e) (p1 : (es1.toList.map nameOf).Perm xs) (nd : xs.Nodup) (hb1 : es1.size < scanBound) (hf2 : t2.fits es1.size = true) (hr : Ris t2.place.toList) (hl : w.params.followText "set-order" = true ∨ t2.led = true)
    {wasDummy : Bool} {R : Option Bool → Shared → Prop} (hR : ∀ h', Heap.SameBut a s.heap h' → SetX w h' a xs → R (some true) { s with heap := h' }) :
    wpAny (model P w) A (do storeSet a es1 t2; if (!wasDummy && t2.tooFull) = true then (do g (relayAll t2 es1 (SetTable.grown es1.size)).2.2; storeSet a (relayAll t2 es1 (SetTable.grown es1.size)).1 (relayAll t2 es1 (SetTable.grown es1.size)).2.1; pure (some true)) else pure (some true)) R E s := by
  refine wpAny_bind (wpAny_storeSet_of ho hd ?_ (fits_of_scanBound hb1))
  have o1 := store_at (es' := es1) (t' := t2) ho hd
  have q1 := Heap.SameBut.update s.heap a (Obj.putSet es1 t2)
  split
  · have z1 := relayAll_perm t2 es1 (SetTable.grown es1.size)
    have z2 := relayAll_fits t2 es1 (SetTable.grown es1.size)
    have z3 := relayAll_ris t2 es1 (SetTable.grown es1.size)
    have z4 := relayAll_led t2 es1 (SetTable.grown es1.size)
    generalize relayAll t2 es1 (SetTable.grown es1.size) = Z at z1 z2 z3 z4 ⊢
    obtain ⟨es2, t3, gave⟩ := Z
    dsimp only at z1 z2 z3 z4 ⊢
    have z5 : es2.size = es1.size := by rw [← Array.length_toList, z1.length_eq, Array.length_toList]
    have z6 : es2.size < scanBound := z5 ▸ hb1
    refine wpAny_bind (hg _ _ _ (wpAny_bind (wpAny_storeSet_of o1 rfl ?_ (fits_of_scanBound z6))))
    have o2 := store_at (es' := es2) (t' := t3) o1 rfl
    exact wpAny_pure (hR _ (q1.trans (Heap.SameBut.update _ a _)) ⟨_, es2, _, t3, o2, hex, rfl, fun e he => g1 e (z1.mem_iff.mp he), (z1.map nameOf).trans p1, nd, z6, z2, z3, hl.imp id fun z => z4 ▸ z⟩)
  · exact wpAny_pure (hR _ q1 ⟨_, es1, _, t2, o1, hex, rfl, g1, p1, nd, hb1, hf2, hr, hl⟩)
/-- one text more -/
def addX (xs : List Str) (x : Str) : List Str := if x ∈ xs then xs else x :: xs
theorem setX_add {x : Str} {tk : Tok} {Q : Bool → Shared → Prop} (R : SetX w s.heap a xs) (room : xs.length + 1 < scanBound) (hQ : ∀ b h', Heap.SameBut a s.heap h' → SetX w h' a (addX xs x) → Q b { s with heap := h' }) :
    wpAny (model P w) A (setAddHashed a (.str x tk) ((strKind P w).hash x)) Q E s := by
  obtain ⟨o, es, ep, t, ho, hex, hd, g, pm0, nd, hb, hf, hr, hl⟩ := R
  have hn : es.size = xs.length := by rw [← pm0.length_eq, List.length_map, Array.length_toList]
  have hkey : (strKind P w).is x (.str x tk) = true := txt_is x tk
  have hsc : (Value.str x tk).scannable = true := rfl
  have hel : ElemsOf (strKind P w) es.toList := txt_elems g
  unfold setAddHashed setAddHashedIn
  refine wpAny_holding (wpAny_bind (wpAny_setState_of ho hd hf ?_))
  dsimp only
  rw [byScan_of hsc hb hel]
  simp only [↓reduceIte]
  unfold setAddByScan
  refine wpAny_bind (wpAny_bind (wpAny_rule (wpAny_bind (wpAny_setScan_of hkey ho hd hf hel ?_))))
  cases hfi : List.findIdx? (fun e => (strKind P w).is x e.2) es.toList with
  | some j =>
    dsimp only
    obtain ⟨hj, pj, _⟩ := List.findIdx?_eq_some_iff_getElem.mp hfi
    have hm : x ∈ xs := pm0.mem_iff.mp ((txt_mem (P := P) (w := w) g x).2 ⟨es.toList[j], List.getElem_mem hj, pj⟩)
    have ea : addX xs x = xs := if_pos hm
    exact wpAny_pure (wpAny_pure (hQ _ s.heap (Heap.SameBut.refl a s.heap) (by rw [ea]; exact ⟨o, es, ep, t, ho, hex, hd, g, pm0, nd, hb, hf, hr, hl⟩)))
  | none =>
    dsimp only
    have hnk : x ∉ xs := fun z => by
      obtain ⟨e, he, q⟩ := (txt_mem (P := P) (w := w) g x).1 (pm0.mem_iff.mpr z)
      have c := List.findIdx?_eq_none_iff.mp hfi e he
      rw [q] at c
      cases c
    have ea : addX xs x = x :: xs := if_neg hnk
    have gave_ : ∀ (b : Bool) {s₁ : Shared} {Q' : Unit → Shared → Prop}, Q' () s₁ → wpAny (model P w) A (match b with | true => rule "set.scan.the-table-gave-way" | false => pure ()) Q' E s₁ := fun b s₁ Q' q => by
      cases b
      · exact wpAny_pure q
      · exact wpAny_rule q
    have y1 := layNew_perm t es ((strKind P w).hash x) (.str x tk)
    have y2 := layNew_fits t es ((strKind P w).hash x) (.str x tk)
    have y3 := layNew_ris t es ((strKind P w).hash x) (.str x tk) hr
    have y4 := layNew_led t es ((strKind P w).hash x) (.str x tk)
    generalize layNew t es ((strKind P w).hash x) (.str x tk) = Z at y1 y2 y3 y4 ⊢
    obtain ⟨es1, t1, wasDummy, gave⟩ := Z
    dsimp only at y1 y2 y3 y4 ⊢
    rw [Array.toList_push] at y1
    have pc : es1.toList.Perm (((strKind P w).hash x, Value.str x tk) :: es.toList) := y1.trans (List.perm_append_singleton _ _)
    have pk : (es1.toList.map nameOf).Perm (x :: xs) := (pc.map nameOf).trans (pm0.cons x)
    have g1 : ∀ e ∈ es1.toList, TxtE w e := fun e he => by
      rcases List.mem_cons.mp (pc.mem_iff.mp he) with z | z
      · exact ⟨x, tk, by rw [z], by rw [z] <;> rfl⟩
      · exact g e z
    have nd1 : (x :: xs).Nodup := List.nodup_cons.mpr ⟨hnk, nd⟩
    have y5 : es1.size < scanBound := by
      rw [← Array.length_toList, pc.length_eq, List.length_cons, Array.length_toList, hn]
      exact room
    have y6 : w.params.followText "set-order" = true ∨ t1.led = true := hl.imp id fun z => by rw [y4]; exact z
    have fin_ : ∀ h', Heap.SameBut a s.heap h' → SetX w h' a (x :: xs) → Q true { s with heap := h' } := fun h' sb r => hQ true h' sb (by rw [ea]; exact r)
    refine wpAny_bind (gave_ _ ?_)
    split
    · refine wpAny_bind ?_
      rw [hashByValue_scannable 8 hsc]
      refine wpAny_pure (setX_tail (fun b s₁ Q' q => by cases b <;> first | exact wpAny_pure q | exact wpAny_rule q) ho hex hd g1 pk nd1 y5 ?_ ?_ ?_ fun h' sb r => ?_)
      · first | (split <;> first | exact y2 | exact SetTable.fits_plain_off y2) | exact y2
      · first | (split <;> exact y3) | exact y3
      · first | (split <;> exact y6) | exact y6
      · dsimp only
        exact wpAny_pure (fin_ h' sb r)
    · refine wpAny_bind (wpAny_pure ?_)
      simp only [↓reduceIte]
      refine setX_tail (fun b s₁ Q' q => by cases b <;> first | exact wpAny_pure q | exact wpAny_rule q) ho hex hd g1 pk nd1 y5 y2 y3 y6 fun h' sb r => ?_
      dsimp only
      exact wpAny_pure (fin_ h' sb r)
end
end K86
set_option Elab.async false
set_option linter.all false
set_option maxRecDepth 100000
set_option maxHeartbeats 8000000
/-! set(a list of texts), sorted -/
namespace K86
open PySem PySem.Spec PyProof.Rows L2
/-- the texts met so far, each once -/
def metX (ys : List Str) (i : Nat) : List Str := (ys.take i).foldl addX []
theorem metX_succ {ys : List Str} {i : Nat} {y : Str} (h : ys[i]? = some y) : metX ys (i + 1) = addX (metX ys i) y := by
  unfold metX
  rw [List.take_succ, h, Option.toList_some, List.foldl_append] <;> rfl
theorem addX_len (xs : List Str) (x : Str) : (addX xs x).length ≤ xs.length + 1 := by
  unfold addX
  split <;> simp
theorem addX_nodup {xs : List Str} (h : xs.Nodup) (x : Str) : (addX xs x).Nodup := by
  unfold addX
  split
  · exact h
  · rename_i q
    exact List.nodup_cons.mpr ⟨q, h⟩
theorem mem_addX {xs : List Str} {x y : Str} : y ∈ addX xs x ↔ y = x ∨ y ∈ xs := by
  unfold addX
  split
  · rename_i q
    exact ⟨.inr, fun h => h.elim (fun e => e ▸ q) id⟩
  · exact List.mem_cons
theorem foldl_addX : ∀ (l acc : List Str), ((∀ y, y ∈ l.foldl addX acc ↔ y ∈ l ∨ y ∈ acc) ∧ (acc.Nodup → (l.foldl addX acc).Nodup) ∧ (l.foldl addX acc).length ≤ acc.length + l.length)
  | [], acc => ⟨fun y => by simp, id, by simp⟩
  | x :: l, acc => by
    obtain ⟨h1, h2, h3⟩ := foldl_addX l (addX acc x)
    refine ⟨fun y => ?_, fun n => h2 (addX_nodup n x), ?_⟩
    · rw [List.foldl_cons, h1, mem_addX, List.mem_cons]
      constructor
      · rintro (h | h | h)
        · exact .inl (.inr h)
        · exact .inl (.inl h)
        · exact .inr h
      · rintro ((h | h) | h)
        · exact .inr (.inl h)
        · exact .inl h
        · exact .inr (.inr h)
    · have := addX_len acc x
      rw [List.foldl_cons, List.length_cons]
      omega
theorem metX_len (ys : List Str) (i : Nat) : (metX ys i).length ≤ ys.length := by
  have := (foldl_addX (ys.take i) []).2.2
  have h2 : (ys.take i).length ≤ ys.length := by rw [List.length_take]; omega
  unfold metX
  simp at this
  omega
section
variable {P : Program} {w : World} {A : Around} {E : Value → Shared → Prop} {s : Shared}
theorem setX_fresh {h : Heap} {a : Addr} (ho : h.get? a = some { cls := .type "set", dict := none, data := .set #[] 0 (.fresh 0 0 (!w.params.followText "set-order")) }) : SetX w h a [] := by
  refine ⟨_, #[], 0, _, ho, ⟨rfl, rfl, rfl⟩, rfl, (fun e he => by simp at he), (by simp), List.nodup_nil, (by decide), (by rfl), List.Pairwise.nil, ?_⟩
  show _ ∨ (!w.params.followText "set-order") = true
  cases w.params.followText "set-order"
  · exact .inr rfl
  · exact .inl rfl
/-- set.update's loop, over a list of texts -/
theorem set_update_txt {I : Addr} {fp wr : List Addr} {G : Array GenState → Array GenState → Prop} {n : Nat} {Pv : Nat → Value → Prop} {St : Nat → Shared → Prop} {R : Result → Shared → Prop} (W : WalksS P w A.in1 I fp wr G n Pv St) (S : Addr) (hSf : S ∉ fp) (ys : List Str)
    (hn : n = ys.length) (hfew : ys.length < 1000) (hval : ∀ i v, Pv i v → ∃ y t, ys[i]? = some y ∧ v = .str y t) : ∀ (k i : Nat) (s : Shared), n - i = k → i ≤ n → St i s → SetX w s.heap S (metX ys i) →
      (∀ s', Moved (S :: wr) G s s' → SetX w s'.heap S (metX ys n) → R (.ok (.ret .none)) s') → codeAny (model P w) A (.builtin "set.update.loop" ⟨[.ref S, .ref I], []⟩) R s := by
  have hSw : S ∉ wr := fun h => hSf (W.sub _ h)
  have hsub : ∀ b ∈ wr, b ∈ S :: wr := fun b hb => List.mem_cons_of_mem _ hb
  intro k
  induction k with
  | zero =>
    intro i s hk' hi hst hS hR
    have hin : i = n := by omega
    subst hin
    refine codeAny_builtin F.entry_set_update_loop ?_
    rw [Around.under_plainId F.plain_set_update_loop _]
    show wpAny _ A.in1 (pyNext (.ref I) >>= _) _ _ s
    refine wpAny_bind (W.done s _ _ hst fun s' hm => wpAny_pure (hR s' (hm.mono hsub) (hS.keep fun o e => hm.heap S o hSw e)))
  | succ k ih =>
    intro i s hk' hi hst hS hR
    have hlt : i < n := by omega
    refine codeAny_builtin F.entry_set_update_loop ?_
    rw [Around.under_plainId F.plain_set_update_loop _]
    show wpAny _ A.in1 (pyNext (.ref I) >>= _) _ _ s
    refine wpAny_bind (W.item i s _ _ hlt hst fun v s' hP hst' hm => ?_)
    obtain ⟨y, t, hy, rfl⟩ := hval i v hP
    have hS' : SetX w s'.heap S (metX ys i) := hS.keep fun o e => hm.heap S o hSw e
    show wpAny _ A.in1 (holding [Value.str y t] (setAdd S (.str y t)) >>= _) _ _ s'
    refine wpAny_bind (wpAny_holding ?_)
    unfold setAdd
    refine wpAny_holding (wpAny_bind ((strKind P w).pyHash (k := y) (txt_is y t) ?_))
    have room : (metX ys i).length + 1 < scanBound := by
      have := metX_len ys i
      unfold scanBound
      omega
    refine setX_add (s := { s' with toks := s'.toks + 1 }) hS' room fun b h' hsb hS2 => ?_
    rw [← metX_succ hy] at hS2
    refine wpAny_pure ⟨plainId_quiet F.plain_set_update_loop _, ih (i + 1) _ (by omega) hlt (W.frame _ s' _ _ hst' (Nat.le_succ _) fun b hb o e => ?_) hS2 fun s'' hm'' hS'' => ?_⟩
    · rw [hsb.2 b (fun h : b = S => hSf (by rw [← h]; exact hb))]
      exact e
    · refine hR s'' (Moved.trans W.gtrans ((hm.mono hsub).then_heap (Nat.le_succ _) fun b o hb e => ?_) hm'') hS''
      rw [hsb.2 b (fun h : b = S => hb (by rw [h]; exact List.mem_cons_self))]
      exact e
theorem call_set_txt {l : Addr} {items : Array Value} (ys : List Str) {Q : Value → Shared → Prop} (hh : A.handled = none) (hl : s.heap.IsList l items) (hit : items.size = ys.length) (hiv : ∀ (i : Nat) (v : Value), items[i]? = some v → ∃ (y : Str) (t : Tok), ys[i]? = some y ∧ v = Value.str y t) (hfew : ys.length < 1000)
    (h : ∀ (h' : Heap) (tk : Nat), SetX w h' s.heap.objs.size (metX ys ys.length) → (∀ b o, s.heap.get? b = some o → h'.get? b = some o) → Q (.ref s.heap.objs.size) { s with heap := h', toks := tk }) : wpAny (model P w) A (call (.type "set") [.ref l]) Q E s := by
  obtain ⟨c, tl, hmro⟩ := F.called_set.mro
  have hmade := F.called_set.made
  have hsub := F.called_set.sub
  refine wpAny_call (codeAny_of_tree ?_)
  show wpAny _ _ (callAny (.type "set") _) _ _ _
  refine wpAny_pure ⟨Code.quiet_builtin _ (by decide +kernel), codeAny_builtin F.entry_type_call ?_⟩
  rw [Around.under_plain (weight_type_call_type "set" [.ref l] []) rfl]
  have h1 := F.called_set.notType
  have h2 := F.called_set.canCreate
  have hct := F.typeCall_set_1 (.ref l)
  repeat (any_goals (first | assumption | wp_step))
  refine codeAny_mono (code_set_led1 (.ref l) (E := E) (Q₁ := fun obj s₁ => obj = .ref s.heap.objs.size ∧ s₁ = { s with heap := s.heap.push { cls := .type "set", dict := none, data := .set #[] 0 (.fresh 0 0 (!w.params.followText "set-order")) } }) ⟨rfl, rfl⟩) fun r s₁ hr => ?_
  cases r with
  | error e => exact hr
  | ok fl =>
    cases fl with
    | next => exact hr.elim
    | brk => exact hr.elim
    | cont => exact hr.elim
    | ret obj =>
      obtain ⟨rfl, rfl⟩ := hr
      have hS : (s.heap.push { cls := .type "set", dict := none, data := .set #[] 0 (.fresh 0 0 (!w.params.followText "set-order")) }).get? s.heap.objs.size = some { cls := .type "set", dict := none, data := .set #[] 0 (.fresh 0 0 (!w.params.followText "set-order")) } := Heap.get?_push_size _ rfl
      have hT : Shared.TypeIs { s with heap := s.heap.push { cls := .type "set", dict := none, data := .set #[] 0 (.fresh 0 0 (!w.params.followText "set-order")) } } (.ref s.heap.objs.size) "set" := ⟨_, hS, rfl⟩
      have hli := F.called_set.init.lookup
      have hbi := F.called_set.init.bind (.ref s.heap.objs.size)
      repeat (any_goals (first | assumption | wp_step))
      refine codeAny_mono (codeAny_call_builtin (R := wants (fun r s₂ => r = .none ∧ ∃ h' tk, s₂ = { s with heap := h', toks := tk } ∧ SetX w h' s.heap.objs.size (metX ys ys.length) ∧ (∀ b o, s.heap.get? b = some o → h'.get? b = some o)) E) F.called_set.init.plain F.entry_set_init (check_set_init_1 hT ?_)) fun r₂ s₂ hr₂ => ?_
      · obtain ⟨ol, hol, hcl, nl, hdl⟩ := hl
        obtain ⟨ocls, odict, odata, oslots⟩ := ol
        simp only at hcl hdl
        subst hcl; subst hdl
        have hol' : (s.heap.push { cls := .type "set", dict := none, data := .set #[] 0 (.fresh 0 0 (!w.params.followText "set-order")) }).get? l = some { cls := .type "list", dict := odict, data := .seq items nl, slots := oslots } := Heap.get?_push_of_some _ hol
        have hsls := F.sub_list_set
        have hslf := F.sub_list_frozenset
        have hne : (Value.type "list" == Value.type "dict") = false := by decide
        have hl1 : (s.heap.push { cls := .type "set", dict := none, data := .set #[] 0 (.fresh 0 0 (!w.params.followText "set-order")) }).IsList l items := ⟨_, hol', rfl, nl, rfl⟩
        unfold Builtin.«set.__init__» noKeywords Builtin.Frozenset.updateFrom
        generalize hPI : pyIter = PI
        wp_walk
        subst hPI
        refine wpAny_pyIter_list hl1 (wpAny_bind (wpAny_runValue ?_))
        have hlS : l < s.heap.objs.size := Heap.lt_size hol
        have hh3 : A.in1.in1.in1.handled = none := by simp [hh]
        have hneI : l ≠ (s.heap.push { cls := .type "set", dict := none, data := .set #[] 0 (.fresh 0 0 (!w.params.followText "set-order")) }).objs.size := by
          rw [Heap.size_push]
          exact Nat.ne_of_lt (Nat.lt_succ_of_lt hlS)
        have hSf : s.heap.objs.size ∉ [(s.heap.push { cls := .type "set", dict := none, data := .set #[] 0 (.fresh 0 0 (!w.params.followText "set-order")) }).objs.size, l] := by
          rw [Heap.size_push]
          simp only [List.mem_cons, List.mem_singleton, List.not_mem_nil, or_false, not_or]
          exact ⟨Nat.ne_of_lt (Nat.lt_succ_self _), Nat.ne_of_gt hlS⟩
        refine set_update_txt ((Walks.list hh3 _ l hneI items).toS) s.heap.objs.size hSf ys hit hfew hiv (items.size - 0) 0 _ (by omega) (Nat.zero_le _) ⟨⟨_, Heap.get?_push_size _ rfl, rfl, rfl⟩, (hl1.push _)⟩ ?hS0 ?hR
        case hS0 => exact setX_fresh (Heap.get?_push_of_some _ hS)
        case hR =>
          intro s' hm hS'
          obtain ⟨h', g2, d', tk', os'⟩ := s'
          have eg : g2 = s.gens := hm.gens
          have ed : d' = s.drawn := hm.drawn
          have eo : os' = s.os := hm.os
          subst eg; subst ed; subst eo
          show wpAny _ _ _ _ _ _
          refine wpAny_pure ?_
          show wpAny _ _ (ret Value.none) _ _ _
          rw [hit] at hS'
          refine wpAny_pure ⟨rfl, h', tk', rfl, hS', fun b o e => ?_⟩
          refine hm.heap b o (fun hb => ?_) (Heap.get?_push_of_some _ (Heap.get?_push_of_some _ e))
          have hbs := Heap.lt_size e
          rcases List.mem_cons.mp hb with z | z
          · exact absurd (z ▸ hbs : s.heap.objs.size < s.heap.objs.size) (Nat.lt_irrefl _)
          · have q0 : b = s.heap.objs.size + 1 := by rw [List.mem_singleton.mp z, Heap.size_push]
            rw [q0] at hbs
            exact absurd hbs (Nat.not_lt.mpr (Nat.le_succ _))
      · cases r₂ with
        | error e => exact hr₂
        | ok fl₂ =>
          cases fl₂ with
          | next => exact hr₂.elim
          | brk => exact hr₂.elim
          | cont => exact hr₂.elim
          | ret r =>
            obtain ⟨rfl, h', tk, rfl, hS', hk'⟩ := hr₂
            repeat (any_goals (first | assumption | wp_step))
            exact h _ _ hS' hk'
end
end K86
set_option Elab.async false
set_option linter.all false
set_option maxRecDepth 100000
set_option maxHeartbeats 4000000
/-! sorted(set(texts)) as one rule -/
namespace K86
open PySem PySem.Spec PyProof.Rows L2
theorem str_ext {a b : Str} (h : a.cps.toList = b.cps.toList) : a = b := TL.ext_tl h
/-- the texts of l, each once, in order -/
def strLt (a b : Str) : Prop := a.cps.toList < b.cps.toList
def distinct (l : List Str) (ds : List Str) : Prop := ds.Pairwise strLt ∧ ∀ y, y ∈ ds ↔ y ∈ l
theorem strLt_of {a b : Str} (h : ¬ strLt b a) (n : a ≠ b) : strLt a b := Std.lt_of_le_of_ne (List.not_lt.mp h) fun e => n (str_ext e)
theorem strLt_trans {a b c : Str} (h : strLt a b) (g : strLt b c) : strLt a c := List.lt_trans h g
theorem strLt_irrefl {a : Str} (h : strLt a a) : False := List.lt_irrefl _ h
/-- what is sorted, each but once -/
theorem srt_strs {ds zt : List Str} (e : srt (zt.map PyData.str) = ds.map PyData.str) (nd : zt.Nodup) : ds.Pairwise strLt ∧ ds.Perm zt := by
  have pm : (ds.map PyData.str).Perm (zt.map PyData.str) := by
    rw [← e]
    exact List.mergeSort_perm _ _
  have inj : ∀ {a b : List Str}, a.map PyData.str = b.map PyData.str → a = b := fun {a b} h => by
    induction a generalizing b with
    | nil => cases b with
      | nil => rfl
      | cons y t => simp at h
    | cons x a ih =>
      cases b with
      | nil => simp at h
      | cons y t =>
        rw [List.map_cons, List.map_cons] at h
        injection h with h1 h2
        rw [PyData.str.inj h1, ih h2]
  have un : ∀ l : List Str, (l.map PyData.str).filterMap (fun d => match d with | .str x => some x | _ => none) = l := fun l => by
    induction l with
    | nil => rfl
    | cons x l ih => rw [List.map_cons, List.filterMap_cons, ih]
  have pm2 : ds.Perm zt := by
    have := pm.filterMap (fun d => match d with | .str x => some x | _ => none)
    rwa [un, un] at this
  have pw : (srt (zt.map PyData.str)).Pairwise (fun a b => PySem.W.dataLe false id a b = true) := PySem.W.sort_pairwise (le := PySem.W.dataLe false id) (PySem.W.sortLe_total _ _ _) _
  have pw2 : (ds.map PyData.str).Pairwise (fun a b => PySem.W.dataLe false id a b = true) := by
    rw [← e]
    exact pw
  rw [List.pairwise_map] at pw2
  have nd2 : ds.Nodup := pm2.nodup_iff.mpr nd
  refine ⟨List.Pairwise.imp₂ (fun a b h1 h2 => ?_) pw2 nd2, pm2⟩
  refine strLt_of (fun h3 => ?_) h2
  have h4 : (!PySem.W.dataLt (.str b) (.str a)) = true := h1
  rw [PySem.W.dataLt_str, decide_eq_true (show b.cps.toList < a.cps.toList from h3)] at h4
  cases h4
theorem srtOk_strs (l : List Str) : SrtOk (l.map PyData.str) := by
  refine ⟨fun d hd d' hd' => ?_, .inr fun d hd => ?_, fun d hd => ?_⟩
  · obtain ⟨x, _, rfl⟩ := List.mem_map.mp hd
    obtain ⟨y, _, rfl⟩ := List.mem_map.mp hd'
    rfl
  · obtain ⟨x, _, rfl⟩ := List.mem_map.mp hd
    exact ⟨fun z => (by cases z), fun xs z => (by cases z)⟩
  · obtain ⟨x, _, rfl⟩ := List.mem_map.mp hd
    exact Nat.zero_le _
section
variable {X : Cx}
theorem eachIs_of {α β : Type} {F : α → β → Prop} : ∀ {xs : List α} {ys : List β}, PySem.W.EachIs F xs ys → ∀ i : Nat, xs[i]? = none ∨ ∃ x y, xs[i]? = some x ∧ ys[i]? = some y ∧ F x y
  | _, _, .nil, i => .inl (by simp)
  | _, _, .cons h t, 0 => .inr ⟨_, _, by simp, by simp, h⟩
  | _, _, .cons h t, i + 1 => by
    rcases eachIs_of t i with e | ⟨x, y, h1, h2, h3⟩
    · exact .inl (by simpa using e)
    · exact .inr ⟨x, y, by simpa using h1, by simpa using h2, h3⟩
theorem strs_out : ∀ {us : List Value} {ds : List PyData}, PySem.W.EachIs (fun v d => ∃ x t, v = Value.str x t ∧ d = PyData.str x) us ds → ∃ xs : List Str, ds = xs.map PyData.str ∧ Vals (xs.map V.str) us
  | _, _, .nil => ⟨[], rfl, .nil⟩
  | _, _, .cons ⟨x, t, rfl, rfl⟩ r => by
    obtain ⟨xs, rfl, v⟩ := strs_out r
    exact ⟨x :: xs, rfl, .cons ⟨t, rfl⟩ v⟩
theorem strs_in : ∀ {us : List Value} {es : List (Int × Value)} {w : World}, us = es.map (·.2) → (∀ e ∈ es, TxtE w e) → PySem.W.EachIs (fun v d => ∃ x t, v = Value.str x t ∧ d = PyData.str x) us ((es.map nameOf).map PyData.str)
  | _, [], _, rfl, _ => .nil
  | _, e :: es, w, rfl, g => by
    obtain ⟨x, t, h1, h2⟩ := g e List.mem_cons_self
    refine .cons ⟨x, t, h1, ?_⟩ (strs_in rfl fun z hz => g z (List.mem_cons_of_mem _ hz))
    unfold nameOf
    rw [h1]
theorem eachIs_perm {α β : Type} {F : α → β → Prop} : ∀ {a b : List α}, a.Perm b → ∀ {ys : List β}, PySem.W.EachIs F b ys → ∃ zs, PySem.W.EachIs F a zs ∧ zs.Perm ys := by
  intro a b h
  induction h with
  | nil => intro ys e; exact ⟨ys, e, .refl _⟩
  | cons x h ih =>
    intro ys e
    cases e with
    | cons r t =>
      obtain ⟨zs, e1, p⟩ := ih t
      exact ⟨_ :: zs, .cons r e1, p.cons _⟩
  | swap x y t =>
    intro ys e
    cases e with
    | cons r e => cases e with
      | cons r2 e => exact ⟨_ :: _ :: _, .cons r2 (.cons r e), .swap _ _ _⟩
  | trans h1 h2 ih1 ih2 =>
    intro ys e
    obtain ⟨z1, e1, p1⟩ := ih2 e
    obtain ⟨z2, e2, p2⟩ := ih1 e1
    exact ⟨z2, e2, p2.trans p1⟩
def tSortSet (K : PySem.W.Frag) (te : TE) : TE := fun σ H Q => te σ H fun x H1 => ∃ (l : Addr) (ys : List Str), x = .ref l ∧ SqL K H1 l (ys.map V.str) ∧ ys.length < 1000 ∧
  ∀ (p : Addr) (H' : Hp) (ds : List Str), H1 p = none → Gr H1 H' → H' p = some (.lst (ds.map V.str)) → distinct ys ds → Q (.ref p) H'
/-- sorted(set(e)) -/
theorem pe_sortSet {e : Expr} {te : TE} {p p' pos' pos : Pos} (hc : X.calm = true) (hu : X.A.units + 64 < cLine) (he : PE X e te) (hm : X.mg "sorted" = none) (hm2 : X.mg "set" = none) (hg : Gl X "sorted" := by rfl) (hg2 : Gl X "set" := by rfl)
    (hs2 : starEach [e] X.env = [(false, eval e X.env)] := by rfl) (hs : starEach [.Call (.Name "set" p') [e] [] pos'] X.env = (false, eval (.Call (.Name "set" p') [e] [] pos') X.env) :: starEach [] X.env := by rfl) :
    PE X (.Call (.Name "sorted" p) [.Call (.Name "set" p') [e] [] pos'] [] pos) (tSortSet X.K te) := by
  refine ⟨fun pins s σ H Q I hq => ?_⟩
  refine wpAny_Call_Name_kw (ld_blt I hg hm (u := .builtin "sorted") (by decide +kernel) ?_)
  refine Calls.callWith_builtin rfl ?_
  rw [hs]
  refine Calls.evalArgs_plain (Calls.spliced_cons ?_)
  refine wpAny_Call_Name_kw (ld_blt I hg2 hm2 (u := .type "set") (by decide +kernel) ?_)
  refine PyProof.Rows.callWith_type1 ?_ hs2 rfl
  refine thn ((pa_cons he pa_nil hs2).run pos' pins s σ H (fun vs H1 => match vs with
    | [x] => ∃ (l : Addr) (ys : List Str), x = .ref l ∧ SqL X.K H1 l (ys.map V.str) ∧ ys.length < 1000 ∧ ∀ (p : Addr) (H' : Hp) (ds : List Str), H1 p = none → Gr H1 H' → H' p = some (.lst (ds.map V.str)) → distinct ys ds → Q (.ref p) H'
    | _ => False) I hq) fun us s1 ⟨vs, H1, I1, rv, hq1⟩ => ?_
  match vs, rv, hq1 with
  | [x], rv, ⟨l, ys, el, hl, hf, q⟩ =>
  subst el
  rw [Vals.ref1 rv]
  obtain ⟨its, r2, pl, hz⟩ := I1.list hl
  have lits : its.toArray.size = ys.length := by
    have := r2.length
    rw [List.length_map] at this
    simp [this]
  refine call_set_txt (w := X.w) (P := X.prog) ys (I1.ok.hd hc) pl.isList lits (fun i v hv => ?_) hf fun h' tk R k => ?_
  · have hv' : its[i]? = some v := by simpa using hv
    obtain ⟨x, hx, rx⟩ := paired_ix r2 hv'
    rw [List.getElem?_map] at hx
    cases c : ys[i]? with
    | none => rw [c] at hx; cases hx
    | some y =>
      rw [c] at hx
      cases hx
      obtain ⟨t, e⟩ := rx
      exact ⟨y, t, rfl, e⟩
  have I2 : Inv X pins σ H1 { s1 with heap := h', toks := tk } := I1.kept (t' := tk) k
  refine Calls.spliced_nil ?_
  show wpAny _ _ (call (.builtin "sorted") [.ref s1.heap.objs.size]) _ _ _
  obtain ⟨o, es, ep, t, ho, hex, hd, g, pm, nd, hb, hfits, hris, hled⟩ := R
  have zl : es.toList.length = (metX ys ys.length).length := by rw [← pm.length_eq, List.length_map]
  have zl2 := metX_len ys ys.length
  refine sorted_coll (fun vs h2 => vs.Perm (es.toList.map (·.2))) (fun E' Z hz' => ?_) (fun vs h2 tk' g' d' k2 ag pv => ?_)
  · refine collect_set (I2.ok.hd hc) ⟨o, ho, hex.1, hd⟩ hfits hb hris hled fun s' out k' _ eg eo pout => ?_
    obtain ⟨h3, g3, d3, t3, os3⟩ := s'
    have eo' : os3 = s1.os := eo
    have eg' : g3 = s1.gens := eg
    subst eo' eg'
    exact hz' _ h3 t3 _ d3 k' I2.bare pout
  · obtain ⟨zs, e1, p1⟩ := eachIs_perm pv (strs_in rfl g)
    obtain ⟨zt, rfl, _⟩ := strs_out e1
    have un : ∀ l : List Str, (l.map PyData.str).filterMap (fun d => match d with | .str x => some x | _ => none) = l := fun l => by
      induction l with
      | nil => rfl
      | cons x l ih => rw [List.map_cons, List.filterMap_cons, ih]
    have p2 : zt.Perm (metX ys ys.length) := by
      have := p1.filterMap (fun d => match d with | .str x => some x | _ => none)
      rw [un, un] at this
      exact this.trans pm
    have ndz : zt.Nodup := p2.nodup_iff.mpr nd
    have lz : zt.length < 1000 := by
      have := p2.length_eq
      omega
    refine ⟨_, _, e1, ?_, (srtOk_strs zt).1, (srtOk_strs zt).2.1, ?_, fun b hb' => ?_, fun h3 out c k3 ho3 lo eo => ?_⟩
    · exact e1.mono fun v d ⟨x, t, e2, e3⟩ => by
        subst e2 e3
        exact ⟨_, .str x t⟩
    · rw [List.length_map, sizeLine_eq]
      omega
    · have h0 : b.depth = 0 := by
        obtain ⟨x, _, rfl⟩ := List.mem_map.mp hb'
        simp [PyData.depth]
      omega
    · obtain ⟨ds, eds, vds⟩ := strs_out eo
      obtain ⟨pw, pd⟩ := srt_strs eds ndz
      have newl : h'.get? h2.objs.size = none := by
        cases c : h'.get? h2.objs.size with
        | none => rfl
        | some o => exact absurd (Heap.lt_size (k2 _ _ c)) (Nat.lt_irrefl _)
      have ld : ds.length < 1000 := by
        have := pd.length_eq
        omega
      obtain ⟨J, gr⟩ := lay_all (F := fun a => if a = h2.objs.size then some (.lst (ds.map V.str)) else none) (h' := h3) (t' := tk') (g' := g') (d' := d') I2 (fun b o z => k3 b o (k2 b o z)) ag (fun a o z => by
        by_cases c : a = h2.objs.size
        · rw [if_pos c] at z
          cases z
          subst c
          refine ⟨newl, fun H' => ⟨by rw [List.length_map, sizeLine_eq]; omega, out, _, vds, ho3⟩⟩
        · rw [if_neg c] at z
          cases z)
      refine ⟨.ref h2.objs.size, _, J, rfl, q _ _ ds (HOk.gone I2.hok newl) gr (over_new (if_pos rfl)) ⟨pw, fun y => ?_⟩⟩
      rw [pd.mem_iff, p2.mem_iff]
      have := (foldl_addX (ys.take ys.length) []).1 y
      rw [List.take_length] at this
      unfold metX
      rw [List.take_length, this]
      simp
end
end K86
set_option Elab.async false
set_option linter.all false
set_option maxRecDepth 100000
set_option maxHeartbeats 4000000
/-! tuples known to have no dict of their own; dict(tuple of pairs); list.count(text); calls of a def that a slot or a global holds -/
namespace K86
open PySem PySem.Spec PyProof.Rows L2
/-- at a a tuple, its object known -/
def Pt (H : Hp) (a : Addr) (xs : List V) : Prop := ∃ o : Obj, H a = some (.frz o (.tup xs)) ∧ o.dict = none
theorem Pt.gr {H H1 : Hp} {a : Addr} {xs : List V} (h : Pt H a xs) (g : Gr H H1) : Pt H1 a xs := by
  obtain ⟨o, e, d⟩ := h
  exact ⟨o, g _ _ e, d⟩
theorem Pt.st {K : PySem.W.Frag} {H : Hp} {a : Addr} {xs : List V} (h : Pt H a xs) : SqT K H a xs := by
  obtain ⟨o, e, d⟩ := h
  exact .inl (.inr ⟨o, e⟩)
section
variable {X : Cx}
def tTupF (t : TA) : TE := fun σ H Q => t σ H fun xs H1 => xs.length ≤ sizeLine ∧ ∀ p H', H1 p = none → Gr H1 H' → Pt H' p xs → Q (.ref p) H'
theorem pe_tupF {es : List Expr} {x1 : Nat} {pos : Pos} {t : TA} (h : PA X es t) : PE X (.Tuple es x1 pos) (tTupF t) := by
  refine ⟨fun pins s σ H Q I hq => ?_⟩
  refine wpAny_Tuple_spliced (thn (h.run pos pins s σ H _ I hq) fun us s1 ⟨xs, H1, I1, r, z, q⟩ => ⟨by rw [← r.length]; exact z, ?_⟩)
  have hf : H1 s1.heap.objs.size = none := I1.hok.fresh (Nat.le_refl _)
  have J := I1.laid (t' := s1.toks) (a := s1.heap.objs.size) (o := .frz { cls := .type "tuple", data := .seq us.toArray } (.tup xs)) (h' := s1.heap.push { cls := .type "tuple", data := .seq us.toArray }) (fun b u e => Heap.get?_push_of_some _ e) (Nat.le_refl _) ⟨Heap.get?_push_size _ rfl, z, us, r, ⟨_, Heap.get?_push_size _ rfl, rfl, _, rfl⟩⟩
  exact ⟨.ref s1.heap.objs.size, _, J, rfl, q _ _ hf (Gr.new hf) ⟨_, upd_same, rfl⟩⟩
/-- tuple(list) -/
theorem call_tupleF : CallR X (.type "tuple") (fun xs H Q => ∃ p ys, xs = [.ref p] ∧ SqL X.K H p ys ∧ ∀ l H', H l = none → Gr H H' → Pt H' l ys → Q (.ref l) H') := by
  intro pins s σ H xs us Q I r h
  obtain ⟨p, ys, rfl, hq, q⟩ := h
  obtain ⟨u, rfl, rx⟩ := vals1 r
  cases rx
  obtain ⟨its, r', pl, hz⟩ := I.list hq
  have hlen := r'.length
  refine call_tuple_list pl.isList (fun h' kp => ?_) (by simp only [List.size_toArray]; omega)
  have I1 : Inv X pins σ H { s with heap := h' } := I.kept (t' := s.toks) kp
  have hf : H h'.objs.size = none := I1.hok.fresh (Nat.le_refl _)
  have I2 := I1.laid (t' := s.toks) (a := h'.objs.size) (o := .frz { cls := .type "tuple", data := .seq its.toArray } (.tup ys)) (h' := h'.push { cls := .type "tuple", data := .seq its.toArray }) (fun b o e => Heap.get?_push_of_some _ e) (Nat.le_refl _) ⟨Heap.get?_push_size _ rfl, hz, its, r', IsTup.new _ _⟩
  exact ⟨.ref h'.objs.size, _, I2, rfl, q _ _ hf (Gr.new hf) ⟨_, upd_same, rfl⟩⟩
theorem pair_vals {pins : List (Addr × Obj)} {σ : L2.St} {H : Hp} {s : Shared} (I : Inv X pins σ H s) : ∀ {ps : List Addr} {kvs : List (Key × V)}, Paired (fun p kv => SqT X.K H p [kV kv.1, kv.2]) ps kvs →
    ∃ vs : List (Value × Value), vs.length = ps.length ∧ Paired (fun (kv : Key × V) (uv : Value × Value) => RelV (kV kv.1) uv.1 ∧ RelV kv.2 uv.2) kvs vs ∧ ∀ (j : Nat) (k v : Value), vs[j]? = some (k, v) → ∃ b, ps[j]? = some b ∧ s.heap.IsTuple b #[k, v]
  | _, _, .nil => ⟨[], rfl, .nil, fun j k v e => by simp at e⟩
  | _, _, .cons (a := p) (b := kv) h t => by
    obtain ⟨vs, e1, e2, e3⟩ := pair_vals I t
    obtain ⟨its, rv, ht, _⟩ := I.tuple h
    obtain ⟨u, y, ei, ru, ry⟩ := vals2 rv
    subst ei
    refine ⟨(u, y) :: vs, by rw [List.length_cons, List.length_cons, e1], .cons ⟨ru, ry⟩ e2, fun j k v e => ?_⟩
    cases j with
    | zero =>
      simp at e
      obtain ⟨rfl, rfl⟩ := e
      obtain ⟨o, ho, hc, n, hd⟩ := ht
      exact ⟨p, by simp, o, ho, hc, n, by simpa using hd⟩
    | succ j =>
      obtain ⟨b, f1, f2⟩ := e3 j k v (by simpa using e)
      exact ⟨b, by simpa using f1, f2⟩
theorem kv_zip {P : Program} {w : World} : ∀ {kvs : List (Key × V)} {vs : List (Value × Value)}, Paired (fun (kv : Key × V) (uv : Value × Value) => RelV (kV kv.1) uv.1 ∧ RelV kv.2 uv.2) kvs vs → ∃ prs : List (Key × Value), KV kvs prs ∧ prs.length = vs.length ∧ ∀ (j : Nat) (k v : Value), vs[j]? = some (k, v) → ∃ c, prs[j]? = some (c, v) ∧ keyIs c k = true
  | _, _, .nil => ⟨[], .nil, rfl, fun j k v e => by simp at e⟩
  | _, _, .cons (a := kv) (b := uv) h t => by
    obtain ⟨prs, e1, e2, e3⟩ := kv_zip (P := P) (w := w) t
    refine ⟨(kv.1, uv.2) :: prs, .cons ⟨rfl, h.2⟩ e1, by rw [List.length_cons, List.length_cons, e2], fun j k v e => ?_⟩
    cases j with
    | zero =>
      simp at e
      subst e
      exact ⟨kv.1, rfl, kV_is (P := P) (w := w) h.1⟩
    | succ j =>
      obtain ⟨c, f1, f2⟩ := e3 j k v (by simpa using e)
      exact ⟨c, by simpa using f1, f2⟩
/-- dict(a tuple of pairs) -/
theorem call_dictTup (hc : X.calm = true) : CallR X (.type "dict") (fun xs H Q => ∃ (a : Addr) (ps : List Addr) (kvs : List (Key × V)), xs = [.ref a] ∧ Pt H a (ps.map V.ref) ∧ Paired (fun p kv => SqT X.K H p [kV kv.1, kv.2]) ps kvs ∧
    ∀ p, H p = none → Q (.ref p) (upd H p (.dK (mergeK [] kvs)))) := by
  intro pins s σ H xs us Q I r q
  obtain ⟨a, ps, kvs, ex, ⟨o, ho, hod⟩, hp, q⟩ := q
  subst ex
  obtain ⟨u, eu, rx⟩ := vals1 r
  subst eu
  cases rx
  obtain ⟨hget, hz, its, rv, o2, ho2, hcls, n, hdat⟩ := (show ObjOk X.prog X.w H s.heap a (.frz o (.tup (ps.map V.ref))) from I.hok a _ ho)
  rw [hget] at ho2
  cases ho2
  have ei := refs_at rv
  subst ei
  rw [List.length_map] at hz
  obtain ⟨vs, lv, pv, av⟩ := pair_vals I hp
  obtain ⟨prs, kv, lp, hpr⟩ := kv_zip (P := X.prog) (w := X.w) pv
  refine PySem.call_dict_pairs (knd := mixKind X.prog X.w) (kvs := prs) (PairArg.tuple a (ps.map Value.ref).toArray (fun j => ps.getD j 0) vs) (I.ok.hd hc) ⟨⟨o, n, hget, hcls, hod, hdat⟩, ?_, fun j k v e => ?_⟩ ⟨lp, fun i key v e => ?_⟩ (by rw [lv]; exact hz) fun h' tk hd' k => ?_
  · simp [lv]
  · obtain ⟨b, f1, f2⟩ := av j k v e
    have eb : ps.getD j 0 = b := by rw [List.getD_eq_getElem?_getD, f1] <;> rfl
    refine ⟨?_, .inl ?_⟩
    · simp [f1, eb]
    · show s.heap.IsTuple (ps.getD j 0) _
      first
        | (rw [eb]; exact f2)
        | exact f2
  · obtain ⟨c, f1, f2⟩ := hpr i key v e
    exact ⟨c, f1, f2⟩
  · have hm : (s.heap.objs.size == sysModules) = false := beq_eq_false_iff_ne.mpr (Nat.ne_of_gt I.big)
    have hlen : (mergeK [] kvs).length ≤ sizeLine := by
      refine Nat.le_trans (length_mergeK kvs []) ?_
      rw [List.length_nil, Nat.zero_add, Paired.length kv, lp, lv]
      exact hz
    exact ⟨.ref s.heap.objs.size, upd H s.heap.objs.size (.dK (mergeK [] kvs)), I.laid (t' := tk) (fun b o e => k b o (by simp) e) (Nat.le_refl _) (show ObjOk X.prog X.w _ _ _ (.dK (mergeK [] kvs)) from ⟨hlen, hm, merged [] prs, KV.merge kv .nil, hd'⟩), rfl, q _ (I.hok.fresh (Nat.le_refl _))⟩
/-- list.count(text) -/
theorem strs_are : ∀ {ys : List Str} {us : List Value}, Vals (ys.map V.str) us → StrsAre us ys
  | [], _, .nil => .nil
  | y :: ys, _, .cons r t => by
    obtain ⟨tk, rfl⟩ := r
    exact .cons y tk (strs_are t)
theorem count_strs (k : Str) : ∀ ys : List Str, countIn (.str k) (ys.map PyData.str) = (ys.count k : Nat)
  | [] => rfl
  | y :: r => by
    rw [List.map_cons, countIn, count_strs k r, List.count_cons]
    by_cases h : y = k
    · subst h
      simp [same]
      omega
    · have h' : (y == k) = false := by simpa using h
      simp [same, h, h']
theorem mt_lcountS : MtR X "list.count" (fun x xs H Q => ∃ (p : Addr) (ys : List Str) (k : Str), x = .ref p ∧ xs = [.str k] ∧ SqL X.K H p (ys.map V.str) ∧ Q (.int (ys.count k : Nat)) H) := by
  intro pins s σ H x xs v us Q I rx rxs h
  obtain ⟨p, ys, k, rfl, rfl, hs, q⟩ := h
  cases rx
  obtain ⟨u, rfl, ru⟩ := rxs.one
  obtain ⟨t, rfl⟩ := ru
  obtain ⟨its, rv, pl, hlen⟩ := I.list hs
  refine PyProof.Rows.count_list_strs pl.isList (strs_are rv) ?_
  rw [count_strs]
  exact ⟨.int (ys.count k : Nat), H, I.tok _, ⟨s.toks, rfl⟩, q⟩
end
end K86
set_option Elab.async false
set_option linter.all false
set_option maxRecDepth 100000
set_option maxHeartbeats 4000000
/-! products of boxes, by plain lists -/
namespace K86
open PySem PySem.Spec PyProof.Rows L2
def incr (y : Str) : Mo → Mo
  | [] => [(y, 1)]
  | x :: r => if x.1 = y then (y, x.2 + 1) :: r else if y.cps.toList < x.1.cps.toList then (y, 1) :: x :: r else x :: incr y r
def moOf (ps : List Str) : Mo := ps.foldl (fun m y => incr y m) []
/-- strictly rising by the boxes -/
def Ris (m : Mo) : Prop := m.Pairwise fun a b => strLt a.1 b.1
theorem mem_incr {y : Str} : ∀ {m : Mo}, Ris m → ∀ z : Str × Int, z ∈ incr y m ↔ (z.1 ≠ y ∧ z ∈ m) ∨ (z.1 = y ∧ ((z.2 = 1 ∧ ∀ c, (y, c) ∉ m) ∨ (y, z.2 - 1) ∈ m))
  | [], _, z => by
    simp only [incr, List.mem_singleton, List.not_mem_nil, and_false, false_or, or_false, not_false_eq_true, implies_true, and_true]
    exact ⟨fun h => by rw [h]; exact ⟨rfl, rfl⟩, fun h => Prod.ext h.1 h.2⟩
  | x :: r, hr, z => by
    have hr1 := (List.pairwise_cons.mp hr).1
    have hr2 := (List.pairwise_cons.mp hr).2
    unfold incr
    by_cases e : x.1 = y
    · rw [if_pos e]
      have no : ∀ c, (y, c) ∉ r := fun c hc => strLt_irrefl (a := y) (by have := hr1 _ hc; rwa [e] at this)
      constructor
      · intro h
        rcases List.mem_cons.mp h with rfl | h
        · refine .inr ⟨rfl, .inr (List.mem_cons.mpr (.inl ?_))⟩
          refine Prod.ext e.symm ?_
          show x.2 + 1 - 1 = x.2
          omega
        · refine .inl ⟨fun e2 => no z.2 (by rw [← e2]; exact h), List.mem_cons_of_mem _ h⟩
      · rintro (⟨h1, h2⟩ | ⟨h1, ⟨h2, h3⟩ | h2⟩)
        · rcases List.mem_cons.mp h2 with rfl | h2
          · exact absurd e h1
          · exact List.mem_cons_of_mem _ h2
        · exact absurd (List.mem_cons.mpr (.inl (show ((y, x.2) : Str × Int) = x from Prod.ext e.symm rfl))) (h3 x.2)
        · rcases List.mem_cons.mp h2 with h2 | h2
          · refine List.mem_cons.mpr (.inl (Prod.ext h1 ?_))
            have := congrArg Prod.snd h2
            simp only at this
            show z.2 = x.2 + 1
            omega
          · exact absurd h2 (no _)
    · rw [if_neg e]
      by_cases l : y.cps.toList < x.1.cps.toList
      · rw [if_pos l]
        have no : ∀ c, (y, c) ∉ x :: r := fun c hc => by
          rcases List.mem_cons.mp hc with h | h
          · exact e (by rw [← h])
          · exact strLt_irrefl (strLt_trans (show strLt y x.1 from l) (hr1 _ h))
        constructor
        · intro h
          rcases List.mem_cons.mp h with rfl | h
          · exact .inr ⟨rfl, .inl ⟨rfl, no⟩⟩
          · refine .inl ⟨fun e2 => no z.2 (by rw [← e2]; exact h), h⟩
        · rintro (⟨h1, h2⟩ | ⟨h1, ⟨h2, h3⟩ | h2⟩)
          · exact List.mem_cons_of_mem _ h2
          · exact List.mem_cons.mpr (.inl (Prod.ext h1 h2))
          · exact absurd h2 (no _)
      · rw [if_neg l]
        have ih := mem_incr (y := y) hr2 z
        constructor
        · intro h
          rcases List.mem_cons.mp h with rfl | h
          · exact .inl ⟨e, List.mem_cons_self⟩
          · rcases ih.mp h with ⟨h1, h2⟩ | ⟨h1, ⟨h2, h3⟩ | h2⟩
            · exact .inl ⟨h1, List.mem_cons_of_mem _ h2⟩
            · refine .inr ⟨h1, .inl ⟨h2, fun c hc => ?_⟩⟩
              rcases List.mem_cons.mp hc with h | h
              · exact e (by rw [← h])
              · exact h3 c h
            · exact .inr ⟨h1, .inr (List.mem_cons_of_mem _ h2)⟩
        · rintro (⟨h1, h2⟩ | ⟨h1, ⟨h2, h3⟩ | h2⟩)
          · rcases List.mem_cons.mp h2 with rfl | h2
            · exact List.mem_cons_self
            · exact List.mem_cons_of_mem _ (ih.mpr (.inl ⟨h1, h2⟩))
          · exact List.mem_cons_of_mem _ (ih.mpr (.inr ⟨h1, .inl ⟨h2, fun c hc => h3 c (List.mem_cons_of_mem _ hc)⟩⟩))
          · rcases List.mem_cons.mp h2 with h2 | h2
            · exact absurd (congrArg Prod.fst h2).symm e
            · exact List.mem_cons_of_mem _ (ih.mpr (.inr ⟨h1, .inr h2⟩))
theorem ris_incr {y : Str} : ∀ {m : Mo}, Ris m → Ris (incr y m)
  | [], _ => List.pairwise_singleton _ _
  | x :: r, hr => by
    have hr1 := (List.pairwise_cons.mp hr).1
    have hr2 := (List.pairwise_cons.mp hr).2
    unfold incr
    by_cases e : x.1 = y
    · rw [if_pos e]
      refine List.pairwise_cons.mpr ⟨fun z hz => ?_, hr2⟩
      show strLt y z.1
      rw [← e]
      exact hr1 z hz
    · rw [if_neg e]
      by_cases l : y.cps.toList < x.1.cps.toList
      · rw [if_pos l]
        refine List.pairwise_cons.mpr ⟨fun z hz => ?_, hr⟩
        rcases List.mem_cons.mp hz with rfl | hz
        · exact l
        · exact strLt_trans (show strLt y x.1 from l) (hr1 z hz)
      · rw [if_neg l]
        refine List.pairwise_cons.mpr ⟨fun z hz => ?_, ris_incr hr2⟩
        rcases (mem_incr hr2 z).mp hz with ⟨_, h⟩ | ⟨h, _⟩
        · exact hr1 z h
        · show strLt x.1 z.1
          rw [h]
          exact strLt_of l e
/-- what counts some boxes -/
def MonoOf (ps : List Str) (m : Mo) : Prop := Ris m ∧ ∀ (y : Str) (c : Int), (y, c) ∈ m ↔ y ∈ ps ∧ c = (ps.count y : Nat)
theorem MonoOf.nil : MonoOf [] [] := ⟨.nil, fun y c => by simp⟩
theorem MonoOf.snoc {ps : List Str} {m : Mo} (h : MonoOf ps m) (y : Str) : MonoOf (ps ++ [y]) (incr y m) := by
  refine ⟨ris_incr h.1, fun z c => ?_⟩
  have hm := h.2
  rw [mem_incr h.1, List.count_append, List.mem_append, List.mem_singleton]
  by_cases e : z = y
  · subst e
    have c1 : List.count z [z] = 1 := by simp
    rw [c1]
    simp only [ne_eq, not_true, false_and, false_or, true_and, or_true]
    rw [hm]
    constructor
    · rintro (⟨h1, h2⟩ | ⟨h1, h2⟩)
      · have : z ∉ ps := fun hz => h2 _ ((hm _ _).mpr ⟨hz, rfl⟩)
        rw [List.count_eq_zero.mpr this]
        exact h1
      · omega
    · intro h1
      by_cases hz : z ∈ ps
      · exact .inr ⟨hz, by omega⟩
      · refine .inl ⟨?_, fun c hc => hz ((hm _ _).mp hc).1⟩
        rw [List.count_eq_zero.mpr hz] at h1
        exact h1
  · have c1 : List.count z [y] = 0 := by
      rw [List.count_eq_zero]
      simpa using e
    rw [c1]
    simp only [ne_eq, e, not_false_eq_true, true_and, false_and, or_false, Nat.add_zero]
    exact hm z c
theorem foldl_of : ∀ (qs ps : List Str) (m : Mo), MonoOf ps m → MonoOf (ps ++ qs) (qs.foldl (fun m y => incr y m) m)
  | [], ps, m, h => by simpa using h
  | q :: qs, ps, m, h => by
    have := foldl_of qs (ps ++ [q]) (incr q m) (h.snoc q)
    rwa [List.append_assoc] at this
theorem moOf_ok (ps : List Str) : MonoOf ps (moOf ps) := by
  have := foldl_of ps [] [] .nil
  exact this
theorem moOf_snoc (ps : List Str) (y : Str) : moOf (ps ++ [y]) = incr y (moOf ps) := by
  unfold moOf
  rw [List.foldl_append] <;> rfl
theorem ris_nodup {m : Mo} (h : Ris m) : m.Nodup := List.Pairwise.imp (fun {a b} hab e => by subst e; exact strLt_irrefl hab) h
theorem ris_uniq {a b : Mo} (ha : Ris a) (hb : Ris b) (h : ∀ z, z ∈ a ↔ z ∈ b) : a = b := by
  have pm : a.Perm b := (List.perm_ext_iff_of_nodup (ris_nodup ha) (ris_nodup hb)).mpr h
  exact List.Perm.eq_of_pairwise (le := fun (a b : Str × Int) => strLt a.1 b.1) (fun x y _ _ h1 h2 => (strLt_irrefl (strLt_trans h1 h2)).elim) ha hb pm
theorem MonoOf.uniq {ps : List Str} {a b : Mo} (ha : MonoOf ps a) (hb : MonoOf ps b) : a = b := ris_uniq ha.1 hb.1 fun ⟨y, c⟩ => (ha.2 y c).trans (hb.2 y c).symm
theorem count_of {ps ds : List Str} (h : distinct ps ds) : ds.map (fun y => (y, ((ps.count y : Nat) : Int))) = moOf ps := by
  refine MonoOf.uniq (ps := ps) ⟨?_, fun y c => ?_⟩ (moOf_ok ps)
  · unfold Ris
    rw [List.pairwise_map]
    exact h.1
  · rw [List.mem_map]
    constructor
    · rintro ⟨z, hz, e⟩
      injection e with e1 e2
      subst e1 e2
      exact ⟨(h.2 _).mp hz, rfl⟩
    · rintro ⟨h1, h2⟩
      exact ⟨y, (h.2 _).mpr h1, by rw [h2]⟩
/-! ### sorting -/
theorem lt_pairD (x y : Str × Int) : PySem.W.dataLt (pairD x) (pairD y) = if x.1 = y.1 then decide (x.2 < y.2) else decide (x.1.cps.toList < y.1.cps.toList) := by
  unfold pairD
  rw [PySem.W.dataLt_pair (by simp [PySem.W.alike]) (by simp [PySem.W.alike]), PySem.W.dataLt_str, PySem.W.dataLt_int]
  have e1 : PyData.eqv (.str x.1) (.str y.1) = decide (x.1 = y.1) := by
    simp only [PyData.eqv]
    rfl
  have e2 : PyData.eqv (.int x.2) (.int y.2) = decide (x.2 = y.2) := by
    simp only [PyData.eqv]
    rfl
  rw [e1, e2]
  by_cases h : x.1 = y.1
  · simp only [h, decide_true, if_true]
    by_cases h2 : x.2 = y.2
    · simp [h2]
    · simp [h2]
  · simp only [h, decide_false, if_false]
    simp
theorem sort_pairs {l m : Mo} (hm : Ris m) (hp : l.Perm m) : srt (l.map pairD) = m.map pairD := by
  have pm : (srt (l.map pairD)).Perm (m.map pairD) := (List.mergeSort_perm _ _).trans (hp.map pairD)
  obtain ⟨l', p', e⟩ := perm_map pm
  rw [e]
  have pw : (srt (l.map pairD)).Pairwise (fun a b => PySem.W.dataLe false id a b = true) := PySem.W.sort_pairwise (le := PySem.W.dataLe false id) (PySem.W.sortLe_total _ _ _) _
  rw [e, List.pairwise_map] at pw
  have pw2 : m.Pairwise (fun a b => PySem.W.dataLe false id (pairD a) (pairD b) = true) := by
    refine List.Pairwise.imp (fun {a b} h => ?_) hm
    show (!PySem.W.dataLt (pairD b) (pairD a)) = true
    rw [lt_pairD, if_neg (fun e2 => by rw [e2] at h; exact strLt_irrefl h), decide_eq_false (show ¬ (b.1.cps.toList < a.1.cps.toList) from fun h2 => strLt_irrefl (strLt_trans h h2))] <;> rfl
  refine congrArg (List.map pairD) (p'.eq_of_pairwise (fun a b _ _ h1 h2 => ?_) pw pw2)
  have g1 : (!PySem.W.dataLt (pairD b) (pairD a)) = true := h1
  have g2 : (!PySem.W.dataLt (pairD a) (pairD b)) = true := h2
  rw [Bool.not_eq_true', lt_pairD] at g1 g2
  by_cases e : a.1 = b.1
  · rw [if_pos e] at g2
    rw [if_pos e.symm] at g1
    have := of_decide_eq_false g1
    have := of_decide_eq_false g2
    exact Prod.ext e (by omega)
  · rw [if_neg e] at g2
    rw [if_neg (Ne.symm e)] at g1
    have g3 : ¬ (a.1.cps.toList < b.1.cps.toList) := of_decide_eq_false g2
    have g4 : ¬ (b.1.cps.toList < a.1.cps.toList) := of_decide_eq_false g1
    exact absurd (strLt_of (a := b.1) (b := a.1) g3 (Ne.symm e)) g4
theorem eqv_pair (x y : Str × Int) : PyData.eqv (pairD x) (pairD y) = true → x = y := by
  unfold pairD
  simp [PyData.eqv, PyData.eqvAll]
  intro h1 h2
  exact Prod.ext h1 h2
theorem eqv_mono {a b : Mo} (h : PyData.eqv (monoD a) (monoD b) = true) : a = b := by
  have key : ∀ {a b : Mo}, PyData.eqvAll (a.map pairD) (b.map pairD) = true → a = b := by
    intro a
    induction a with
    | nil => intro b h; cases b with
      | nil => rfl
      | cons y t => simp [PyData.eqvAll] at h
    | cons x a ih =>
      intro b h
      cases b with
      | nil => simp [PyData.eqvAll] at h
      | cons y t =>
        simp only [List.map_cons, PyData.eqvAll, Bool.and_eq_true] at h
        rw [eqv_pair _ _ h.1, ih h.2]
  unfold monoD at h
  rw [PyData.eqv] at h
  exact key h
/-- the order of terms -/
def leT (a b : Mo × Int) : Bool := PySem.W.dataLe false id (termD a) (termD b)
def srtP (l : List (Mo × Int)) : List (Mo × Int) := l.mergeSort leT
theorem srtP_map (l : List (Mo × Int)) : srt (l.map termD) = (srtP l).map termD := (List.map_mergeSort (f := termD) (r := leT) (fun _ _ _ _ => rfl)).symm
def lermD (x : Mo × Int) : PyData := .tuple [monoD x.1, shareD (x.2, 1)]
def keyed {α β : Type} (l : List (α × β)) : Prop := ∀ x ∈ l, ∀ y ∈ l, x.1 = y.1 → x = y
theorem srtP_lerm {l : List (Mo × Int)} (h : keyed l) : srt (l.map lermD) = (srtP l).map lermD := by
  refine (List.map_mergeSort fun a ha b hb => ?_).symm
  show (!PySem.W.dataLt (termD b) (termD a)) = (!PySem.W.dataLt (lermD b) (lermD a))
  unfold termD lermD
  rw [PySem.W.dataLt_pair (alike_mono _ _) (by simp [PySem.W.alike]), PySem.W.dataLt_pair (alike_mono _ _) (by simp [shareD, PySem.W.alike, PySem.W.alikeAll])]
  by_cases e : PyData.eqv (monoD b.1) (monoD a.1) = true
  · have := h b hb a ha (eqv_mono e)
    subst this
    have r : ∀ d : PyData, PySem.W.dataLt d d = false := (fun d => lex_irrefl _)
    rw [if_pos e, if_pos e, r, r]
    simp
  · rw [if_neg e, if_neg e]
theorem mem_srtP {l : List (Mo × Int)} {x : Mo × Int} : x ∈ srtP l ↔ x ∈ l := (List.mergeSort_perm _ _).mem_iff
theorem len_srtP (l : List (Mo × Int)) : (srtP l).length = l.length := (List.mergeSort_perm _ _).length_eq
def leF (a b : Kd × Int × Int) : Bool := PySem.W.dataLe false id (fermD a) (fermD b)
def srtF (l : List (Kd × Int × Int)) : List (Kd × Int × Int) := l.mergeSort leF
theorem srtF_map (l : List (Kd × Int × Int)) : srt (l.map fermD) = (srtF l).map fermD := (List.map_mergeSort (f := fermD) (r := leF) (fun _ _ _ _ => rfl)).symm
theorem mem_srtF {l : List (Kd × Int × Int)} {x : Kd × Int × Int} : x ∈ srtF l ↔ x ∈ l := (List.mergeSort_perm _ _).mem_iff
theorem len_srtF (l : List (Kd × Int × Int)) : (srtF l).length = l.length := (List.mergeSort_perm _ _).length_eq
end K86
set_option Elab.async false
set_option linter.all false
set_option maxRecDepth 100000
set_option maxHeartbeats 4000000
/-! products of boxes, walked -/
namespace K86
open PySem PySem.Spec PyProof.Rows L2
def enc (kv : Str × Int) : Key × V := (Sum.inr kv.1, V.int kv.2)
def put1 : Mo → Str → Int → Mo
  | [], y, c => [(y, c)]
  | x :: r, y, c => if x.1 = y then (y, c) :: r else x :: put1 r y c
def get1 : Mo → Str → Option Int
  | [], _ => none
  | x :: r, y => if x.1 = y then some x.2 else get1 r y
theorem putK_neg {κ : Type} [DecidableEq κ] {x : κ × V} {r : List (κ × V)} {k : κ} {v : V} (h : ¬ x.1 = k) : putK (x :: r) k v = x :: putK r k v := by
  unfold putK
  rw [List.any_cons, decide_eq_false h, Bool.false_or]
  by_cases e : (r.any fun kv => decide (kv.1 = k)) = true
  · rw [if_pos e, if_pos e, List.map_cons, if_neg h]
  · rw [if_neg e, if_neg e] <;> rfl
theorem putK_pos {κ : Type} [DecidableEq κ] {x : κ × V} {r : List (κ × V)} {k : κ} {v : V} (h : x.1 = k) (hr : ∀ z ∈ r, ¬ z.1 = k) : putK (x :: r) k v = (k, v) :: r := by
  unfold putK
  rw [List.any_cons, decide_eq_true h, Bool.true_or, if_pos rfl, List.map_cons, if_pos h, h]
  refine congrArg _ ?_
  conv => rhs; rw [← List.map_id r]
  exact List.map_congr_left fun z hz => by rw [if_neg (hr z hz)] <;> rfl
theorem ris_no {x : Str × Int} {r : Mo} (h : Ris (x :: r)) : ∀ z ∈ r, ¬ z.1 = x.1 := fun z hz e => by
  have := (List.pairwise_cons.mp h).1 z hz
  rw [e] at this
  exact strLt_irrefl this
theorem putK_enc : ∀ {m : Mo}, Ris m → ∀ (y : Str) (c : Int), putK (m.map enc) (Sum.inr y) (V.int c) = (put1 m y c).map enc
  | [], _, y, c => rfl
  | x :: r, h, y, c => by
    unfold put1
    by_cases e : x.1 = y
    · rw [if_pos e, List.map_cons, putK_pos (x := enc x) (show Sum.inr x.1 = Sum.inr y by rw [e]) (fun z hz e2 => ?_)]
      · rfl
      · obtain ⟨z', hz', rfl⟩ := List.mem_map.mp hz
        exact ris_no h z' hz' (by rw [Sum.inr.inj e2, e])
    · rw [if_neg e, List.map_cons, putK_neg (x := enc x) (fun e2 => e (Sum.inr.inj e2)), putK_enc (List.pairwise_cons.mp h).2, List.map_cons]
theorem valV_enc : ∀ (m : Mo) (y : Str), valV (m.map enc) (Sum.inr y) = (get1 m y).map V.int
  | [], y => rfl
  | x :: r, y => by
    unfold get1
    rw [List.map_cons]
    by_cases e : x.1 = y
    · rw [if_pos e, valV_pos (show (enc x).1 = Sum.inr y from by rw [← e] <;> rfl)] <;> rfl
    · rw [if_neg e, valV_neg (fun e2 => e (Sum.inr.inj e2)), valV_enc r y]
theorem get1_none {m : Mo} {y : Str} (h : ∀ z ∈ m, ¬ z.1 = y) : get1 m y = none := by
  induction m with
  | nil => rfl
  | cons x r ih =>
    unfold get1
    rw [if_neg (h x List.mem_cons_self), ih fun z hz => h z (List.mem_cons_of_mem _ hz)]
theorem put1_none {m : Mo} {y : Str} {c : Int} (h : ∀ z ∈ m, ¬ z.1 = y) : put1 m y c = m ++ [(y, c)] := by
  induction m with
  | nil => rfl
  | cons x r ih =>
    unfold put1
    rw [if_neg (h x List.mem_cons_self), ih fun z hz => h z (List.mem_cons_of_mem _ hz)] <;> rfl
theorem put1_incr {y : Str} : ∀ {m : Mo}, Ris m → (put1 m y ((get1 m y).getD 0 + 1)).Perm (incr y m)
  | [], _ => .refl _
  | x :: r, h => by
    by_cases e : x.1 = y
    · unfold put1 get1 incr
      rw [if_pos e, if_pos e, if_pos e] <;> exact .refl _
    · by_cases l : y.cps.toList < x.1.cps.toList
      · have no : ∀ z ∈ x :: r, ¬ z.1 = y := fun z hz e2 => by
          rcases List.mem_cons.mp hz with rfl | hz
          · exact e e2
          · have := (List.pairwise_cons.mp h).1 z hz
            rw [e2] at this
            exact strLt_irrefl (strLt_trans (show strLt y x.1 from l) this)
        rw [get1_none no, put1_none no]
        unfold incr
        rw [if_neg e, if_pos l]
        exact List.perm_append_comm
      · unfold put1 get1 incr
        rw [if_neg e, if_neg e, if_neg e, if_neg l]
        exact .cons x (put1_incr (List.pairwise_cons.mp h).2)
theorem mergeK_enc : ∀ (m acc : Mo), Ris (acc ++ m) → mergeK (acc.map enc) (m.map enc) = (acc ++ m).map enc
  | [], acc, _ => by rw [List.append_nil] <;> rfl
  | x :: r, acc, h => by
    have hacc : Ris acc := (List.pairwise_append.mp h).1
    have no : ∀ z ∈ acc, ¬ z.1 = x.1 := fun z hz e => by
      have := (List.pairwise_append.mp h).2.2 z hz x List.mem_cons_self
      rw [e] at this
      exact strLt_irrefl this
    have e1 : mergeK (acc.map enc) ((x :: r).map enc) = mergeK (putK (acc.map enc) (Sum.inr x.1) (V.int x.2)) (r.map enc) := rfl
    rw [e1, putK_enc hacc, put1_none no]
    have := mergeK_enc r (acc ++ [(x.1, x.2)]) (by rw [List.append_assoc]; exact h)
    rw [this, List.append_assoc] <;> rfl
section
variable {P : Program} {w : World} {K : PySem.W.Frag} {mg : Str → Option Value} {base : Heap}
/-- a product of boxes, a tuple known to have no dict -/
def MonoAt (K : PySem.W.Frag) (H : Hp) (a : Addr) (m : Mo) : Prop := ∃ ps : List Addr, Pt H a (ps.map V.ref) ∧ Paired (fun p kv => SqT K H p [.str kv.1, .int kv.2]) ps m
theorem MonoAt.dp {H : Hp} {a : Addr} {m : Mo} (h : MonoAt K H a m) : Dp K H (.ref a) (monoD m) := by
  obtain ⟨ps, h1, h2⟩ := h
  refine .tup h1.st ?_
  clear h1
  induction h2 with
  | nil => exact .nil
  | cons h t ih => exact .cons (.tup h (.cons (.str _) (.cons (.int _) .nil))) ih
theorem MonoAt.gr {H H1 : Hp} {a : Addr} {m : Mo} (h : MonoAt K H a m) (g : Gr H H1) : MonoAt K H1 a m := by
  obtain ⟨ps, h1, h2⟩ := h
  refine ⟨ps, h1.gr g, ?_⟩
  clear h1
  induction h2 with
  | nil => exact .nil
  | cons h t ih => exact .cons (g.st h) ih
def sp_mono_product (K : PySem.W.Frag) : Sp := fun vs H Q _ => ∃ (a b p : Addr) (m : Mo) (y : Str), vs = [.ref a, .ref b] ∧ MonoAt K H a m ∧ Ris m ∧ m.length ≤ 100 ∧ SqT K H b [.ref p] ∧ SqT K H p [.str y, .int 1] ∧
  ∀ (l : Addr) (H' : Hp), H l = none → Gr H H' → MonoAt K H' l (incr y m) → Q (.ref l) H'
theorem sc_mono_product : FnScope ["one", "other", "found", "box", "power"] ["one", "other"] (defScope s_mono_product) := ⟨rfl, rfl, rfl, by decide +kernel, rfl, by decide +kernel, by decide +kernel⟩
theorem ok_mono_product (T : Tx K mg) : Fn P w K mg base CX0 1 "mono_product" ["one", "other"] (sp_mono_product K) := by
  refine Fn.of T.f_mono_product sc_mono_product (fun _ _ _ _ _ _ us hl => match us, hl with | [_, _], _ => rfl) (fun vs H Q E h => ?_) (fun f cdv A outer s H vs Q E hr h => ⟨_, PSs.nox (pss_cons (ps_set (i := 2) sc_mono_product.nd rfl (Or.inl rfl) (pe_callTy (call_dictTup rfl) (by rfl) T.b_dict (by decide +kernel) (pa_cons (pv 0) pa_nil)))
  (pss_cons (ps_for PassesOwn.never rfl (pi_tup (pv 1)) (pg_tup rfl (pgs_cons (pg_name (i := 3) sc_mono_product.nd rfl (Or.inl rfl)) (pgs_cons (pg_name (i := 4) sc_mono_product.nd rfl (Or.inl rfl)) pgs_nil)))
  (pss_one (ps_dput (hu_of hr) (pv 2) (pv 3) (pe_op op_add (pe_dget2 (hu_of hr) (pv 2) (pv 3) pe_int (by exact ⟨by rfl, by rfl, by rfl, by rfl⟩)) (pv 4)) rfl)))
  (pss_one (ps_ret (pe_callTy call_tupleF (by rfl) T.b_tuple (by decide +kernel) (pa_cons (pe_sortI rfl hr.units (pv 2) T.b_sorted) pa_nil)))))), ?_⟩)
  · obtain ⟨a, b, p, m, y, rfl, _⟩ := h
    rfl
  · obtain ⟨a, b, p, m, y, rfl, ⟨ps, h1, h2⟩, hr, hl, hb, hp, q⟩ := h
    refine ⟨_, rfl, a, ps, m.map enc, rfl, h1, ?_, fun f hf => ?_⟩
    · clear q h1 hr hl
      induction h2 with
      | nil => exact .nil
      | cons h t ih => exact .cons h ih
    · have em : mergeK [] (m.map enc) = m.map enc := mergeK_enc m [] hr
      rw [em]
      refine ⟨_, rfl, b, rfl, ⟨[.ref p], (Gr.new hf).st hb⟩, for_tup (xs := [.ref p]) (K := K) (fun i σ Hh => ∃ z1 z2, σ = [some (.ref a), some (.ref b), some (.ref f), z1, z2] ∧ Hh = upd H f (.dK (if i = 0 then m.map enc else (put1 m y ((get1 m y).getD 0 + 1)).map enc))) ⟨none, none, rfl, rfl⟩ (fun i σ Hh _ pv => ?_) (fun i x σ Hh hx pv => ?_) (fun σ Hh pv => ?_)⟩
      · obtain ⟨_, _, _, rfl⟩ := pv
        exact (Gr.new hf).st hb
      · obtain ⟨_, _, rfl, rfl⟩ := pv
        cases i with
        | succ i => simp at hx
        | zero =>
          simp at hx
          subst hx
          rw [if_pos rfl]
          refine ⟨p, _, rfl, (Gr.new hf).st hp, rfl, ?_⟩
          have eg : (valV (m.map enc) (Sum.inr y)).getD (V.int 0) = V.int ((get1 m y).getD 0) := by
            rw [valV_enc]
            cases get1 m y <;> rfl
          refine ⟨_, _, rfl, _, _, rfl, rfl, _, rfl, f, rfl, .inl ⟨_, .inl upd_same⟩, _, rfl, _, DGet.k (k := Sum.inr y) upd_same, _, rfl, (get1 m y).getD 0, 1, eg, rfl, ?_⟩
          refine ⟨_, rfl, _, rfl, f, _, rfl, DPut.k (k := Sum.inr y) upd_same ?_, _, _, rfl, ?_⟩
          · rw [List.length_map]
            exact Nat.lt_of_le_of_lt hl (by decide)
          · rw [putK_enc hr, if_neg (by omega), upd_upd]
      · obtain ⟨_, _, rfl, rfl⟩ := pv
        rw [if_neg (by simp)]
        have hpm := put1_incr (y := y) hr
        generalize put1 m y ((get1 m y).getD 0 + 1) = l at hpm
        generalize eH1 : upd H f (.dK (l.map enc)) = H1
        have ef1 : H1 f = some (.dK (l.map enc)) := by rw [← eH1]; exact upd_same
        have g1 : Gr H H1 := by rw [← eH1]; exact Gr.new hf
        have pd : Paired (PairDt K H1) ((l.map enc).map fun kv => (kV kv.1, kv.2)) (l.map pairD) := by
          clear hpm eH1 ef1
          induction l with
          | nil => exact .nil
          | cons x r ih => exact .cons ⟨_, _, rfl, .str _, .int _⟩ ih
        refine ⟨_, rfl, f, _, _, rfl, hasPairs_dK ef1, pd, srtOk_pair _, fun t H2 ys ht g2 e2 d2 => ⟨t, ys, rfl, sl_of e2, fun o H3 ho g3 pt => ?_⟩⟩
        rw [sort_pairs (ris_incr hr) hpm] at d2
        have g := g1.trans (g2.trans g3)
        refine q o H3 (g1.free (g2.free ho)) g ?_
        have key : ∀ {ys : List V} {mm : Mo}, DpAll K H2 ys (mm.map pairD) → ∃ qs : List Addr, ys = qs.map V.ref ∧ Paired (fun p kv => SqT K H3 p [.str kv.1, .int kv.2]) qs mm := by
          intro ys mm
          induction mm generalizing ys with
          | nil => intro h; cases h; exact ⟨[], rfl, .nil⟩
          | cons x r ih =>
            intro h
            cases h with
            | cons h1 h2 =>
              obtain ⟨qs, rfl, hq⟩ := ih h2
              obtain ⟨c, x1, x2, rfl, e1, e2, e3⟩ := dp_two h1
              rw [dp_str e2, dp_int e3] at e1
              exact ⟨c :: qs, rfl, .cons (g3.st e1) hq⟩
        obtain ⟨qs, rfl, hq⟩ := key d2
        exact ⟨qs, pt, hq⟩
end
end K86
set_option Elab.async false
set_option linter.all false
set_option maxRecDepth 100000
set_option maxHeartbeats 4000000
/-! a row bent: lengths, blanks -/
namespace K86
open PySem PySem.Spec PyProof.Rows L2
section
variable {X : Cx}
theorem op_repS : OpR X (binaryOp .Mult) (fun x y H Q => ∃ z k, x = .str z ∧ y = .int k ∧ z.length ≤ 1000 ∧ 0 ≤ k ∧ k ≤ 1000 ∧ Q (.str (Txt.mul z k)) H) := by
  intro pins s σ H x y v u Q I rx ry h
  obtain ⟨z, k, rfl, rfl, hz, h0, h1, q⟩ := h
  obtain ⟨t, rfl⟩ := rx
  obtain ⟨t', rfl⟩ := ry
  exact SB.mul (PyProof.Rows.mulOk_of 1000 1000 hz h1 (by omega) (by decide) (by decide)) fun t' tk => ⟨.str (Txt.mul z k), H, I.tok _, ⟨_, rfl⟩, q⟩
end
/-- lengths of texts, together -/
def sm (ys : List Str) : Nat := (ys.map (·.length)).sum
theorem sm_app (a b : List Str) : sm (a ++ b) = sm a + sm b := by
  unfold sm
  rw [List.map_append, List.sum_append]
theorem sm_cons (a : Str) (b : List Str) : sm (a :: b) = a.length + sm b := by
  unfold sm
  rw [List.map_cons, List.sum_cons]
theorem sm_split (ys : List Str) (a : Nat) : sm (ys.take a) + sm (ys.drop a) = sm ys := by
  rw [← sm_app, List.take_append_drop]
theorem sm_drop : ∀ (ys : List Str) (a : Nat), sm (ys.drop a) ≤ sm ys
  | ys, a => by have := sm_split ys a; omega
theorem sm_take (ys : List Str) (a : Nat) : sm (ys.take a) ≤ sm ys := by have := sm_split ys a; omega
theorem sm_two (ys : List Str) {a b : Nat} (h : a ≤ b) : sm (ys.take a) + sm (ys.drop b) ≤ sm ys := by
  have h1 := sm_split ys a
  have h2 := sm_drop (ys.drop a) (b - a)
  rw [List.drop_drop, show a + (b - a) = b by omega] at h2
  omega
theorem cutV_map {α : Type} (f : α → V) (ys : List α) (lo hi : Option Int) : cutV (ys.map f) lo hi = ((ys.drop (HT.sIx ys.length 0 lo)).take (HT.sIx ys.length ys.length hi - HT.sIx ys.length 0 lo)).map f := by
  unfold cutV
  rw [List.length_map, ← List.map_drop, ← List.map_take]
theorem cut_to (ys : List Str) (k : Nat) : cutV (ys.map V.str) none (some (k : Int)) = (ys.take k).map V.str := by
  rw [cutV_map, HT.sIx_nat, HT.sIx_none, List.drop_zero, Nat.sub_zero]
  congr 1
  rw [List.take_eq_take_iff]
  omega
theorem cut_from (ys : List Str) (k : Nat) : cutV (ys.map V.str) (some (k : Int)) none = (ys.drop k).map V.str := by
  rw [cutV_map, HT.sIx_nat, HT.sIx_none]
  congr 1
  by_cases h : k ≤ ys.length
  · rw [Nat.min_eq_left h, List.take_of_length_le (by rw [List.length_drop]; omega)]
  · rw [Nat.min_eq_right (by omega), List.drop_of_length_le (Nat.le_refl _), List.drop_of_length_le (by omega), List.take_nil]
theorem cut_mid (ys : List Str) (k m : Nat) : ∃ a b, cutV (ys.map V.str) (some (k : Int)) (some (m : Int)) = ((ys.drop a).take b).map V.str ∧ b ≤ m - k := by
  refine ⟨min k ys.length, min m ys.length - min k ys.length, ?_, by omega⟩
  rw [cutV_map, HT.sIx_nat, HT.sIx_nat]
/-! ### words of a row -/
theorem join_cut (s : Nat) : ∀ l, TL.joinL [s] (cut1 s l) = l
  | [] => rfl
  | c :: r => by
    have ih := join_cut s r
    unfold cut1
    by_cases h : c = s
    · rw [if_pos h]
      cases q : cut1 s r with
      | nil => exact absurd q (cut1_ne s r)
      | cons a b =>
        rw [q] at ih
        rw [joinL_cons, ih, h] <;> rfl
    · rw [if_neg h]
      cases q : cut1 s r with
      | nil => exact absurd q (cut1_ne s r)
      | cons a b =>
        rw [q] at ih
        cases b with
        | nil =>
          have e : a = r := ih
          show c :: a = c :: r
          rw [e]
        | cons u v =>
          rw [joinL_cons] at ih
          show TL.joinL [s] ((c :: a) :: u :: v) = c :: r
          rw [joinL_cons, ← ih] <;> rfl
theorem joinL_len (s : Nat) : ∀ ps : List (List Nat), ps ≠ [] → (TL.joinL [s] ps).length + 1 = (ps.map (·.length)).sum + ps.length
  | [], h => absurd rfl h
  | [p], _ => by
    show p.length + 1 = _
    simp
  | p :: q :: r, _ => by
    have ih := joinL_len s (q :: r) (by simp)
    rw [joinL_cons, List.length_append, List.length_append, List.map_cons, List.sum_cons, List.length_cons (a := p)]
    have e : [s].length = 1 := rfl
    rw [e]
    omega
theorem joinL_count (s : Nat) : ∀ ps : List (List Nat), ps ≠ [] → (TL.joinL [s] ps).count s + 1 = (ps.map (·.count s)).sum + ps.length
  | [], h => absurd rfl h
  | [p], _ => by
    show p.count s + 1 = _
    simp
  | p :: q :: r, _ => by
    have ih := joinL_count s (q :: r) (by simp)
    rw [joinL_cons, List.count_append, List.count_append, List.map_cons, List.sum_cons, List.length_cons (a := p)]
    have e : [s].count s = 1 := by simp
    rw [e]
    omega
/-- a word: no blank -/
structure Wd (z : Str) (n : Nat) : Prop where
  a : asc z
  l : z.length ≤ n
  k : 32 ∉ tl z
theorem Wd.mono {z : Str} {n m : Nat} (h : Wd z n) (l : n ≤ m) : Wd z m := ⟨h.a, Nat.le_trans h.l l, h.k⟩
theorem wd_lit (z : Str) (n : Nat) (h : ((tl z).all (fun c => decide (c < 128) && !decide (c = 32)) && decide (z.length ≤ n)) = true) : Wd z n := by
  simp only [Bool.and_eq_true, decide_eq_true_eq, List.all_eq_true, Bool.not_eq_true', decide_eq_false_iff_not] at h
  exact ⟨fun c hc => (h.1 c hc).1, h.2, fun hm => (h.1 32 hm).2 rfl⟩
def splitB (z : Str) : List Str := Txt.split z ⟨#[32]⟩
theorem splitB_tl (z : Str) : (splitB z).map tl = cut1 32 (tl z) := split_cut (by decide) z
theorem splitB_ne (z : Str) : splitB z ≠ [] := fun e => by
  have := splitB_tl z
  rw [e] at this
  exact cut1_ne 32 _ this.symm
theorem splitB_mem {z y : Str} (h : y ∈ splitB z) : tl y ∈ cut1 32 (tl z) := by
  rw [← splitB_tl]
  exact List.mem_map.mpr ⟨y, h, rfl⟩
theorem splitB_wd {z : Str} {n b : Nat} (h : Tt z n b) {y : Str} (hy : y ∈ splitB z) : Wd y n := by
  obtain ⟨h1, h2⟩ := cut1_part 32 _ _ (splitB_mem hy)
  refine ⟨fun c hc => h.a c (h2 c hc).1, ?_, fun hm => (h2 32 hm).2 rfl⟩
  rw [len_tl]
  have := h.l
  rw [len_tl] at this
  omega
theorem splitB_len (z : Str) : (splitB z).length = (tl z).count 32 + 1 := by
  have := congrArg List.length (splitB_tl z)
  rw [List.length_map, cut1_len] at this
  exact this
theorem map_len (ps : List Str) : (ps.map tl).map (·.length) = ps.map (·.length) := by
  rw [List.map_map]
  exact List.map_congr_left fun p _ => (len_tl p).symm
theorem splitB_sm (z : Str) : sm (splitB z) + (splitB z).length = z.length + 1 := by
  have h := joinL_len 32 (cut1 32 (tl z)) (cut1_ne _ _)
  rw [join_cut, ← splitB_tl, map_len, List.length_map] at h
  unfold sm
  rw [len_tl z]
  omega
/-- words put together -/
theorem join_words {ws : List Str} {n : Nat} (h : ∀ w ∈ ws, Wd w n) : Tt (Txt.join " " ws) (sm ws + ws.length) (ws.length - 1) := by
  have et : tl (" " : Str) = [32] := by decide +kernel
  by_cases hne : ws = []
  · subst hne
    have e : tl (Txt.join " " []) = [] := by
      rw [tl_joinT]
      rfl
    refine ⟨fun c hc => ?_, ?_, ?_⟩
    · rw [e] at hc
      cases hc
    · rw [len_tl, e]
      exact Nat.zero_le _
    · rw [e]
      exact Nat.zero_le _
  · have hne' : ws.map tl ≠ [] := fun e => hne (List.map_eq_nil_iff.mp e)
    have tj : Tt (" " : Str) 1 1 := tt_lit _ _ _ (by decide +kernel)
    have aj := (Tt.join tj (ps := ws) (n := n) (b := 0) fun p hp => ⟨(h p hp).a, (h p hp).l, Nat.le_of_eq (List.count_eq_zero.mpr (h p hp).k)⟩).a
    refine ⟨aj, ?_, ?_⟩
    · have h1 := joinL_len 32 _ hne'
      rw [map_len, List.length_map] at h1
      rw [len_tl, tl_joinT, et]
      unfold sm
      omega
    · have h1 := joinL_count 32 _ hne'
      rw [List.length_map, List.map_map] at h1
      have z0 : (ws.map ((·.count 32) ∘ tl)).sum = 0 := by
        clear h1 hne hne' aj
        induction ws with
        | nil => rfl
        | cons w ws ih =>
          rw [List.map_cons, List.sum_cons, ih fun p hp => h p (List.mem_cons_of_mem _ hp)]
          have := List.count_eq_zero.mpr (h w List.mem_cons_self).k
          show (tl w).count 32 + 0 = 0
          omega
      rw [tl_joinT, et]
      omega
theorem Draw.nel {H : Hp} {d p : Addr} {n : Int} {xs : List V} (h : Draw H d n) (hp : H p = some (.lst xs)) : p ≠ d := fun e => by
  obtain ⟨o, s, a, e1, _⟩ := h
  rw [e, e1] at hp
  cases hp
end K86
set_option Elab.async false
set_option linter.all false
set_option maxRecDepth 100000
set_option maxHeartbeats 4000000
/-! rows bent -/
namespace K86
open PySem PySem.Spec PyProof.Rows L2
section
variable {P : Program} {w : World} {K : PySem.W.Frag} {mg : Str → Option Value} {base : Heap}
theorem slice_to {H : Hp} {a : Addr} {ys : List Str} {k : Nat} {i : Int} {Q : VK} (hi : i = (k : Int)) (h : H a = some (.lst (ys.map V.str))) (q : ∀ (p : Addr) (H' : Hp), H p = none → Gr H H' → H' p = some (.lst ((ys.take k).map V.str)) → Q (.ref p) H') : rSlL K (.ref a) none (some i) H Q := by
  subst hi
  exact ⟨a, _, rfl, sl_of h, fun p hp => q p _ hp (Gr.new hp) (by rw [upd_same, cut_to])⟩
theorem slice_from {H : Hp} {a : Addr} {ys : List Str} {k : Nat} {i : Int} {Q : VK} (hi : i = (k : Int)) (h : H a = some (.lst (ys.map V.str))) (q : ∀ (p : Addr) (H' : Hp), H p = none → Gr H H' → H' p = some (.lst ((ys.drop k).map V.str)) → Q (.ref p) H') : rSlL K (.ref a) (some i) none H Q := by
  subst hi
  exact ⟨a, _, rfl, sl_of h, fun p hp => q p _ hp (Gr.new hp) (by rw [upd_same, cut_from])⟩
theorem slice_mid {H : Hp} {a : Addr} {ys : List Str} {k m : Nat} {i j : Int} {Q : VK} (hi : i = (k : Int)) (hj : j = (m : Int)) (h : H a = some (.lst (ys.map V.str))) (q : ∀ (p : Addr) (H' : Hp) (zs : List Str), H p = none → Gr H H' → H' p = some (.lst (zs.map V.str)) → zs.length ≤ m - k → (∀ z ∈ zs, z ∈ ys) → Q (.ref p) H') : rSlL K (.ref a) (some i) (some j) H Q := by
  subst hi hj
  refine ⟨a, _, rfl, sl_of h, fun p hp => ?_⟩
  obtain ⟨u, v, e, l⟩ := cut_mid ys k m
  exact q p _ ((ys.drop u).take v) hp (Gr.new hp) (by rw [upd_same, e]) (by rw [List.length_take]; omega) fun z hz => List.mem_of_mem_drop (List.mem_of_mem_take hz)
theorem at_str {ys : List Str} {k : Nat} (h : k < ys.length) : atI (ys.map V.str) (k : Int) = some (.str ys[k]) := atI_nat (by rw [List.getElem?_map, List.getElem?_eq_getElem h] <;> rfl)
def headsB : List Str := ["end", "by", "both", "loop 1", "jump 1*x", "x = 1", "x = 1[0,1]", "end end", "ends", "both x", ""]
theorem headsB_tt : ∀ y ∈ headsB, Tt y 2500 6 := by
  have h : headsB.all (fun y => (tl y).all (fun c => decide (c < 128)) && decide (y.length ≤ 2500) && decide ((tl y).count 32 ≤ 6)) = true := by decide +kernel
  exact fun y hy => tt_lit y _ _ (List.all_eq_true.mp h y hy)
def sp_law_bent : Sp := fun vs H Q _ => ∃ (d r : Addr) (ys : List Str) (n : Int) (L b : Nat), vs = [.ref d, .ref r] ∧ Draw H d n ∧ n < 2 ^ 36 ∧ H r = some (.lst (ys.map V.str)) ∧ ys.length ≤ 2000 ∧ (2500 ≤ L ∧ L ≤ 200000) ∧ (6 ≤ b ∧ b ≤ 100) ∧ (∀ y ∈ ys, Tt y L b) ∧
  ∀ (p : Addr) (H' : Hp) (zs : List Str), GrBut d H H' → Draw H' d (n + 20) → H' p = some (.lst (zs.map V.str)) → zs.length ≤ ys.length + 1 → (∀ z ∈ zs, Tt z (2 * L + 100) (b + 2)) → sm zs ≤ sm ys + (2 * L + 100) → Q (.ref p) H'
theorem b36 : (2 : Int) ^ 36 = 68719476736 := by decide
theorem sc_law_bent : FnScope ["_law_draw_here", "_law_rows_here", "_law_way", "_law_at", "_law_other", "_law_heads", "_law_behind", "_law_words", "_law_spot", "_law_some", "_law_word", "_law_own", "_law_more", "_law_line"] ["_law_draw_here", "_law_rows_here"] (defScope s_law_bent) := ⟨rfl, rfl, rfl, by decide +kernel, rfl, by decide +kernel, by decide +kernel⟩
def longB : Str := "0 1 -1 -0 01 + = * x 1* *x 1*x 2*x*x 1**x x*1 1*X 1*abcdefghi 1/2 end by"
theorem longB_wd : ∀ y ∈ splitB longB, Wd y 200 := fun y hy => splitB_wd (b := 100) (tt_lit longB 200 100 (by decide +kernel)) hy
theorem more_words {σ : L2.St} {H : Hp} {Q : VK} {w1 : Int} {word own : Str} {L : Nat} (s2 : σ[2]? = some (some (.int w1))) (s10 : σ[10]? = some (some (.str word))) (s11 : σ[11]? = some (some (.str own))) (h3 : 3 ≤ w1) (h9 : w1 < 10) (hL : 1 ≤ L) (wv : Wd word L) (wo : Wd own L)
    (q : ∀ (am : Addr) (mv : List Str) (H' : Hp), Gr H H' → H' am = some (.lst (mv.map V.str)) → mv.length ≤ 3 → (∀ x ∈ mv, Wd x L) → sm mv ≤ own.length + L + 1 → Q (.ref am) H') :
    tOp (rIxL K) (tLst (tCons (tLst (tCons (tVar 10) tNil)) (tCons (tLst (tCons (tVar 10) tNil)) (tCons (tLst (tCons (tVar 10) (tCons (tVar 11) tNil))) (tCons (tLst (tCons (tVar 11) (tCons (tVar 10) tNil))) (tCons (tLst tNil)
      (tCons (tLst (tCons (tVar 11) (tCons (tC (.str "+")) (tCons (tVar 10) tNil)))) (tCons (tLst (tCons (tVar 11) (tCons (tVar 11) tNil))) tNil)))))))) (tOp (rI0 fun i j => .int (i - j)) (tVar 2) (tC (.int 3))) σ H Q := by
  refine ⟨_, s10, by show 1 ≤ sizeLine; decide, fun a1 h1 => ⟨_, s10, by show 1 ≤ sizeLine; decide, fun a2 h2 => ⟨_, s10, _, s11, by show 2 ≤ sizeLine; decide, fun a3 h3' => ⟨_, s11, _, s10, by show 2 ≤ sizeLine; decide, fun a4 h4 => ⟨by show 0 ≤ sizeLine; omega, fun a5 h5' => ⟨_, s11, _, s10, by show 3 ≤ sizeLine; decide, fun a6 h6 => ⟨_, s11, _, s11, by show 2 ≤ sizeLine; decide, fun a7 h7' => ⟨by show 7 ≤ sizeLine; decide, fun a8 h8 => ?_⟩⟩⟩⟩⟩⟩⟩⟩
  have G1 : Gr H (upd H a1 (.lst ([word].map V.str))) := Gr.new h1
  have G2 : Gr _ (upd _ a2 (.lst ([word].map V.str))) := Gr.new h2
  have G3 : Gr _ (upd _ a3 (.lst ([word, own].map V.str))) := Gr.new h3'
  have G4 : Gr _ (upd _ a4 (.lst ([own, word].map V.str))) := Gr.new h4
  have G5 : Gr _ (upd _ a5 (.lst (([] : List Str).map V.str))) := Gr.new h5'
  have G6 : Gr _ (upd _ a6 (.lst ([own, "+", word].map V.str))) := Gr.new h6
  have G7 : Gr _ (upd _ a7 (.lst ([own, own].map V.str))) := Gr.new h7'
  have G8 : Gr _ (upd _ a8 (.lst [.ref a1, .ref a2, .ref a3, .ref a4, .ref a5, .ref a6, .ref a7])) := Gr.new h8
  have E1 := G8 _ _ (G7 _ _ (G6 _ _ (G5 _ _ (G4 _ _ (G3 _ _ (G2 _ _ (upd_same (H := H) (a := a1) (o := .lst ([word].map V.str)))))))))
  have E2 := G8 _ _ (G7 _ _ (G6 _ _ (G5 _ _ (G4 _ _ (G3 _ _ (upd_same (a := a2) (o := .lst ([word].map V.str))))))))
  have E3 := G8 _ _ (G7 _ _ (G6 _ _ (G5 _ _ (G4 _ _ (upd_same (a := a3) (o := .lst ([word, own].map V.str)))))))
  have E4 := G8 _ _ (G7 _ _ (G6 _ _ (G5 _ _ (upd_same (a := a4) (o := .lst ([own, word].map V.str))))))
  have E5 := G8 _ _ (G7 _ _ (G6 _ _ (upd_same (a := a5) (o := .lst (([] : List Str).map V.str)))))
  have E6 := G8 _ _ (G7 _ _ (upd_same (a := a6) (o := .lst ([own, "+", word].map V.str))))
  have E7 := G8 _ _ (upd_same (a := a7) (o := .lst ([own, own].map V.str)))
  have GG := ((((((G1.trans G2).trans G3).trans G4).trans G5).trans G6).trans G7).trans G8
  have m0 : ∃ j : Nat, w1 = ((j + 3 : Nat) : Int) ∧ j < 7 := ⟨(w1 - 3).toNat, by omega, by omega⟩
  obtain ⟨j, ew, hj⟩ := m0
  have e3 : w1 - 3 = (j : Int) := by omega
  have plus : Wd ("+" : Str) 1 := wd_lit _ _ (by decide +kernel)
  have l1 := wv.l
  have l2 := wo.l
  have l3 := plus.l
  have s0 : sm [] = 0 := rfl
  have one : ∀ {a : Str}, Wd a L → ∀ x ∈ [a], Wd x L := fun ha x hx => by
    rw [List.mem_singleton.mp hx]
    exact ha
  have two : ∀ {a b : Str}, Wd a L → Wd b L → ∀ x ∈ [a, b], Wd x L := fun ha hb x hx => by
    rcases List.mem_cons.mp hx with e | hx
    · rw [e]; exact ha
    · rw [List.mem_singleton.mp hx]; exact hb
  have three : ∀ x ∈ [own, "+", word], Wd x L := fun x hx => by
    rcases List.mem_cons.mp hx with e | hx
    · rw [e]; exact wo
    · exact two (plus.mono hL) wv x hx
  refine ⟨_, s2, _, _, rfl, rfl, a8, [.ref a1, .ref a2, .ref a3, .ref a4, .ref a5, .ref a6, .ref a7], (j : Int), ?_⟩
  match j, hj with
  | 0, _ => exact ⟨_, rfl, congrArg V.int e3, sl_of upd_same, atI_nat (j := 0) rfl, q a1 [word] _ GG E1 (by simp) (one wv) (by rw [sm_cons, s0]; omega)⟩
  | 1, _ => exact ⟨_, rfl, congrArg V.int e3, sl_of upd_same, atI_nat (j := 1) rfl, q a2 [word] _ GG E2 (by simp) (one wv) (by rw [sm_cons, s0]; omega)⟩
  | 2, _ => exact ⟨_, rfl, congrArg V.int e3, sl_of upd_same, atI_nat (j := 2) rfl, q a3 [word, own] _ GG E3 (by simp) (two wv wo) (by rw [sm_cons, sm_cons, s0]; omega)⟩
  | 3, _ => exact ⟨_, rfl, congrArg V.int e3, sl_of upd_same, atI_nat (j := 3) rfl, q a4 [own, word] _ GG E4 (by simp) (two wo wv) (by rw [sm_cons, sm_cons, s0]; omega)⟩
  | 4, _ => exact ⟨_, rfl, congrArg V.int e3, sl_of upd_same, atI_nat (j := 4) rfl, q a5 [] _ GG E5 (by simp) (fun x hx => by cases hx) (by rw [s0]; omega)⟩
  | 5, _ => exact ⟨_, rfl, congrArg V.int e3, sl_of upd_same, atI_nat (j := 5) rfl, q a6 [own, "+", word] _ GG E6 (by simp) three (by rw [sm_cons, sm_cons, sm_cons, s0]; omega)⟩
  | 6, _ => exact ⟨_, rfl, congrArg V.int e3, sl_of upd_same, atI_nat (j := 6) rfl, q a7 [own, own] _ GG E7 (by simp) (two wo wo) (by rw [sm_cons, sm_cons, s0]; omega)⟩
end
end K86
set_option Elab.async false
set_option linter.all false
set_option maxRecDepth 100000
set_option maxHeartbeats 4000000
/-! terms of polys, read -/
namespace K86
open PySem PySem.Spec PyProof.Rows L2
/-- cut at each of one sign -/
def spl (c : Nat) (z : Str) : List Str := Txt.split z ⟨#[c]⟩
theorem spl_tl {c : Nat} (hc : c < 256) (z : Str) : (spl c z).map tl = cut1 c (tl z) := split_cut hc z
theorem spl_ne {c : Nat} (hc : c < 256) (z : Str) : spl c z ≠ [] := fun e => by
  have := spl_tl hc z
  rw [e] at this
  exact cut1_ne c _ this.symm
theorem spl_mem {c : Nat} (hc : c < 256) {z y : Str} (h : y ∈ spl c z) : tl y ∈ cut1 c (tl z) := by
  rw [← spl_tl hc]
  exact List.mem_map.mpr ⟨y, h, rfl⟩
theorem spl_le {c : Nat} (hc : c < 256) {z y : Str} (h : y ∈ spl c z) : y.length ≤ z.length := by
  have := (cut1_part c _ _ (spl_mem hc h)).1
  rw [len_tl, len_tl]
  exact this
theorem spl_asc {c : Nat} (hc : c < 256) {z y : Str} (a : asc z) (h : y ∈ spl c z) : asc y := fun d hd => a d ((cut1_part c _ _ (spl_mem hc h)).2 d hd).1
theorem spl_len {c : Nat} (hc : c < 256) (z : Str) : (spl c z).length = (tl z).count c + 1 := by
  have := congrArg List.length (spl_tl hc z)
  rw [List.length_map, cut1_len] at this
  exact this
theorem spl_few {c : Nat} (hc : c < 256) (z : Str) : (spl c z).length ≤ z.length + 1 := by
  rw [spl_len hc, len_tl]
  have := List.count_le_length (a := c) (l := tl z)
  omega
theorem spl_cons {c : Nat} (hc : c < 256) (z : Str) : ∃ a r, spl c z = a :: r := by
  cases h : spl c z with
  | nil => exact absurd h (spl_ne hc z)
  | cons a r => exact ⟨a, r, rfl⟩
def isN (y : Str) : Bool := nameL (tl y)
/-- what a word tells as a poly's term -/
def termT (z : Str) : Option (Mo × Int) := match spl 42 z with
  | [] => none
  | a :: r => match numOf (tl a) with
    | none => none
    | some n => if (decide (r.length ≤ 12) && r.all isN) = true then some (moOf r, n) else none
theorem take_map_snoc {α β : Type} (f : α → β) {l : List α} {i : Nat} {x : α} (h : l[i]? = some x) : (l.take (i + 1)).map f = (l.take i).map f ++ [f x] := by rw [take_snoc h, List.map_append] <;> rfl
theorem at_map {l : List Str} {i : Nat} {v : V} (h : (l.map V.str)[i]? = some v) : ∃ y, l[i]? = some y ∧ v = .str y := by
  rw [List.getElem?_map] at h
  cases e : l[i]? with
  | none => rw [e] at h; cases h
  | some y => rw [e] at h; cases h; exact ⟨y, rfl, rfl⟩
theorem at0 {v : V} {r : List V} : atI (v :: r) 0 = some v := atI_nat (j := 0) rfl
theorem incr_len (y : Str) : ∀ m : Mo, (incr y m).length ≤ m.length + 1
  | [] => Nat.le_refl _
  | x :: r => by
    unfold incr
    split
    · exact Nat.le_succ _
    · split
      · exact Nat.le_refl _
      · exact Nat.succ_le_succ (incr_len y r)
theorem foldl_len : ∀ (ps : List Str) (m : Mo), (ps.foldl (fun m y => incr y m) m).length ≤ m.length + ps.length
  | [], m => Nat.le_refl _
  | y :: ps, m => by
    have h1 := foldl_len ps (incr y m)
    have h2 := incr_len y m
    rw [List.foldl_cons, List.length_cons]
    omega
theorem moOf_len (ps : List Str) : (moOf ps).length ≤ ps.length := by
  have := foldl_len ps []
  rw [List.length_nil, Nat.zero_add] at this
  exact this
section
variable {P : Program} {w : World} {K : PySem.W.Frag} {mg : Str → Option Value} {base : Heap}
def OptT (K : PySem.W.Frag) (H : Hp) : Option (Mo × Int) → V → Prop
  | none, v => v = .non
  | some x, v => Dp K H v (termD x)
def sp_term_in (K : PySem.W.Frag) : Sp := fun vs H Q _ => ∃ z : Str, vs = [.str z] ∧ z.length + 2 ≤ sizeLine ∧ ∀ v H', Gr H H' → OptT K H' (termT z) v → Q v H'
theorem sc_term_in : FnScope ["word", "parts", "number", "part", "mono"] ["word"] (defScope s_term_in) := ⟨rfl, rfl, rfl, by decide +kernel, rfl, by decide +kernel, by decide +kernel⟩
theorem ok_term_in (T : Tx K mg) (F_number_of : Fn P w K mg base CX0 1 "number_of" ["word"] sp_number_of) (F_is_name : Fn P w K mg base CX0 1 "is_name" ["thing"] sp_is_name) (F_mono_product : Fn P w K mg base CX0 1 "mono_product" ["one", "other"] (sp_mono_product K)) : Fn P w K mg base CX0 2 "term_in" ["word"] (sp_term_in K) := by
  refine Fn.of T.f_term_in sc_term_in (fun _ _ _ _ _ _ us hl => match us, hl with | [_], _ => rfl) (fun vs H Q E h => ?_) (fun f cdv A outer s H vs Q E hr h => ⟨_, PSs.nox (pss_cons (ps_set (i := 1) sc_term_in.nd rfl (Or.inl rfl) (pe_split (pv 0) pe_str))
  (pss_cons (ps_set (i := 2) sc_term_in.nd rfl (Or.inl rfl) (pe_fn F_number_of (hr.mono (by omega)) (pa_cons (pe_ix ix_list (pv 1) pe_int (fun _ _ => rfl)) pa_nil)))
  (pss_cons (ps_if (pt_cut (PW.pt (pw_or (pt_cmpR op_isN (pv 2) pe_non (nomark _)) (pw_or (pt_cmpR op_gt (pe_callB call_len_seq (by rfl) T.b_len (by decide +kernel) (pa_cons (pv 1) pa_nil)) (pe_op op_add (pe_gv T.c_MOST_DEGREE) pe_int) (nomark _)) (pw_or1 (pt_not (pt_val (pe_callB (cr_all rfl) (by rfl) T.b_all (by decide +kernel) (pa_cons (pe_lc (own := [("part", 3)]) (g := (gName 3)) (tt := tYes) (by rfl) sc_term_in.nd (pi_list (pe_slice sl_list (pv 1) (po_some pe_int) po_none)) (blkOk_by (own := [("part", 3)]) (N := ["word", "parts", "number", "part", "mono"]) (sc := defScope s_term_in) (by decide +kernel)) (fun _ _ _ _ _ => (pg_name (i := 3) sc_term_in.nd rfl (Or.inl rfl))) (fun _ _ _ _ _ => pts_nil) (fun _ _ _ _ _ => (pe_fn F_is_name (hr.mono (by omega)) (pa_cons (pv 3) pa_nil)))) pa_nil))))))))) (pss_one (ps_ret pe_non)) pss_nil)
  (pss_cons (ps_set (i := 4) sc_term_in.nd rfl (Or.inl rfl) (pe_tupF pa_nil))
  (pss_cons (ps_for PassesOwn.never rfl (pi_list (pe_slice sl_list (pv 1) (po_some pe_int) po_none)) (pg_name (i := 3) sc_term_in.nd rfl (Or.inl rfl))
  (pss_one (ps_set (i := 4) sc_term_in.nd rfl (Or.inl rfl) (pe_fn F_mono_product (hr.mono (by omega)) (pa_cons (pv 4) (pa_cons (pe_tup (pa_cons (pe_tup (pa_cons (pv 3) (pa_cons pe_int pa_nil))) pa_nil)) pa_nil))))))
  (pss_one (ps_ret (pe_tup (pa_cons (pv 4) (pa_cons (pv 2) pa_nil)))))))))), ?_⟩)
  · obtain ⟨z, rfl, _⟩ := h
    rfl
  · obtain ⟨z, rfl, hz, q⟩ := h
    have e42 : Txt.split z "*" = spl 42 z := rfl
    obtain ⟨a, r, es⟩ := spl_cons (c := 42) (by decide) z
    have la : a.length ≤ z.length := spl_le (c := 42) (by decide) (by rw [es]; exact List.mem_cons_self)
    have lr : ∀ y ∈ r, y.length ≤ z.length := fun y hy => spl_le (c := 42) (by decide) (by rw [es]; exact List.mem_cons_of_mem _ hy)
    have ln := spl_few (c := 42) (by decide) z
    have eT : termT z = match numOf (tl a) with
      | none => none
      | some n => if (decide (r.length ≤ 12) && r.all isN) = true then some (moOf r, n) else none := by
      unfold termT
      rw [es]
    rw [eT] at q
    rw [es] at ln
    clear eT
    refine ⟨_, rfl, ⟨z, rfl⟩, z, _, rfl, rfl, rfl, hz, fun p1 hp1 => ?_⟩
    rw [e42, es]
    refine ⟨_, rfl, p1, _, 0, _, rfl, rfl, sl_of upd_same, at0, a, rfl, by omega, fun H2 g2 => ?_⟩
    have e2 : H2 p1 = some (.lst ((a :: r).map V.str)) := g2 _ _ upd_same
    have g02 : Gr H H2 := (Gr.new hp1).trans g2
    generalize numOf (tl a) = o at q
    clear g2
    have sb : (sizeLine : Nat) = sizeLine := rfl
    refine ⟨fun b H' => Gr H2 H' ∧ ((b = true ∧ (o = none ∨ (decide (r.length ≤ 12) && r.all isN) = false)) ∨ (b = false ∧ ∃ n, o = some n ∧ (decide (r.length ≤ 12) && r.all isN) = true)), ?_, fun b H3 hb => ?_⟩
    · cases o with
      | none => exact ⟨_, rfl, rfl, _, rfl, iteT rfl ⟨Gr.rfl' _, .inl ⟨rfl, .inl rfl⟩⟩⟩
      | some n =>
        refine ⟨_, rfl, rfl, _, rfl, iteF rfl ?_⟩
        refine ⟨_, rfl, p1, _, rfl, .inl (sl_of e2), _, _, rfl, rfl, _, _, rfl, rfl, _, rfl, ?_⟩
        refine ite2 (fun c => ?_) (fun c => ?_)
        · refine ⟨Gr.rfl' _, .inl ⟨rfl, .inr ?_⟩⟩
          have c' := dT c
          rw [List.length_map, List.length_cons] at c'
          rw [decide_eq_false (by omega), Bool.false_and]
        · have c' := dF c
          rw [List.length_map, List.length_cons] at c'
          have hr12 : r.length ≤ 12 := by omega
          refine ⟨_, rfl, _, rfl, ?_⟩
          unfold tNoPart
          refine slice_from (k := 1) rfl e2 fun p3 H3 hp3 g3 e3 => ?_
          refine ⟨p3, rfl, ⟨_, sl_of e3⟩, fun D hD => lc_gr walk_list hD (fun i => (r.take i).map fun y => V.bl (isN y)) rfl (fun i hi => ?_) (fun H g => sl_of (g _ _ e3)) (fun i x H1 H2 hi g1 y C C0 h1 h2 => ?_) (fun H1 g1 e1 => ?_)⟩
          · rw [List.length_map, List.length_take]
            exact Nat.lt_of_le_of_lt (Nat.le_trans (Nat.min_le_right _ _) hr12) (by decide)
          · obtain ⟨rfl, hx⟩ := y
            obtain ⟨u, hu, rfl⟩ := at_map hx
            exact ⟨rfl, _, rfl, u, rfl, by have := lr u (List.mem_of_getElem? hu); omega, fun H' g => h1 _ _ g (take_map_snoc (fun y => V.bl (isN y)) hu)⟩
          · have ed : ((r.take ((r.map V.str).length)).map fun y => V.bl (isN y)) = (r.map isN).map V.bl := by rw [List.length_map, List.take_length, List.map_map] <;> rfl
            refine ⟨D, r.map isN, rfl, sl_of (by rw [← ed]; exact e1), _, rfl, g3.trans (((Gr.rfl' _)).trans g1), ?_⟩
            rw [show ((r.map isN).all id) = r.all isN from by rw [List.all_map] <;> rfl, decide_eq_true hr12, Bool.true_and]
            cases r.all isN with
            | false => exact .inl ⟨rfl, .inr rfl⟩
            | true => exact .inr ⟨rfl, n, rfl, rfl⟩
    · obtain ⟨g3, ⟨rfl, hb⟩ | ⟨rfl, n, rfl, hb⟩⟩ := hb
      · refine iteT rfl ?_
        refine q .non H3 (g02.trans g3) ?_
        cases o with
        | none => rfl
        | some n =>
          rcases hb with hb | hb
          · cases hb
          · rw [hb] <;> rfl
      · refine iteF rfl ?_
        have q' := fun v H' g h => q v H' g (by simpa only [hb, if_true] using (h : OptT K H' (some (moOf r, n)) v))
        clear q
        have e3 := g3 _ _ e2
        have g03 := g02.trans g3
        refine ⟨by show 0 ≤ sizeLine; omega, fun p4 H4 hp4 g4 t4 => ?_⟩
        refine ⟨_, rfl, _, rfl, ?_⟩
        unfold tNoPart
        refine slice_from (k := 1) rfl (g4 _ _ e3) fun p5 H5 hp5 g5 e5 => ?_
        refine ⟨p5, rfl, ⟨_, sl_of e5⟩, for_list (xs := r.map V.str) (K := K) (fun i σ Hh => Gr H5 Hh ∧ ∃ c z1, σ = [some (.str z), some (.ref p1), some (.int n), z1, some (.ref c)] ∧ MonoAt K Hh c (moOf (r.take i))) ⟨Gr.rfl' _, p4, none, rfl, ⟨[], t4.gr g5, .nil⟩⟩ (fun i σ Hh _ pv => sl_of (pv.1 _ _ e5)) (fun i x σ Hh hx pv => ?_) (fun σ Hh pv => ?_)⟩
        · obtain ⟨gh, c, z1, rfl, mc⟩ := pv
          obtain ⟨u, hu, rfl⟩ := at_map hx
          refine ⟨_, rfl, _, rfl, by show 2 ≤ sizeLine; decide, fun t1 ht1 => ⟨by show 1 ≤ sizeLine; decide, fun t2 ht2 => ?_⟩⟩
          have ga := Gr.new (H := Hh) (o := .tup [.str u, .int 1]) ht1
          have gb := Gr.new (o := .tup [.ref t1]) ht2
          have hr12 : r.length ≤ 12 := by
            rw [Bool.and_eq_true] at hb
            exact of_decide_eq_true hb.1
          refine ⟨c, t2, t1, _, u, rfl, (mc.gr ga).gr gb, (moOf_ok _).1, ?_, st_of upd_same, gb.st (st_of upd_same), fun l H6 hl g6 ml => ?_⟩
          · have := moOf_len (r.take i)
            rw [List.length_take] at this
            omega
          · refine ⟨gh.trans ((ga.trans gb).trans g6), l, _, rfl, ?_⟩
            rw [take_snoc hu, moOf_snoc]
            exact ml
        · obtain ⟨gh, c, z1, rfl, mc⟩ := pv
          rw [List.length_map, List.take_length] at mc
          refine ⟨_, rfl, _, rfl, by show 2 ≤ sizeLine; decide, fun t ht => ?_⟩
          have g := Gr.new (o := .tup [.ref c, .int n]) ht
          refine q' _ _ ((g03.trans (g4.trans g5)).trans (gh.trans g)) (.tup (st_of upd_same) (.cons (Dp.gr g _ _ mc.dp) (.cons (.int n) .nil)))
end
end K86
set_option Elab.async false
set_option linter.all false
set_option maxRecDepth 100000
set_option maxHeartbeats 4000000
/-! terms of polys, read by the law -/
namespace K86
open PySem PySem.Spec PyProof.Rows L2
/-- list.count(text), in a comprehension: the kind named apart -/
theorem mt_lcountK {X : Cx} {K : PySem.W.Frag} (hK : X.K = K) : MtR X "list.count" (fun x xs H Q => ∃ (p : Addr) (ys : List Str) (k : Str), x = .ref p ∧ xs = [.str k] ∧ SqL K H p (ys.map V.str) ∧ Q (.int (ys.count k : Nat)) H) := by
  subst hK
  exact mt_lcountS
theorem pe_bmK {X : Cx} {K : PySem.W.Frag} {o e : Expr} {es : List Expr} {to : TE} {t : TA} {name : Str} {apos cpos : Pos} {T id : String} {r : V → List V → Hp → VK → Prop} (hK : X.K = K) (pa : PlainAttrs T) (slot : Slot T name id) (hty : typeOf (.builtin id) = pure (.type "method_descriptor")) (hm : MtR X id r) (ho : PE X o to) (ha : PA X (e :: es) t)
    (hbase : attributeBase o name X.env (eval o X.env) = eval o X.env := by rfl)
    (hfew : ((backTo cpos (starEach (e :: es) X.env)).all (fun x => !x.1) && (backToKw cpos (keywordEach [] X.env)).all (fun x => x.1.isSome)
      && decide ((e :: es).length + ([] : List Keyword).length + (if ([] : List Keyword).isEmpty then 0 else 1) < 30)) = true := by rfl)
    (hline : (apos.endLine == cpos.line) = true := by rfl) (hs : starEach (e :: es) X.env = (false, eval e X.env) :: starEach es X.env := by rfl) (hplain : (backTo cpos (starEach es X.env)).any (·.1) = false := by rfl) :
    PE X (.Call (.Attribute o name apos) (e :: es) [] cpos) (tBM K T r to t) := by
  subst hK
  exact pe_bm pa slot hty hm ho ha hbase hfew hline hs hplain
def moT (ps : List Str) : Option Mo := if (decide (ps.length ≤ 12) && ps.all isN) = true then some (moOf ps) else none
section
variable {P : Program} {w : World} {K : PySem.W.Frag} {mg : Str → Option Value} {base : Heap}
def OptM (K : PySem.W.Frag) (H : Hp) : Option Mo → V → Prop
  | none, v => v = .non
  | some x, v => Dp K H v (monoD x)
def sp_law_mono_of (K : PySem.W.Frag) : Sp := fun vs H Q _ => ∃ (a : Addr) (ps : List Str), vs = [.ref a] ∧ H a = some (.lst (ps.map V.str)) ∧ (∀ y ∈ ps, asc y ∧ y.length ≤ sizeLine) ∧ ps.length ≤ sizeLine ∧
  ∀ v H', Gr H H' → OptM K H' (moT ps) v → Q v H'
theorem sc_law_mono_of : FnScope ["_law_parts", "_law_box", "_law_part"] ["_law_parts"] (defScope s_law_mono_of) := ⟨rfl, rfl, rfl, by decide +kernel, rfl, by decide +kernel, by decide +kernel⟩
theorem ok_law_mono_of (T : Tx K mg) (F_law_is_name : Fn P w K mg base CX0 1 "_law_is_name" ["_law_word"] (sp_wordB nameL)) : Fn P w K mg base CX0 2 "_law_mono_of" ["_law_parts"] (sp_law_mono_of K) := by
  refine Fn.of T.f_law_mono_of sc_law_mono_of (fun _ _ _ _ _ _ us hl => match us, hl with | [_], _ => rfl) (fun vs H Q E h => ?_) (fun f cdv A outer s H vs Q E hr h => ⟨_, PSs.nox (pss_cons (ps_if (pt_cut (PW.pt (pw_or (pt_cmpR op_gt (pe_callB call_len_seq (by rfl) T.b_len (by decide +kernel) (pa_cons (pv 0) pa_nil)) pe_int (nomark _)) (pw_or1 (pt_cmpR (op_neD hr.units) (pe_lc (own := [("_law_part", 2)]) (g := (gName 2)) (tt := _) (by rfl) sc_law_mono_of.nd (pi_list (pv 0)) (blkOk_by (own := [("_law_part", 2)]) (N := ["_law_parts", "_law_box", "_law_part"]) (sc := defScope s_law_mono_of) (by decide +kernel)) (fun _ _ _ _ _ => (pg_name (i := 2) sc_law_mono_of.nd rfl (Or.inl rfl))) (fun _ _ _ _ _ => (pts_one (pt_not (pt_val (pe_fn F_law_is_name (hr.mono (by omega)) (pa_cons (pv 2) pa_nil)))))) (fun _ _ _ _ _ => (pv 2))) (pe_lst pa_nil) (nomark _)))))) (pss_one (ps_ret pe_non)) pss_nil)
  (pss_one (ps_ret (pe_callTy call_tuple_of (by rfl) T.b_tuple (by decide +kernel) (pa_cons (pe_lc (own := [("_law_box", 1)]) (g := (gName 1)) (tt := tYes) (by rfl) sc_law_mono_of.nd (pi_list (pe_sortSet rfl hr.units (pv 0) T.b_sorted T.b_set)) (blkOk_by (own := [("_law_box", 1)]) (N := ["_law_parts", "_law_box", "_law_part"]) (sc := defScope s_law_mono_of) (by decide +kernel)) (fun _ _ _ _ _ => (pg_name (i := 1) sc_law_mono_of.nd rfl (Or.inl rfl))) (fun _ _ _ _ _ => pts_nil) (fun _ _ _ _ _ => (pe_tup (pa_cons (pv 1) (pa_cons (pe_bmK (K := K) rfl PySem.F.plainAttrs_list PySem.F.slot_list_count PySem.F.type_list_count (mt_lcountK (K := K) rfl) (pv 0) (pa_cons (pv 1) pa_nil)) pa_nil))))) pa_nil))))), ?_⟩)
  · obtain ⟨a, ps, rfl, _⟩ := h
    rfl
  · obtain ⟨a, ps, rfl, ha, hp, hl, q⟩ := h
    refine ⟨fun b H' => Gr H H' ∧ b = !(decide (ps.length ≤ 12) && ps.all isN), ?_, fun b H1 hb => ?_⟩
    · refine ⟨_, rfl, a, _, rfl, .inl (sl_of ha), _, _, rfl, rfl, _, rfl, ?_⟩
      rw [List.length_map]
      refine ite2 (fun c => ?_) (fun c => ?_)
      · have c' := dT c
        refine ⟨Gr.rfl' _, ?_⟩
        rw [decide_eq_false (by omega), Bool.false_and] <;> rfl
      · have c' := dF c
        have h12 : ps.length ≤ 12 := by omega
        refine ⟨_, rfl, a, rfl, ⟨_, sl_of ha⟩, fun D hD => lc_gr walk_list hD (fun i => ((ps.take i).filter fun y => !isN y).map V.str) rfl (fun i hi => ?_) (fun H g => sl_of (g _ _ ha)) (fun i x H1 H2 hi g1 y C C0 h1 h2 => ?_) (fun H1 g1 e1 => ?_)⟩
        · rw [List.length_map]
          refine Nat.lt_of_le_of_lt (List.length_filter_le _ _) ?_
          rw [List.length_take]
          exact Nat.lt_of_le_of_lt (Nat.le_trans (Nat.min_le_right _ _) h12) (by decide)
        · obtain ⟨rfl, hx⟩ := y
          obtain ⟨u, hu, rfl⟩ := at_map hx
          have hm := hp u (List.mem_of_getElem? hu)
          refine ⟨rfl, _, rfl, u, rfl, hm.2, hm.1, fun H3 g3 => ⟨_, rfl, ?_⟩⟩
          show if (!isN u) = true then _ else _
          refine ite2 (fun c3 => ?_) (fun c3 => ?_)
          · refine ⟨_, rfl, h1 _ _ g3 ?_⟩
            show ((ps.take (i + 1)).filter fun y => !isN y).map V.str = _
            rw [take_snoc hu, List.filter_append, List.map_append, List.filter_cons_of_pos (by simpa using c3)] <;> rfl
          · refine h2 _ g3 ?_
            show ((ps.take (i + 1)).filter fun y => !isN y).map V.str = _
            rw [take_snoc hu, List.filter_append, List.map_append, List.filter_cons_of_neg (by simpa using c3)]
            simp
        · rw [List.length_map, List.take_length] at e1
          refine ⟨by show 0 ≤ sizeLine; omega, fun p hp' => ?_⟩
          refine ⟨_, _, .lst (sl_of (by rw [upd_ne (ne_of_none e1 hp')]; exact e1)) (DpAll.strs _), .lst (sl_of upd_same) .nil, shaped_strs fun y hy => (hp y (List.mem_filter.mp hy).1).1, shaped_nil, ?_⟩
          rw [eqv_nil]
          refine ⟨_, rfl, g1.more hp', ?_⟩
          rw [decide_eq_true h12, Bool.true_and]
          congr 1
          have key : ∀ l : List Str, decide ((l.filter fun y => !isN y).map PyData.str = []) = l.all isN := fun l => by
            induction l with
            | nil => rfl
            | cons x l ih =>
              rw [List.all_cons]
              cases h : isN x with
              | true => rw [List.filter_cons_of_neg (by simp [h]), ih] <;> rfl
              | false => rw [List.filter_cons_of_pos (by simp [h])] <;> rfl
          exact key ps
    · obtain ⟨g1, hb⟩ := hb
      refine ite2 (fun c => ?_) (fun c => ?_)
      · refine q .non H1 g1 ?_
        unfold moT
        have : (decide (ps.length ≤ 12) && ps.all isN) = false := by
          rw [hb] at c
          cases h : (decide (ps.length ≤ 12) && ps.all isN) with
          | true => rw [h] at c; cases c
          | false => rfl
        rw [this] <;> rfl
      · have c' : (decide (ps.length ≤ 12) && ps.all isN) = true := by
          rw [hb] at c
          cases h : (decide (ps.length ≤ 12) && ps.all isN) with
          | true => rfl
          | false => rw [h] at c; cases c
        have h12 : ps.length ≤ 12 := of_decide_eq_true (by rw [Bool.and_eq_true] at c'; exact c'.1)
        have q' : ∀ v H', Gr H H' → Dp K H' v (monoD (moOf ps)) → Q v H' := fun v H' g h => q v H' g (by unfold moT; rw [c', if_pos rfl]; exact h)
        have a1 := g1 _ _ ha
        refine ⟨_, rfl, a, ps, rfl, sl_of a1, Nat.lt_of_le_of_lt h12 (by decide), fun p H2 ds hp2 g2 e2 hd => ?_⟩
        have a2 := g2 _ _ a1
        have ld : ds.length ≤ 12 := by
          have e := count_of hd
          have := congrArg List.length e
          rw [List.length_map] at this
          have := moOf_len ps
          omega
        refine ⟨p, rfl, ⟨_, sl_of e2⟩, fun D hD => lc_dt walk_list (K := K) hD (fun i => (ds.take i).map fun y => pairD (y, ((ps.count y : Nat) : Int))) rfl (fun i hi => ?_) (fun i hi => ?_) (fun H g => sl_of (g _ _ e2)) (fun i x H3 H4 hi g3 y C C0 h1 h2 => ?_) (fun H3 ys g3 e3 d3 => ?_)⟩
        · rw [List.length_map, List.length_take]
          exact Nat.lt_of_le_of_lt (Nat.le_trans (Nat.min_le_right _ _) ld) (by decide)
        · refine nlAll_of _ fun d hd => ?_
          obtain ⟨y, _, rfl⟩ := List.mem_map.mp hd
          exact nl_pair _
        · obtain ⟨rfl, hx⟩ := y
          obtain ⟨u, hu, rfl⟩ := at_map hx
          have a3 := g3 _ _ a2
          refine ⟨rfl, _, rfl, _, rfl, .inl ⟨rfl, _, sl_of a3⟩, _, rfl, a, ps, u, rfl, rfl, sl_of a3, by show 2 ≤ sizeLine; decide, fun t ht => h1 _ _ _ (Gr.new ht) (take_map_snoc (fun y => pairD (y, ((ps.count y : Nat) : Int))) hu) (.tup (st_of upd_same) (.cons (.str _) (.cons (.int _) .nil)))⟩
        · rw [List.length_map, List.take_length] at d3
          refine ⟨D, ys, rfl, .inl ⟨sl_of e3, fun l hl2 => ?_⟩⟩
          have g4 := Gr.new (o := .tup ys) hl2
          refine q' _ _ (((g1.trans g2).trans g3).trans g4) ?_
          rw [← count_of hd]
          refine .tup (st_of upd_same) (DpAll.gr g4 _ _ ?_)
          rw [List.map_map]
          exact d3
end
end K86
set_option Elab.async false
set_option linter.all false
set_option maxRecDepth 100000
set_option maxHeartbeats 4000000
/-! a poly's term, read by the law -/
namespace K86
open PySem PySem.Spec PyProof.Rows L2
section
variable {P : Program} {w : World} {K : PySem.W.Frag} {mg : Str → Option Value} {base : Heap}
def OptL (K : PySem.W.Frag) (H : Hp) : Option (Mo × Int) → V → Prop
  | none, v => v = .non
  | some x, v => Dp K H v (lermD x)
def sp_law_poly_term (K : PySem.W.Frag) : Sp := fun vs H Q _ => ∃ z : Str, vs = [.str z] ∧ asc z ∧ z.length + 2 ≤ sizeLine ∧ ∀ v H', Gr H H' → OptL K H' (termT z) v → Q v H'
theorem sc_law_poly_term : FnScope ["_law_word", "_law_parts", "_law_mono_here"] ["_law_word"] (defScope s_law_poly_term) := ⟨rfl, rfl, rfl, by decide +kernel, rfl, by decide +kernel, by decide +kernel⟩
theorem ok_law_poly_term (T : Tx K mg) (F_law_mono_of : Fn P w K mg base CX0 2 "_law_mono_of" ["_law_parts"] (sp_law_mono_of K)) (F_law_is_number : Fn P w K mg base CX0 2 "_law_is_number" ["_law_word"] (sp_wordB numL)) : Fn P w K mg base CX0 3 "_law_poly_term" ["_law_word"] (sp_law_poly_term K) := by
  refine Fn.of T.f_law_poly_term sc_law_poly_term (fun _ _ _ _ _ _ us hl => match us, hl with | [_], _ => rfl) (fun vs H Q E h => ?_) (fun f cdv A outer s H vs Q E hr h => ⟨_, PSs.nox (pss_cons (ps_set (i := 1) sc_law_poly_term.nd rfl (Or.inl rfl) (pe_split (pv 0) pe_str))
  (pss_cons (ps_set (i := 2) sc_law_poly_term.nd rfl (Or.inl rfl) (pe_fn F_law_mono_of (hr.mono (by omega)) (pa_cons (pe_slice sl_list (pv 1) (po_some pe_int) po_none) pa_nil)))
  (pss_one (ps_ret (pe_cut (pe_ifExp (pt_cut (PW.pt (pw_or (pt_cmpR op_isN (pv 2) pe_non (nomark _)) (pw_or1 (pt_not (pt_val (pe_fn F_law_is_number (hr.mono (by omega)) (pa_cons (pe_ix ix_list (pv 1) pe_int (fun _ _ => rfl)) pa_nil)))))))) pe_non (pe_tup (pa_cons (pv 2) (pa_cons (pe_tup (pa_cons (pe_callTy call_int_str (by rfl) T.b_int (by decide +kernel) (pa_cons (pe_ix ix_list (pv 1) pe_int (fun _ _ => rfl)) pa_nil)) (pa_cons pe_int pa_nil))) pa_nil))))))))), ?_⟩)
  · obtain ⟨z, rfl, _⟩ := h
    rfl
  · obtain ⟨z, rfl, hasc, hz, q⟩ := h
    have e42 : Txt.split z "*" = spl 42 z := rfl
    obtain ⟨a, r, es⟩ := spl_cons (c := 42) (by decide) z
    have la : a.length ≤ z.length := spl_le (c := 42) (by decide) (by rw [es]; exact List.mem_cons_self)
    have aa : asc a := spl_asc (c := 42) (by decide) hasc (by rw [es]; exact List.mem_cons_self)
    have lr : ∀ y ∈ r, asc y ∧ y.length ≤ sizeLine := fun y hy => ⟨spl_asc (c := 42) (by decide) hasc (by rw [es]; exact List.mem_cons_of_mem _ hy), by
      have := spl_le (c := 42) (by decide) (by rw [es]; exact List.mem_cons_of_mem _ hy : y ∈ spl 42 z)
      omega⟩
    have ln := spl_few (c := 42) (by decide) z
    rw [es, List.length_cons] at ln
    have eT : termT z = match numOf (tl a), moT r with
      | some n, some m => some (m, n)
      | _, _ => none := by
      unfold termT moT
      rw [es]
      simp only
      cases numOf (tl a) with
      | none => rfl
      | some n =>
        cases h : (decide (r.length ≤ 12) && r.all isN) <;> rfl
    rw [eT] at q
    clear eT
    refine ⟨_, rfl, ⟨z, rfl⟩, z, _, rfl, rfl, rfl, hz, fun p1 hp1 => ?_⟩
    rw [e42, es]
    refine ⟨_, rfl, _, rfl, ?_⟩
    unfold tNoPart
    refine slice_from (k := 1) rfl upd_same fun p3 H3 hp3 g3 e3 => ?_
    refine ⟨p3, r, rfl, e3, lr, by omega, fun v H4 g4 o4 => ?_⟩
    have e1 : H4 p1 = some (.lst ((a :: r).map V.str)) := g4 _ _ (g3 _ _ upd_same)
    have g04 : Gr H H4 := ((Gr.new hp1).trans g3).trans g4
    generalize moT r = m at q o4
    refine ⟨Q, ?_, fun _ _ h => h⟩
    refine ⟨fun b H' => Gr H4 H' ∧ b = !(m.isSome && numL (tl a)) , ?_, fun b H' hb => ?_⟩
    · refine ⟨_, rfl, rfl, _, rfl, ?_⟩
      cases m with
      | none =>
        cases o4
        exact iteT rfl ⟨Gr.rfl' _, rfl⟩
      | some m =>
        have vn : decide (v = V.non) = false := by
          obtain ⟨b, vs', rfl, _⟩ := dp_tuple o4
          rfl
        exact iteF vn ⟨_, rfl, p1, _, 0, _, rfl, rfl, sl_of e1, at0, a, rfl, by omega, aa, fun H5 g5 => ⟨_, rfl, g5, rfl⟩⟩
    · obtain ⟨g5, rfl⟩ := hb
      have e1' := g5 _ _ e1
      refine ite2 (fun c => ?_) (fun c => ?_)
      · refine q .non H' (g04.trans g5) ?_
        unfold numOf
        cases h1 : numL (tl a) with
        | false => cases m <;> rfl
        | true =>
          rw [h1] at c
          cases m with
          | none => rfl
          | some m => cases c
      · cases m with
        | none => cases c
        | some m =>
          have hn : numL (tl a) = true := by
            cases h : numL (tl a) with
            | true => rfl
            | false => rw [h] at c; cases c
          have en : numOf (tl a) = some (valL (tl a)) := by
            unfold numOf
            rw [if_pos hn]
          rw [en] at q
          obtain ⟨t1, t2⟩ := val_text hn
          refine ⟨_, rfl, _, rfl, p1, _, 0, _, rfl, rfl, sl_of e1', at0, a, _, rfl, t1, t2, by show 2 ≤ sizeLine; decide, fun t3 ht3 => ⟨by show 2 ≤ sizeLine; decide, fun t4 ht4 => ?_⟩⟩
          have ga := Gr.new (o := .tup [.int (valL (tl a)), .int 1]) ht3
          have gb := Gr.new (o := .tup [v, .ref t3]) ht4
          exact q _ _ ((g04.trans g5).trans (ga.trans gb)) (.tup (st_of upd_same) (.cons (Dp.gr (g5.trans (ga.trans gb)) _ _ o4) (.cons (.tup (gb.st (st_of upd_same)) (.cons (.int _) (.cons (.int _) .nil))) .nil)))
end
end K86
set_option Elab.async false
set_option linter.all false
set_option maxRecDepth 100000
set_option maxHeartbeats 4000000
/-! terms of forms: plain -/
namespace K86
open PySem PySem.Spec PyProof.Rows L2
theorem dv_lt : ∀ (l : List Nat) (acc : Nat), NumText.AllDigits l → l.foldl (fun acc c => acc * 10 + (c - 48)) acc < (acc + 1) * 10 ^ l.length
  | [], acc, _ => by simp
  | c :: l, acc, h => by
    have h1 := dv_lt l (acc * 10 + (c - 48)) (fun d hd => h d (List.mem_cons_of_mem _ hd))
    have h2 := h c List.mem_cons_self
    rw [List.foldl_cons, List.length_cons, Nat.pow_succ]
    refine Nat.lt_of_lt_of_le h1 ?_
    have h3 : acc * 10 + (c - 48) + 1 ≤ (acc + 1) * 10 := by omega
    calc (acc * 10 + (c - 48) + 1) * 10 ^ l.length ≤ ((acc + 1) * 10) * 10 ^ l.length := Nat.mul_le_mul_right _ h3
      _ = (acc + 1) * (10 ^ l.length * 10) := by rw [Nat.mul_assoc, Nat.mul_comm 10]
theorem dv_ge : ∀ (l : List Nat) (acc : Nat), acc * 10 ^ l.length ≤ l.foldl (fun acc c => acc * 10 + (c - 48)) acc
  | [], acc => by simp
  | c :: l, acc => by
    have h1 := dv_ge l (acc * 10 + (c - 48))
    rw [List.foldl_cons, List.length_cons, Nat.pow_succ]
    refine Nat.le_trans ?_ h1
    calc acc * (10 ^ l.length * 10) = (acc * 10) * 10 ^ l.length := by rw [Nat.mul_assoc, Nat.mul_comm 10]
      _ ≤ (acc * 10 + (c - 48)) * 10 ^ l.length := Nat.mul_le_mul_right _ (Nat.le_add_right _ _)
theorem dv_b (l : List Nat) (h : NumText.AllDigits l) : NumText.digitsVal l < 10 ^ l.length := by
  have := dv_lt l 0 h
  rw [Nat.zero_add, Nat.one_mul] at this
  exact this
theorem figL_all {l : List Nat} (q : figL l = true) : 1 ≤ l.length ∧ l.length ≤ 40 ∧ NumText.AllDigits l ∧ (l.length = 1 ∨ l.head? ≠ some 48) := by
  unfold figL figs at q
  simp only [Bool.and_eq_true, decide_eq_true_eq, List.all_eq_true, Bool.or_eq_true, Bool.not_eq_true', decide_eq_false_iff_not] at q
  refine ⟨q.1.1.1, q.1.1.2, fun c hc => ?_, q.2⟩
  have := q.1.2 c hc
  unfold figC at this
  simpa using this
theorem fig_no45 {l : List Nat} (h : figL l = true) : l.head? ≠ some 45 := fun q => by
  obtain ⟨r, e⟩ := head_eq.mp q
  have := (figL_all h).2.2.1 45 (by rw [e]; exact List.mem_cons_self)
  omega
theorem num_lt {l : List Nat} (h : numL l = true) : (valL l).natAbs < 10 ^ 40 := by
  unfold numL at h
  rcases Bool.or_eq_true_iff.mp h with h | h
  · obtain ⟨a, b, d, _⟩ := figL_all h
    unfold valL
    rw [if_neg (fig_no45 h)]
    have := dv_b l d
    exact Nat.lt_of_lt_of_le this (Nat.pow_le_pow_right (by decide) b)
  · simp only [Bool.and_eq_true, decide_eq_true_eq] at h
    obtain ⟨a, b, d, _⟩ := figL_all h.1.2
    unfold valL
    rw [if_pos h.1.1, Int.natAbs_neg]
    have := dv_b _ d
    exact Nat.lt_of_lt_of_le this (Nat.pow_le_pow_right (by decide) b)
theorem numOf_lt {l : List Nat} {n : Int} (h : numOf l = some n) : n.natAbs < 10 ^ 40 := by
  unfold numOf at h
  split at h
  · rename_i q
    cases h
    exact num_lt q
  · cases h
theorem fig_num {l : List Nat} (h : figL l = true) : numOf l = some (valL l) ∧ valL l = ((NumText.digitsVal l : Nat) : Int) := by
  unfold numOf numL valL
  rw [h, if_neg (fig_no45 h)] <;> exact ⟨rfl, rfl⟩
theorem dv_pos {l : List Nat} (h : figL l = true) (h0 : l ≠ [48]) : 10 ^ (l.length - 1) ≤ NumText.digitsVal l := by
  obtain ⟨a, b, d, hd⟩ := figL_all h
  cases l with
  | nil => simp at a
  | cons c r =>
    have hc := d c List.mem_cons_self
    have c48 : c ≠ 48 := fun e => by
      subst e
      rcases hd with hd | hd
      · cases r with
        | nil => exact h0 rfl
        | cons x y => simp at hd
      · exact hd rfl
    have := dv_ge r (0 * 10 + (c - 48))
    unfold NumText.digitsVal
    rw [List.foldl_cons, List.length_cons, Nat.add_sub_cancel]
    refine Nat.le_trans ?_ this
    exact Nat.le_mul_of_pos_left _ (by omega)
/-- a number from 1 on -/
theorem num_pos (l : List Nat) : (∃ n, numOf l = some n ∧ 0 < n) ↔ (figL l = true ∧ l ≠ [48]) := by
  constructor
  · rintro ⟨n, h, hn⟩
    unfold numOf at h
    split at h
    · rename_i q
      cases h
      unfold numL at q
      rcases Bool.or_eq_true_iff.mp q with q | q
      · refine ⟨q, fun e => ?_⟩
        subst e
        revert hn
        decide
      · simp only [Bool.and_eq_true, decide_eq_true_eq] at q
        unfold valL at hn
        rw [if_pos q.1.1] at hn
        omega
    · cases h
  · rintro ⟨h, h0⟩
    obtain ⟨e1, e2⟩ := fig_num h
    refine ⟨_, e1, ?_⟩
    rw [e2]
    have := dv_pos h h0
    have : 0 < 10 ^ (l.length - 1) := Nat.pow_pos (by decide)
    omega
/-- a number from 0 to 99 -/
theorem num_place (l : List Nat) : (∃ n, numOf l = some n ∧ 0 ≤ n ∧ n ≤ 99) ↔ (figL l = true ∧ l.length ≤ 2) := by
  constructor
  · rintro ⟨n, h, hn, h9⟩
    unfold numOf at h
    split at h
    · rename_i q
      cases h
      unfold numL at q
      rcases Bool.or_eq_true_iff.mp q with q | q
      · refine ⟨q, ?_⟩
        rw [(fig_num q).2] at h9
        by_cases h0 : l = [48]
        · rw [h0] <;> decide
        · have := dv_pos q h0
          refine Nat.le_of_not_lt fun h3 => ?_
          have : 10 ^ 2 ≤ 10 ^ (l.length - 1) := Nat.pow_le_pow_right (by decide) (by omega)
          omega
      · simp only [Bool.and_eq_true, decide_eq_true_eq, Bool.not_eq_true', decide_eq_false_iff_not] at q
        have n0 : l.drop 1 ≠ [48] := fun e => by
          obtain ⟨r, e2⟩ := head_eq.mp q.1.1
          rw [e2] at e
          have e' : r = [48] := e
          exact q.2 (by rw [e2, e'])
        have := dv_pos q.1.2 n0
        have : 0 < 10 ^ ((l.drop 1).length - 1) := Nat.pow_pos (by decide)
        unfold valL at hn
        rw [if_pos q.1.1] at hn
        omega
    · cases h
  · rintro ⟨h, h2⟩
    obtain ⟨e1, e2⟩ := fig_num h
    refine ⟨_, e1, ?_⟩
    rw [e2]
    have := dv_b l (figL_all h).2.2.1
    have : 10 ^ l.length ≤ 10 ^ 2 := Nat.pow_le_pow_right (by decide) h2
    omega
/-! ### fractions in lowest terms -/
theorem fr_val {a b : Int} (hb : 0 < b) : ∃ g : Int, 0 < g ∧ a = g * (fr a b).1 ∧ b = g * (fr a b).2 ∧ 0 < (fr a b).2 ∧ Nat.Coprime (fr a b).1.natAbs (fr a b).2.natAbs := by
  have g1 : 0 < Int.gcd a b := gcd_pos hb
  have ha : a = ((Int.gcd a b : Nat) : Int) * (a / (Int.gcd a b : Nat)) := (Int.mul_ediv_cancel' (Int.gcd_dvd_left ..)).symm
  have hb2 : b = ((Int.gcd a b : Nat) : Int) * (b / (Int.gcd a b : Nat)) := (Int.mul_ediv_cancel' (Int.gcd_dvd_right ..)).symm
  have hg : (0 : Int) < ((Int.gcd a b : Nat) : Int) := by omega
  refine ⟨_, hg, ha, hb2, ?_, ?_⟩
  · exact Int.ediv_pos_of_pos_of_dvd hb (by omega) (Int.gcd_dvd_right ..)
  · show Nat.gcd (a / (Int.gcd a b : Nat)).natAbs (b / (Int.gcd a b : Nat)).natAbs = 1
    exact Int.gcd_ediv_gcd_ediv_gcd g1
theorem fr_same {a b c d : Int} (hb : 0 < b) (hd : 0 < d) (h : a * d = c * b) : fr a b = fr c d := by
  obtain ⟨g, hg, ea, eb, p1, c1⟩ := fr_val (a := a) hb
  obtain ⟨k, hk, ec, ed, p2, c2⟩ := fr_val (a := c) hd
  generalize fr a b = x at ea eb p1 c1
  generalize fr c d = y at ec ed p2 c2
  have e : x.1 * y.2 = y.1 * x.2 := by
    have h2 : (g * k) * (x.1 * y.2) = (g * k) * (y.1 * x.2) := by
      rw [ea, ed, ec, eb] at h
      have e1 : g * x.1 * (k * y.2) = (g * k) * (x.1 * y.2) := by ac_rfl
      have e2 : k * y.1 * (g * x.2) = (g * k) * (y.1 * x.2) := by ac_rfl
      rw [← e1, ← e2]
      exact h
    exact Int.eq_of_mul_eq_mul_left (by have := Int.mul_pos hg hk; omega) h2
  have en : x.1.natAbs * y.2.natAbs = y.1.natAbs * x.2.natAbs := by rw [← Int.natAbs_mul, ← Int.natAbs_mul, e]
  have d1 : x.2.natAbs ∣ y.2.natAbs := Nat.Coprime.dvd_of_dvd_mul_left c1.symm (by rw [en]; exact Nat.dvd_mul_left ..)
  have d2 : y.2.natAbs ∣ x.2.natAbs := Nat.Coprime.dvd_of_dvd_mul_left c2.symm (by rw [← en]; exact Nat.dvd_mul_left ..)
  have e2 : x.2 = y.2 := by
    have := Nat.dvd_antisymm d1 d2
    omega
  rw [e2] at e
  exact Prod.ext (Int.eq_of_mul_eq_mul_right (by omega) e) e2
theorem addF_fr (x : Int × Int) {c d : Int} (hx : 0 < x.2) (hd : 0 < d) : addF x (fr c d) = addF x (c, d) := by
  obtain ⟨k, hk, ec, ed, p2, _⟩ := fr_val (a := c) hd
  generalize fr c d = y at ec ed p2
  unfold addF
  refine fr_same (Int.mul_pos hx p2) (Int.mul_pos hx hd) ?_
  show (x.1 * y.2 + y.1 * x.2) * (x.2 * d) = (x.1 * d + c * x.2) * (x.2 * y.2)
  rw [ec, ed, Int.add_mul, Int.add_mul]
  congr 1 <;> ac_rfl
theorem fr_pos {a b : Int} (hb : 0 < b) : 0 < (fr a b).2 := by
  obtain ⟨_, _, _, _, h, _⟩ := fr_val (a := a) hb
  exact h
theorem fr_le {a b : Int} (hb : 0 < b) : (fr a b).1.natAbs ≤ a.natAbs ∧ (fr a b).2.natAbs ≤ b.natAbs := by
  obtain ⟨g, hg, ea, eb, _, _⟩ := fr_val (a := a) hb
  constructor
  · conv => rhs; rw [ea, Int.natAbs_mul]
    exact Nat.le_mul_of_pos_left _ (by omega)
  · conv => rhs; rw [eb, Int.natAbs_mul]
    exact Nat.le_mul_of_pos_left _ (by omega)
theorem fr_one (n : Int) : fr n 1 = (n, 1) := by
  unfold fr
  rw [Int.gcd_one]
  simp
/-! ### what a word tells as a form's term -/
def mkS (l : List Nat) : Str := ⟨l.toArray⟩
theorem tl_mk (l : List Nat) : tl (mkS l) = l := rfl
theorem mk_tl (z : Str) : mkS (tl z) = z := TL.ext_tl rfl
def shareU (l : List Nat) : Option (Int × Int) := match cut1 47 l with
  | [a] => (numOf a).map fun n => (n, 1)
  | [a, b] => match numOf a, numOf b with
    | some n, some m => if 0 < m then some (n, m) else none
    | _, _ => none
  | _ => none
def countU (l : List Nat) : Option (Int × Int) := if l.getLast? = some 93 then match cut1 44 l.dropLast with
    | [p, b] => match numOf p, numOf b with
      | some n, some m => if 0 ≤ n ∧ n ≤ 99 then some (n, m) else none
      | _, _ => none
    | _ => none
  else none
def pairOf (u v : Str) : Option (Kd × Int × Int) := match spl 42 u with
  | [] => none
  | a :: r => match shareU (tl a), countU (tl v), moT r with
    | some q, some c, some m => some ((m, c.1, c.2), q)
    | _, _, _ => none
/-- a form's term, its fraction as it stands -/
def pairU (z : Str) : Option (Kd × Int × Int) := match TL.par [91] [] (tl z) with
  | none => none
  | some (a, b) => pairOf (mkS a) (mkS b)
theorem shareU_ok {l : List Nat} {q : Int × Int} (h : shareU l = some q) : 0 < q.2 ∧ q.1.natAbs < 10 ^ 40 ∧ q.2.natAbs < 10 ^ 40 := by
  unfold shareU at h
  split at h
  · rename_i a _
    cases e : numOf a with
    | none => rw [e] at h; cases h
    | some n =>
      rw [e] at h
      cases h
      exact ⟨(by decide : (0 : Int) < 1), numOf_lt e, (by decide : (1 : Int).natAbs < 10 ^ 40)⟩
  · rename_i a b _
    cases e : numOf a with
    | none => rw [e] at h; cases h
    | some n =>
      cases e2 : numOf b with
      | none => rw [e, e2] at h; cases h
      | some m =>
        rw [e, e2] at h
        simp only at h
        split at h
        · rename_i hm
          cases h
          exact ⟨hm, numOf_lt e, numOf_lt e2⟩
        · cases h
  · cases h
end K86
set_option Elab.async false
set_option linter.all false
set_option maxRecDepth 100000
set_option maxHeartbeats 4000000
/-! terms of forms, read -/
namespace K86
open PySem PySem.Spec PyProof.Rows L2
theorem flat_opt (o : Option Int) : flatV (optI o) = true := by cases o <;> rfl
theorem in_opts : ∀ l : List (Option Int), inV .non (l.map optI) = l.any (·.isNone)
  | [] => rfl
  | o :: l => by
    have ih := in_opts l
    unfold inV at ih ⊢
    rw [List.map_cons, List.any_cons, List.any_cons, ih]
    cases o <;> rfl
theorem lt40 {n : Nat} (h : n < 10 ^ 40) : n < 2 ^ 9000 := Nat.lt_of_lt_of_le h (Nat.le_trans (by decide : 10 ^ 40 ≤ 2 ^ 133) (Nat.pow_le_pow_right (by decide) (by decide)))
section
variable {P : Program} {w : World} {K : PySem.W.Frag} {mg : Str → Option Value} {base : Heap}
def OptS (K : PySem.W.Frag) (H : Hp) : Option (Int × Int) → V → Prop
  | none, v => v = .non
  | some x, v => ∃ a, v = .ref a ∧ SqT K H a [.int x.1, .int x.2]
def sp_share_in (K : PySem.W.Frag) : Sp := fun vs H Q _ => ∃ z : Str, vs = [.str z] ∧ z.length + 2 ≤ sizeLine ∧ ∀ v H', Gr H H' → OptS K H' ((shareU (tl z)).map fun q => fr q.1 q.2) v → Q v H'
theorem sc_share_in : FnScope ["word", "parts", "numbers", "part"] ["word"] (defScope s_share_in) := ⟨rfl, rfl, rfl, by decide +kernel, rfl, by decide +kernel, by decide +kernel⟩
theorem ok_share_in (T : Tx K mg) (F_number_of : Fn P w K mg base CX0 1 "number_of" ["word"] sp_number_of) (F_fraction : Fn P w K mg base CX0 2 "fraction" ["above", "below"] sp_fraction) : Fn P w K mg base CX0 3 "share_in" ["word"] (sp_share_in K) := by
  refine Fn.of T.f_share_in sc_share_in (fun _ _ _ _ _ _ us hl => match us, hl with | [_], _ => rfl) (fun vs H Q E h => ?_) (fun f cdv A outer s H vs Q E hr h => ⟨_, PSs.nox (pss_cons (ps_set (i := 1) sc_share_in.nd rfl (Or.inl rfl) (pe_split (pv 0) pe_str))
  (pss_cons (ps_setLc (i := 2) (own := [("part", 3)]) (g := (gName 3)) (tt := tYes) (by rfl) sc_share_in.nd rfl rfl (sw_true rfl rfl rfl (by decide +kernel)) (pi_list (pv 1)) (blkOk_by (own := [("part", 3)]) (N := ["word", "parts", "numbers", "part"]) (sc := defScope s_share_in) (by decide +kernel)) (fun _ _ _ _ _ => (pg_name (i := 3) sc_share_in.nd rfl (Or.inl rfl))) (fun _ _ _ _ _ => pts_nil) (fun _ _ _ _ _ => (pe_fn F_number_of (hr.mono (by omega)) (pa_cons (pv 3) pa_nil))))
  (pss_cons (ps_if (pt_cut (PW.pt (pw_or (pt_cmpR op_gt (pe_callB call_len_seq (by rfl) T.b_len (by decide +kernel) (pa_cons (pv 1) pa_nil)) pe_int (nomark _)) (pw_or1 (pt_cmpR op_in_seq pe_non (pv 2) (by rfl)))))) (pss_one (ps_ret pe_non)) pss_nil)
  (pss_cons (ps_if (pt_cmpR op_eq (pe_callB call_len_seq (by rfl) T.b_len (by decide +kernel) (pa_cons (pv 1) pa_nil)) pe_int (nomark _)) (pss_one (ps_ret (pe_fn F_fraction (hr.mono (by omega)) (pa_cons (pe_ix ix_list (pv 2) pe_int (fun _ _ => rfl)) (pa_cons pe_int pa_nil))))) pss_nil)
  (pss_one (ps_ret (pe_cut (pe_ifExp (pt_cmpR op_gt (pe_ix ix_list (pv 2) pe_int (fun _ _ => rfl)) pe_int (nomark _)) (pe_fn F_fraction (hr.mono (by omega)) (pa_cons (pe_ix ix_list (pv 2) pe_int (fun _ _ => rfl)) (pa_cons (pe_ix ix_list (pv 2) pe_int (fun _ _ => rfl)) pa_nil))) pe_non)))))))), ?_⟩)
  · obtain ⟨z, rfl, _⟩ := h
    rfl
  · obtain ⟨z, rfl, hz, q⟩ := h
    have e47 : Txt.split z "/" = spl 47 z := rfl
    refine ⟨_, rfl, ⟨z, rfl⟩, z, _, rfl, rfl, rfl, hz, fun p1 hp1 => ?_⟩
    rw [e47]
    have hle : ∀ y ∈ spl 47 z, y.length ≤ z.length := fun y hy => spl_le (by decide) hy
    have ln := spl_few (c := 47) (by decide) z
    have et := spl_tl (c := 47) (by decide) z
    have hne := spl_ne (c := 47) (by decide) z
    generalize spl 47 z = ps at hle ln et hne
    have g1 : Gr H (upd H p1 (.lst (ps.map V.str))) := Gr.new hp1
    have e1 : (upd H p1 (.lst (ps.map V.str))) p1 = some (.lst (ps.map V.str)) := upd_same
    generalize upd H p1 (.lst (ps.map V.str)) = H1 at g1 e1
    refine ⟨_, rfl, p1, rfl, ⟨_, sl_of e1⟩, fun D hD => lc_gr walk_list hD (fun i => ((ps.take i).map fun y => numOf (tl y)).map optI) rfl (fun i hi => ?_) (fun H g => sl_of (g _ _ e1)) (fun i x H2 H3 hi g2 y C C0 h1 h2 => ?_) (fun H2 g2 e2 => ?_)⟩
    · rw [List.length_map] at hi
      rw [List.length_map, List.length_map, List.length_take]
      have : z.length + 2 ≤ sizeLine := hz
      omega
    · obtain ⟨rfl, hx⟩ := y
      obtain ⟨u, hu, rfl⟩ := at_map hx
      refine ⟨rfl, _, rfl, u, rfl, by have := hle u (List.mem_of_getElem? hu); omega, fun H' g => h1 _ _ g ?_⟩
      rw [List.map_map, List.map_map]
      exact take_map_snoc _ hu
    · rw [List.length_map, List.take_length] at e2
      have e12 := g2 _ _ e1
      have g02 := g1.trans g2
      clear hD e1 g2 g1
      have len2 : (2 < ps.length ∨ ((ps.map fun y => numOf (tl y)).any (·.isNone)) = true) → shareU (tl z) = none := fun h => by
        unfold shareU
        rw [← et]
        match ps, hne, h with
        | [a], _, h =>
          rcases h with h | h
          · simp at h
          · cases e : numOf (tl a) with
            | none => simp only [List.map_cons, List.map_nil, e, Option.map_none]
            | some n => simp [e] at h
        | [a, b], _, h =>
          rcases h with h | h
          · simp at h
          · cases e : numOf (tl a) with
            | none => simp only [List.map_cons, List.map_nil, e]
            | some n =>
              cases e2 : numOf (tl b) with
              | none => simp only [List.map_cons, List.map_nil, e, e2]
              | some m => simp [e, e2] at h
        | a :: b :: c :: d, _, _ => rfl
      refine ⟨fun b H' => H' = H2 ∧ b = (decide (2 < ps.length) || ((ps.map fun y => numOf (tl y)).any (·.isNone))), ?_, fun b H' hb => ?_⟩
      · refine ⟨_, rfl, p1, _, rfl, .inl (sl_of e12), _, _, rfl, rfl, _, rfl, ?_⟩
        rw [List.length_map]
        refine ite2 (fun c => ?_) (fun c => ?_)
        · have c' := dT c
          rw [decide_eq_true (p := 2 < ps.length) (by omega), Bool.true_or]
          exact ⟨rfl, rfl⟩
        · have c' := dF c
          rw [decide_eq_false (p := 2 < ps.length) (by omega), Bool.false_or]
          refine ⟨_, rfl, D, _, rfl, .inl (sl_of e2), rfl, ?_, _, rfl, ?_⟩
          · rw [List.all_eq_true]
            intro x hx
            obtain ⟨o, _, rfl⟩ := List.mem_map.mp hx
            exact flat_opt o
          · rw [in_opts]
            exact ⟨rfl, rfl⟩
      · obtain ⟨rfl, rfl⟩ := hb
        refine ite2 (fun c => ?_) (fun c => ?_)
        · rw [len2 (by rw [Bool.or_eq_true, decide_eq_true_eq] at c; exact c)] at q
          exact q .non _ g02 rfl
        · have sh : (∃ a n, ps = [a] ∧ numOf (tl a) = some n) ∨ ∃ a b n m, ps = [a, b] ∧ numOf (tl a) = some n ∧ numOf (tl b) = some m := by
            match ps, hne, c with
            | [a], _, c =>
              cases e : numOf (tl a) with
              | none => simp [e] at c
              | some n => exact .inl ⟨a, n, rfl, e⟩
            | [a, b], _, c =>
              cases e : numOf (tl a) with
              | none => simp [e] at c
              | some n =>
                cases e3 : numOf (tl b) with
                | none => simp [e3] at c
                | some m => exact .inr ⟨a, b, n, m, rfl, e, e3⟩
            | a :: b :: c :: d, _, h => simp at h
          clear len2 c hle
          rcases sh with ⟨a, n, rfl, en⟩ | ⟨a, b, n, m, rfl, en, em⟩
          · have es : shareU (tl z) = some (n, 1) := by
              unfold shareU
              rw [← et]
              simp only [List.map_cons, List.map_nil, en, Option.map_some]
            rw [es] at q
            have e2' : H' D = some (.lst [.int n]) := by
              rw [e2]
              simp only [List.map_cons, List.map_nil, en]
              rfl
            refine ⟨_, rfl, p1, _, rfl, .inl (sl_of e12), rfl, _, rfl, iteT rfl ?_⟩
            exact ⟨_, rfl, D, _, 0, _, rfl, rfl, sl_of e2', at0, n, 1, rfl, by decide, lt40 (by decide), fun p hp => q _ _ (g02.trans (Gr.new hp)) ⟨p, rfl, st_of upd_same⟩⟩
          · have e2' : H' D = some (.lst [.int n, .int m]) := by
              rw [e2]
              simp only [List.map_cons, List.map_nil, en, em]
              rfl
            have at1 : atI [V.int n, V.int m] 1 = some (.int m) := atI_nat (j := 1) rfl
            have es : shareU (tl z) = if 0 < m then some (n, m) else none := by
              unfold shareU
              rw [← et]
              simp only [List.map_cons, List.map_nil, en, em]
            rw [es] at q
            refine ⟨_, rfl, p1, _, rfl, .inl (sl_of e12), rfl, _, rfl, iteF rfl ?_⟩
            refine ⟨Q, ?_, fun _ _ h => h⟩
            refine ⟨_, rfl, D, _, 1, _, rfl, rfl, sl_of e2', at1, _, _, rfl, rfl, _, rfl, ?_⟩
            refine ite2 (fun c => ?_) (fun c => ?_)
            · have hm := dT c
              rw [if_pos hm] at q
              exact ⟨_, rfl, D, _, 0, _, rfl, rfl, sl_of e2', at0, _, rfl, D, _, 1, _, rfl, rfl, sl_of e2', at1, n, m, rfl, hm, lt40 (numOf_lt em), fun p hp => q _ _ (g02.trans (Gr.new hp)) ⟨p, rfl, st_of upd_same⟩⟩
            · rw [if_neg (dF c)] at q
              exact q .non _ g02 rfl
end
end K86
set_option Elab.async false
set_option linter.all false
set_option maxRecDepth 100000
set_option maxHeartbeats 4000000
/-! places and bases, read -/
namespace K86
open PySem PySem.Spec PyProof.Rows L2
section
variable {P : Program} {w : World} {K : PySem.W.Frag} {mg : Str → Option Value} {base : Heap}
def sp_count_in (K : PySem.W.Frag) : Sp := fun vs H Q _ => ∃ z : Str, vs = [.str z] ∧ z.length + 2 ≤ sizeLine ∧ ∀ v H', Gr H H' → OptS K H' (countU (tl z)) v → Q v H'
theorem last_cut (z : Str) : (cutS z (some (-1)) none = "]") ↔ (tl z).getLast? = some 93 := by
  have e93 : tl ("]" : Str) = [93] := by decide +kernel
  rw [str_eq, tl_last, e93, len_tl]
  cases h : (tl z).getLast? with
  | none =>
    have : tl z = [] := List.getLast?_eq_none_iff.mp h
    rw [this]
    simp
  | some c =>
    obtain ⟨ys, e⟩ := List.getLast?_eq_some_iff.mp h
    rw [e]
    simp
theorem sc_count_in : FnScope ["word", "parts", "place", "base"] ["word"] (defScope s_count_in) := ⟨rfl, rfl, rfl, by decide +kernel, rfl, by decide +kernel, by decide +kernel⟩
theorem ok_count_in (T : Tx K mg) (F_number_of : Fn P w K mg base CX0 1 "number_of" ["word"] sp_number_of) : Fn P w K mg base CX0 2 "count_in" ["word"] (sp_count_in K) := by
  refine Fn.of T.f_count_in sc_count_in (fun _ _ _ _ _ _ us hl => match us, hl with | [_], _ => rfl) (fun vs H Q E h => ?_) (fun f cdv A outer s H vs Q E hr h => ⟨_, PSs.nox (pss_cons (ps_set (i := 1) sc_count_in.nd rfl (Or.inl rfl) (pe_split (pe_slice sl_str (pv 0) po_none (po_some (pe_un un_neg pe_int))) pe_str))
  (pss_cons (ps_if (pt_cut (PW.pt (pw_or (pt_cmpR op_ne (pe_slice sl_str (pv 0) (po_some (pe_un un_neg pe_int)) po_none) pe_str (nomark _)) (pw_or1 (pt_cmpR op_ne (pe_callB call_len_seq (by rfl) T.b_len (by decide +kernel) (pa_cons (pv 1) pa_nil)) pe_int (nomark _)))))) (pss_one (ps_ret pe_non)) pss_nil)
  (pss_cons (ps_par (i := 2) (j := 3) rfl sc_count_in.nd rfl rfl (by decide) rfl rfl (pa_cons (pe_fn F_number_of (hr.mono (by omega)) (pa_cons (pe_ix ix_list (pv 1) pe_int (fun _ _ => rfl)) pa_nil)) (pa_cons (pe_fn F_number_of (hr.mono (by omega)) (pa_cons (pe_ix ix_list (pv 1) pe_int (fun _ _ => rfl)) pa_nil)) pa_nil)) (by rfl))
  (pss_cons (ps_if (pt_cut (PW.pt (pw_or (pt_cmpR op_isN (pv 2) pe_non (nomark _)) (pw_or (pt_cmpR op_isN (pv 3) pe_non (nomark _)) (pw_or1 (pt_not (pt_chain op_le op_le pe_int (pv 2) (pe_gv T.c_MOST_PLACE)))))))) (pss_one (ps_ret pe_non)) pss_nil)
  (pss_one (ps_ret (pe_tup (pa_cons (pv 2) (pa_cons (pv 3) pa_nil))))))))), ?_⟩)
  · obtain ⟨z, rfl, _⟩ := h
    rfl
  · obtain ⟨z, rfl, hz, q⟩ := h
    have e44 : Txt.split (cutS z none (some (-1))) "," = spl 44 (cutS z none (some (-1))) := rfl
    have lc : (cutS z none (some (-1))).length ≤ z.length := len_cut
    have hle : ∀ y ∈ spl 44 (cutS z none (some (-1))), y.length ≤ z.length := fun y hy => Nat.le_trans (spl_le (by decide) hy) lc
    have et := spl_tl (c := 44) (by decide) (cutS z none (some (-1)))
    rw [tl_butlast] at et
    refine ⟨_, rfl, ?_⟩
    unfold tNoPart
    refine ⟨1, rfl, _, rfl, z, rfl, by omega, ⟨_, rfl⟩, _, _, rfl, rfl, rfl, Nat.le_trans (Nat.add_le_add_right lc 2) hz, fun p1 hp1 => ?_⟩
    rw [e44]
    generalize spl 44 (cutS z none (some (-1))) = ps at hle et
    have g1 : Gr H (upd H p1 (.lst (ps.map V.str))) := Gr.new hp1
    have e1 : (upd H p1 (.lst (ps.map V.str))) p1 = some (.lst (ps.map V.str)) := upd_same
    generalize upd H p1 (.lst (ps.map V.str)) = H1 at g1 e1
    refine ⟨fun b H' => H' = H1 ∧ b = (!decide ((tl z).getLast? = some 93) || !decide (ps.length = 2)), ?_, fun b H' hb => ?_⟩
    · refine ⟨_, rfl, 1, rfl, _, rfl, z, rfl, by omega, rfl, _, rfl, ?_⟩
      have e9 : decide (V.str (cutS z (some (-1)) none) = V.str "]") = decide ((tl z).getLast? = some 93) := decide_eq_decide.mpr ⟨fun h => (last_cut z).mp (V.str.inj h), fun h => congrArg V.str ((last_cut z).mpr h)⟩
      show if (!decide (V.str (cutS z (some (-1)) none) = V.str "]")) = true then _ else _
      rw [e9]
      refine ite2 (fun c => ?_) (fun c => ?_)
      · rw [c] <;> exact ⟨rfl, rfl⟩
      · refine ⟨_, rfl, p1, _, rfl, .inl (sl_of e1), rfl, _, rfl, rfl, ?_⟩
        rw [c, Bool.false_or, List.length_map]
        congr 1
        exact decide_eq_decide.mpr ⟨fun h => by have := V.int.inj h; omega, fun h => by rw [h] <;> rfl⟩
    · obtain ⟨rfl, rfl⟩ := hb
      refine ite2 (fun c => ?_) (fun c => ?_)
      · have : countU (tl z) = none := by
          unfold countU
          by_cases h : (tl z).getLast? = some 93
          · rw [if_pos h, ← et]
            rw [decide_eq_true h] at c
            simp only [Bool.not_true, Bool.false_or, Bool.not_eq_true', decide_eq_false_iff_not] at c
            match ps, c with
            | [], _ => rfl
            | [_], _ => rfl
            | [a, b], c => exact absurd rfl c
            | a :: b :: d :: e, _ => rfl
          · rw [if_neg h]
        rw [this] at q
        exact q .non _ g1 rfl
      · rw [Bool.or_eq_false_iff] at c
        have h93 := nF c.1
        have h2 := nF c.2
        obtain ⟨a, b, rfl⟩ : ∃ a b, ps = [a, b] := by
          match ps, h2 with
          | [a, b], _ => exact ⟨a, b, rfl⟩
        have es : countU (tl z) = match numOf (tl a), numOf (tl b) with
          | some n, some m => if 0 ≤ n ∧ n ≤ 99 then some (n, m) else none
          | _, _ => none := by
          unfold countU
          rw [if_pos h93, ← et] <;> rfl
        rw [es] at q
        have at1 : atI [V.str a, V.str b] 1 = some (.str b) := atI_nat (j := 1) rfl
        refine ⟨_, rfl, p1, _, 0, _, rfl, rfl, sl_of e1, at0, a, rfl, by have := hle a List.mem_cons_self; omega, fun H2 g2 => ?_⟩
        refine ⟨_, rfl, p1, _, 1, _, rfl, rfl, sl_of (g2 _ _ e1), at1, b, rfl, by have := hle b (List.mem_cons_of_mem _ List.mem_cons_self); omega, fun H3 g3 => ?_⟩
        have g03 := (g1.trans g2).trans g3
        generalize numOf (tl a) = n at q
        generalize numOf (tl b) = m at q
        refine ⟨_, _, rfl, ?_⟩
        refine ⟨fun b H' => H' = H3 ∧ b = (match (generalizing := false) n, m with | some n, some m => !decide (0 ≤ n ∧ n ≤ 99) | _, _ => true), ?_, fun b H' hb => ?_⟩
        · refine ⟨_, rfl, rfl, _, rfl, ?_⟩
          cases n with
          | none => exact iteT rfl ⟨rfl, rfl⟩
          | some n =>
            refine iteF rfl ⟨_, rfl, rfl, _, rfl, ?_⟩
            cases m with
            | none => exact iteT rfl ⟨rfl, rfl⟩
            | some m =>
              refine iteF rfl ⟨_, rfl, _, _, rfl, rfl, _, rfl, ?_⟩
              refine ite2 (fun c => ?_) (fun c => ?_)
              · refine ⟨_, _, rfl, rfl, _, rfl, rfl, ?_⟩
                have := dT c
                show (!decide (n ≤ 99)) = !decide (0 ≤ n ∧ n ≤ 99)
                congr 1
                exact decide_eq_decide.mpr ⟨fun h => ⟨this, h⟩, fun h => h.2⟩
              · refine ⟨_, rfl, rfl, ?_⟩
                have := dF c
                show (!false) = !decide (0 ≤ n ∧ n ≤ 99)
                rw [decide_eq_false (p := 0 ≤ n ∧ n ≤ 99) (fun h => this h.1)]
        · obtain ⟨rfl, rfl⟩ := hb
          refine ite2 (fun c => ?_) (fun c => ?_)
          · refine q .non _ g03 ?_
            cases n with
            | none => rfl
            | some n =>
              cases m with
              | none => rfl
              | some m =>
                have := nT c
                show OptS K _ (if 0 ≤ n ∧ n ≤ 99 then some (n, m) else none) .non
                rw [if_neg this] <;> rfl
          · cases n with
            | none => cases c
            | some n =>
              cases m with
              | none => cases c
              | some m =>
                have := nF c
                refine ⟨_, rfl, _, rfl, by show 2 ≤ sizeLine; decide, fun t ht => q _ _ (g03.trans (Gr.new ht)) ?_⟩
                show OptS K _ (if 0 ≤ n ∧ n ≤ 99 then some (n, m) else none) _
                rw [if_pos this]
                exact ⟨t, rfl, st_of upd_same⟩
end
end K86
set_option Elab.async false
set_option linter.all false
set_option maxRecDepth 100000
set_option maxHeartbeats 4000000
/-! terms of forms, read -/
namespace K86
open PySem PySem.Spec PyProof.Rows L2
section
variable {P : Program} {w : World} {K : PySem.W.Frag} {mg : Str → Option Value} {base : Heap}
theorem cut91 (z : Str) : ∃ u v m : Str, Txt.partition z "[" = (u, m, v) ∧ u.length ≤ z.length ∧ v.length ≤ z.length ∧ pairU z = pairOf u v := by
  have e91 : TL.tl ("[" : Str) = [91] := by decide +kernel
  rw [TL.partition_par z "[" (by rw [e91]; simp), e91]
  have h := par_cut 91 (tl z) []
  unfold pairU
  cases q : TL.par [91] [] (tl z) with
  | none =>
    refine ⟨z, Str.empty, Str.empty, rfl, Nat.le_refl _, Nat.zero_le _, ?_⟩
    show none = pairOf z Str.empty
    unfold pairOf
    cases spl 42 z with
    | nil => rfl
    | cons a r =>
      have : countU (tl Str.empty) = none := rfl
      rw [this]
      dsimp only
      cases shareU (tl a) <;> cases moT r <;> rfl
  | some ab =>
    obtain ⟨a, b⟩ := ab
    rw [q] at h
    obtain ⟨a', h1, h2, h3⟩ := h
    rw [List.nil_append] at h1
    subst h1
    have hl := congrArg List.length h2
    rw [List.length_append, List.length_cons] at hl
    refine ⟨⟨a.toArray⟩, ⟨b.toArray⟩, "[", rfl, ?_, ?_, rfl⟩
    · rw [len_tl z, len_tl]
      show a.length ≤ _
      omega
    · rw [len_tl z, len_tl]
      show b.length ≤ _
      omega
def lowF (x : Kd × Int × Int) : Kd × Int × Int := (x.1, fr x.2.1 x.2.2)
def OptF (K : PySem.W.Frag) (H : Hp) : Option (Kd × Int × Int) → V → Prop
  | none, v => v = .non
  | some x, v => Dp K H v (fermD x)
def sp_pair_in (K : PySem.W.Frag) : Sp := fun vs H Q _ => ∃ z : Str, vs = [.str z] ∧ z.length + 2 ≤ sizeLine ∧ ∀ v H', Gr H H' → OptF K H' ((pairU z).map lowF) v → Q v H'
theorem sc_pair_in : FnScope ["word", "ahead", "mark", "behind", "parts", "share", "count", "mono", "part"] ["word"] (defScope s_pair_in) := ⟨rfl, rfl, rfl, by decide +kernel, rfl, by decide +kernel, by decide +kernel⟩
theorem ok_pair_in (T : Tx K mg) (F_is_name : Fn P w K mg base CX0 1 "is_name" ["thing"] sp_is_name) (F_mono_product : Fn P w K mg base CX0 1 "mono_product" ["one", "other"] (sp_mono_product K)) (F_share_in : Fn P w K mg base CX0 3 "share_in" ["word"] (sp_share_in K)) (F_count_in : Fn P w K mg base CX0 2 "count_in" ["word"] (sp_count_in K)) : Fn P w K mg base CX0 4 "pair_in" ["word"] (sp_pair_in K) := by
  refine Fn.of T.f_pair_in sc_pair_in (fun _ _ _ _ _ _ us hl => match us, hl with | [_], _ => rfl) (fun vs H Q E h => ?_) (fun f cdv A outer s H vs Q E hr h => ⟨_, PSs.nox (pss_cons (ps_asg (pe_partition (pv 0) pe_str) (pg_tup rfl (pgs_cons (pg_name (i := 1) sc_pair_in.nd rfl (Or.inl rfl)) (pgs_cons (pg_name (i := 2) sc_pair_in.nd rfl (Or.inl rfl)) (pgs_cons (pg_name (i := 3) sc_pair_in.nd rfl (Or.inl rfl)) pgs_nil)))))
  (pss_cons (ps_set (i := 4) sc_pair_in.nd rfl (Or.inl rfl) (pe_split (pv 1) pe_str))
  (pss_cons (ps_par (i := 5) (j := 6) rfl sc_pair_in.nd rfl rfl (by decide) rfl rfl (pa_cons (pe_fn F_share_in (hr.mono (by omega)) (pa_cons (pe_ix ix_list (pv 4) pe_int (fun _ _ => rfl)) pa_nil)) (pa_cons (pe_fn F_count_in (hr.mono (by omega)) (pa_cons (pv 3) pa_nil)) pa_nil)) (by rfl))
  (pss_cons (ps_if (pt_cut (PW.pt (pw_or (pt_cmpR op_isN (pv 5) pe_non (nomark _)) (pw_or (pt_cmpR op_isN (pv 6) pe_non (nomark _)) (pw_or1 (pt_cmpR op_gt (pe_callB call_len_seq (by rfl) T.b_len (by decide +kernel) (pa_cons (pv 4) pa_nil)) (pe_op op_add (pe_gv T.c_MOST_DEGREE) pe_int) (nomark _))))))) (pss_one (ps_ret pe_non)) pss_nil)
  (pss_cons (ps_set (i := 7) sc_pair_in.nd rfl (Or.inl rfl) (pe_tupF pa_nil))
  (pss_cons (ps_for PassesOwn.never rfl (pi_list (pe_slice sl_list (pv 4) (po_some pe_int) po_none)) (pg_name (i := 8) sc_pair_in.nd rfl (Or.inl rfl))
  (pss_cons (ps_if (pt_not (pt_val (pe_fn F_is_name (hr.mono (by omega)) (pa_cons (pv 8) pa_nil)))) (pss_one (ps_ret pe_non)) pss_nil)
  (pss_one (ps_set (i := 7) sc_pair_in.nd rfl (Or.inl rfl) (pe_fn F_mono_product (hr.mono (by omega)) (pa_cons (pv 7) (pa_cons (pe_tup (pa_cons (pe_tup (pa_cons (pv 8) (pa_cons pe_int pa_nil))) pa_nil)) pa_nil)))))))
  (pss_one (ps_ret (pe_tup (pa_cons (pe_op op_catT (pe_tup (pa_cons (pv 7) pa_nil)) (pv 6)) (pa_cons (pv 5) pa_nil))))))))))), ?_⟩)
  · obtain ⟨z, rfl, _⟩ := h
    rfl
  · obtain ⟨z, rfl, hz, q⟩ := h
    obtain ⟨u, v, mk, ep, lu, lv, eU⟩ := cut91 z
    rw [eU] at q
    refine ⟨_, rfl, ⟨z, rfl⟩, z, _, rfl, rfl, rfl, by omega, fun p0 hp0 => ?_⟩
    rw [ep]
    have gp := Gr.new (H := H) (o := .tup [.str u, .str mk, .str v]) hp0
    refine ⟨p0, _, rfl, st_of upd_same, rfl, _, _, rfl, _, _, rfl, _, _, rfl, rfl, ?_⟩
    generalize (upd H p0 (.tup [.str (u, mk, v).1, .str (u, mk, v).2.1, .str (u, mk, v).2.2]) : Hp) = H0 at gp
    have e42 : Txt.split u "*" = spl 42 u := rfl
    refine ⟨_, rfl, ⟨u, rfl⟩, u, _, rfl, rfl, rfl, by omega, fun p1 hp1 => ?_⟩
    rw [e42]
    obtain ⟨a, r, es⟩ := spl_cons (c := 42) (by decide) u
    have la : a.length ≤ u.length := spl_le (c := 42) (by decide) (by rw [es]; exact List.mem_cons_self)
    have lr : ∀ y ∈ r, y.length ≤ u.length := fun y hy => spl_le (c := 42) (by decide) (by rw [es]; exact List.mem_cons_of_mem _ hy)
    have eo : pairOf u v = match shareU (tl a), countU (tl v), moT r with
      | some q, some c, some m => some ((m, c.1, c.2), q)
      | _, _, _ => none := by
      unfold pairOf
      rw [es] <;> rfl
    rw [eo] at q
    clear eo
    rw [es]
    have g1 : Gr H0 (upd H0 p1 (.lst ((a :: r).map V.str))) := Gr.new hp1
    have e1 : (upd H0 p1 (.lst ((a :: r).map V.str))) p1 = some (.lst ((a :: r).map V.str)) := upd_same
    generalize upd H0 p1 (.lst ((a :: r).map V.str)) = H1 at g1 e1
    refine ⟨_, rfl, p1, _, 0, _, rfl, rfl, sl_of e1, at0, a, rfl, by omega, fun vs H2 g2 os => ⟨_, rfl, v, rfl, by omega, fun vc H3 g3 oc => ⟨_, _, rfl, ?_⟩⟩⟩
    have os3 : OptS K H3 ((shareU (tl a)).map fun q => fr q.1 q.2) vs := by
      cases h : (shareU (tl a)).map fun q => fr q.1 q.2 with
      | none => rw [h] at os; exact os
      | some x =>
        rw [h] at os
        obtain ⟨b, e, st⟩ := os
        exact ⟨b, e, g3.st st⟩
    have g03 := (gp.trans g1).trans (g2.trans g3)
    have e3 := g3 _ _ (g2 _ _ e1)
    generalize shareU (tl a) = so at q os3
    generalize countU (tl v) = co at q oc
    clear os
    refine ⟨fun b H' => H' = H3 ∧ (b = false → ∃ s c, so = some s ∧ co = some c ∧ r.length ≤ 12) ∧ (b = true → so = none ∨ co = none ∨ ¬ r.length ≤ 12), ?_, fun b H' hb => ?_⟩
    · refine ⟨_, rfl, rfl, _, rfl, ?_⟩
      cases so with
      | none =>
        cases os3
        exact iteT rfl ⟨rfl, ⟨fun h => (Bool.noConfusion h), fun _ => .inl rfl⟩⟩
      | some s =>
        obtain ⟨b, rfl, st⟩ := os3
        refine iteF rfl ⟨_, rfl, rfl, _, rfl, ?_⟩
        cases co with
        | none =>
          cases oc
          exact iteT rfl ⟨rfl, ⟨fun h => (Bool.noConfusion h), fun _ => .inr (.inl rfl)⟩⟩
        | some c =>
          obtain ⟨b2, rfl, st2⟩ := oc
          refine iteF rfl ⟨_, rfl, p1, _, rfl, .inl (sl_of e3), _, _, rfl, rfl, _, _, rfl, rfl, _, rfl, rfl, fun h => ?_, fun h => ?_⟩
          · have := dF h
            rw [List.length_map, List.length_cons] at this
            exact ⟨s, c, rfl, rfl, by omega⟩
          · have := dT h
            rw [List.length_map, List.length_cons] at this
            exact .inr (.inr (by omega))
    · obtain ⟨rfl, hf, ht⟩ := hb
      refine ite2 (fun c => ?_) (fun c => ?_)
      · refine q .non _ g03 ?_
        rcases ht c with h | h | h
        · subst h
          rfl
        · subst h
          cases so <;> rfl
        · have : moT r = none := by
            unfold moT
            rw [decide_eq_false h, Bool.false_and] <;> rfl
          rw [this]
          cases so with
          | none => rfl
          | some s => cases co <;> rfl
      · obtain ⟨s, c, rfl, rfl, h12⟩ := hf c
        obtain ⟨ps, rfl, st1⟩ := os3
        obtain ⟨pc, rfl, st2⟩ := oc
        have em : moT r = if r.all isN = true then some (moOf r) else none := by
          unfold moT
          rw [decide_eq_true h12, Bool.true_and]
        rw [em] at q
        clear hf ht em
        refine ⟨by show 0 ≤ sizeLine; omega, fun p4 H4 hp4 g4 t4 => ?_⟩
        refine ⟨_, rfl, _, rfl, ?_⟩
        unfold tNoPart
        refine slice_from (k := 1) rfl (g4 _ _ e3) fun p5 H5 hp5 g5 e5 => ?_
        refine ⟨p5, rfl, ⟨_, sl_of e5⟩, for_list (xs := r.map V.str) (K := K) (fun i σ Hh => Gr H5 Hh ∧ ∃ c z1, σ = [some (.str z), some (.str u), some (.str mk), some (.str v), some (.ref p1), some (.ref ps), some (.ref pc), some (.ref c), z1] ∧ MonoAt K Hh c (moOf (r.take i)) ∧ ∀ y ∈ r.take i, isN y = true) ⟨Gr.rfl' _, p4, none, rfl, ⟨[], t4.gr g5, .nil⟩, by simp⟩ (fun i σ Hh _ pv => sl_of (pv.1 _ _ e5)) (fun i x σ Hh hx pv => ?_) (fun σ Hh pv => ?_)⟩
        · obtain ⟨gh, c0, z1, rfl, mc, hn⟩ := pv
          obtain ⟨y, hy, rfl⟩ := at_map hx
          refine ⟨_, rfl, y, rfl, by have := lr y (List.mem_of_getElem? hy); omega, fun H6 g6 => ⟨_, rfl, ?_⟩⟩
          show if (!isN y) = true then _ else _
          refine ite2 (fun c3 => ?_) (fun c3 => ?_)
          · refine q .non _ ((g03.trans (g4.trans g5)).trans (gh.trans g6)) ?_
            rw [if_neg]
            · rfl
            · intro h
              rw [List.all_eq_true.mp h y (List.mem_of_getElem? hy)] at c3
              cases c3
          · refine ⟨_, rfl, _, rfl, by show 2 ≤ sizeLine; decide, fun t1 ht1 => ⟨by show 1 ≤ sizeLine; decide, fun t2 ht2 => ?_⟩⟩
            have ga := Gr.new (H := H6) (o := .tup [.str y, .int 1]) ht1
            have gb := Gr.new (o := .tup [.ref t1]) ht2
            refine ⟨c0, t2, t1, _, y, rfl, ((mc.gr g6).gr ga).gr gb, (moOf_ok _).1, ?_, st_of upd_same, gb.st (st_of upd_same), fun l H7 hl g7 ml => ?_⟩
            · have := moOf_len (r.take i)
              rw [List.length_take] at this
              omega
            · refine ⟨gh.trans (g6.trans ((ga.trans gb).trans g7)), l, _, rfl, ?_, ?_⟩
              · rw [take_snoc hy, moOf_snoc]
                exact ml
              · rw [take_snoc hy]
                intro y' hy'
                rcases List.mem_append.mp hy' with h | h
                · exact hn y' h
                · rw [List.mem_singleton.mp h]
                  cases h : isN y with
                  | true => rfl
                  | false => rw [h] at c3; cases c3
        · obtain ⟨gh, c0, z1, rfl, mc, hn⟩ := pv
          rw [List.length_map, List.take_length] at mc hn
          rw [if_pos (List.all_eq_true.mpr hn)] at q
          have gA := (g4.trans g5).trans gh
          refine ⟨_, rfl, by show 1 ≤ sizeLine; decide, fun t1 ht1 => ⟨_, rfl, ?_⟩⟩
          have gt1 := Gr.new (o := .tup [.ref c0]) ht1
          refine ⟨t1, pc, _, _, rfl, rfl, st_of upd_same, (gA.trans gt1).st st2, by simp, by show 1 + 2 ≤ sizeLine; decide, fun h => by simp at h, fun _ t2 ht2 => ?_⟩
          refine ⟨_, rfl, by show 2 ≤ sizeLine; decide, fun t3 ht3 => ?_⟩
          have gt2 := Gr.new (o := .tup ([V.ref c0] ++ [V.int c.1, V.int c.2])) ht2
          have gt3 := Gr.new (o := .tup [.ref t2, .ref ps]) ht3
          refine q _ _ (g03.trans (gA.trans (gt1.trans (gt2.trans gt3)))) ?_
          show Dp K _ _ (fermD ((moOf r, c.1, c.2), fr s.1 s.2))
          refine .tup (st_of upd_same) (.cons (.tup (gt3.st (st_of upd_same)) (.cons (Dp.gr (gt1.trans (gt2.trans gt3)) _ _ mc.dp) (.cons (.int _) (.cons (.int _) .nil)))) (.cons (.tup ((gA.trans (gt1.trans (gt2.trans gt3))).st st1) (.cons (.int _) (.cons (.int _) .nil))) .nil))
end
end K86
set_option Elab.async false
set_option linter.all false
set_option maxRecDepth 100000
set_option maxHeartbeats 4000000
/-! the law's reading of a form's term, plain -/
namespace K86
open PySem PySem.Spec PyProof.Rows L2
theorem numOf_mem {l : List Nat} {n : Int} (h : numOf l = some n) : ∀ c ∈ l, c = 45 ∨ (48 ≤ c ∧ c ≤ 57) := by
  unfold numOf at h
  split at h
  · rename_i q
    unfold numL at q
    rcases Bool.or_eq_true_iff.mp q with q | q
    · intro c hc
      have := (figL_all q).2.2.1 c hc
      exact .inr this
    · simp only [Bool.and_eq_true, decide_eq_true_eq] at q
      obtain ⟨r, e⟩ := head_eq.mp q.1.1
      intro c hc
      rw [e] at hc
      rcases List.mem_cons.mp hc with h | h
      · exact .inl h
      · have := (figL_all q.1.2).2.2.1 c (by rw [e]; exact h)
        exact .inr this
  · cases h
theorem countU_91 {l : List Nat} (h : 91 ∈ l) : countU l = none := by
  unfold countU
  by_cases e : l.getLast? = some 93
  · rw [if_pos e]
    obtain ⟨ys, ey⟩ := List.getLast?_eq_some_iff.mp e
    have hd : 91 ∈ l.dropLast := by
      rw [ey, List.dropLast_concat]
      rw [ey] at h
      rcases List.mem_append.mp h with h | h
      · exact h
      · simp at h
    have hj := join_cut 44 l.dropLast
    match q : cut1 44 l.dropLast with
    | [] => rfl
    | [_] => rfl
    | [p, b] =>
      rw [q] at hj
      have e2 : l.dropLast = p ++ 44 :: b := by
        rw [← hj]
        simp [TL.joinL]
      rw [e2] at hd
      dsimp only
      rcases List.mem_append.mp hd with hd | hd
      · cases hn : numOf p with
        | none => rfl
        | some n =>
          rcases numOf_mem hn 91 hd with h | h <;> omega
      · rcases List.mem_cons.mp hd with h | hd
        · omega
        · cases hn : numOf b with
          | none => cases numOf p <;> rfl
          | some n =>
            rcases numOf_mem hn 91 hd with h | h <;> omega
    | _ :: _ :: _ :: _ => rfl
  · rw [if_neg e]
theorem pairOf_c {u v : Str} (h : countU (tl v) = none) : pairOf u v = none := by
  unfold pairOf
  cases spl 42 u with
  | nil => rfl
  | cons a r =>
    dsimp only
    rw [h]
    cases shareU (tl a) <;> cases moT r <;> rfl
theorem tls_inj : ∀ {a b : List Str}, a.map tl = b.map tl → a = b
  | [], [], _ => rfl
  | [], _ :: _, h => by simp at h
  | _ :: _, [], h => by simp at h
  | x :: a, y :: b, h => by
    rw [List.map_cons, List.map_cons] at h
    injection h with h1 h2
    rw [str_eq.mpr h1, tls_inj h2]
theorem pairU_cases (z : Str) : (∃ u v, spl 91 z = [u, v] ∧ pairU z = pairOf u v) ∨ ((spl 91 z).length ≠ 2 ∧ pairU z = none) := by
  have et := spl_tl (c := 91) (by decide) z
  have h := par_cut 91 (tl z) []
  unfold pairU
  cases q : TL.par [91] [] (tl z) with
  | none =>
    rw [q] at h
    refine .inr ⟨?_, rfl⟩
    rw [spl_len (by decide), List.count_eq_zero.mpr h]
    decide
  | some ab =>
    obtain ⟨a, b⟩ := ab
    rw [q] at h
    obtain ⟨a', h1, h2, h3⟩ := h
    rw [List.nil_append] at h1
    subst h1
    rw [h2, cut1_app, cut1_none h3, List.singleton_append] at et
    by_cases hb : 91 ∈ b
    · refine .inr ⟨?_, pairOf_c (countU_91 hb)⟩
      have := congrArg List.length et
      rw [List.length_map, List.length_cons, cut1_len] at this
      have hc : 0 < b.count 91 := List.count_pos_iff.mpr hb
      omega
    · rw [cut1_none hb] at et
      exact .inl ⟨mkS a, mkS b, tls_inj (et.trans rfl), rfl⟩
/-! ### places and bases -/
theorem countU_no {l : List Nat} (h : l.getLast? ≠ some 93) : countU l = none := by
  unfold countU
  rw [if_neg h]
theorem cut_last {l : List Nat} (h : l.getLast? = some 93) : (cut1 44 l.dropLast).length = (cut1 44 l).length := by
  obtain ⟨ys, ey⟩ := List.getLast?_eq_some_iff.mp h
  rw [cut1_len, cut1_len, ey, List.dropLast_concat, List.count_append]
  simp
theorem countU_yes {l p b : List Nat} (h : l.getLast? = some 93) (e : cut1 44 l.dropLast = [p, b]) : countU l = if (figL p && decide (p.length ≤ 2) && numL b) = true then some (valL p, valL b) else none := by
  unfold countU
  rw [if_pos h, e]
  dsimp only
  by_cases hp : figL p = true ∧ p.length ≤ 2
  · obtain ⟨n, e1, h1, h2⟩ := (num_place p).mpr hp
    have e1' := (fig_num hp.1).1
    rw [e1'] at e1
    have en : valL p = n := Option.some.inj e1
    rw [e1', hp.1, decide_eq_true hp.2]
    cases hb : numL b with
    | true =>
      have e2 : numOf b = some (valL b) := by unfold numOf; rw [if_pos hb]
      rw [e2]
      dsimp only
      rw [if_pos (by rw [en]; exact ⟨h1, h2⟩)] <;> rfl
    | false =>
      have e2 : numOf b = none := by unfold numOf; rw [if_neg (by rw [hb]; exact Bool.false_ne_true)]
      rw [e2] <;> rfl
  · have hf : (figL p && decide (p.length ≤ 2)) = false := by
      cases h1 : figL p with
      | false => rfl
      | true => rw [decide_eq_false (fun h2 => hp ⟨h1, h2⟩)] <;> rfl
    rw [hf, Bool.false_and, if_neg Bool.false_ne_true]
    cases e1 : numOf p with
    | none => rfl
    | some n =>
      cases e2 : numOf b with
      | none => rfl
      | some m =>
        dsimp only
        rw [if_neg fun h => hp ((num_place p).mp ⟨n, e1, h⟩)]
theorem countU_len {l : List Nat} (h : (cut1 44 l).length ≠ 2) : countU l = none := by
  by_cases e : l.getLast? = some 93
  · rw [← cut_last e] at h
    unfold countU
    rw [if_pos e]
    match q : cut1 44 l.dropLast with
    | [] => rfl
    | [_] => rfl
    | [p, b] => rw [q] at h; exact absurd rfl h
    | _ :: _ :: _ :: _ => rfl
  · exact countU_no e
/-! ### fractions -/
theorem share_two (a : List Nat) : ∃ x y : List Nat, (cut1 47 (a ++ [47, 49])).take 2 = [x, y] ∧ shareU a = if (!decide (1 < a.count 47) && numL x && (figL y && !decide (y = [48]))) = true then some (valL x, valL y) else none := by
  rw [show a ++ [47, 49] = a ++ 47 :: [49] from rfl, cut1_app, cut1_none (by decide : 47 ∉ [49])]
  have hl := cut1_len 47 a
  unfold shareU
  match q : cut1 47 a with
  | [] => exact absurd q (cut1_ne _ _)
  | [x] =>
    rw [q] at hl
    have c0 : a.count 47 = 0 := by simp at hl; omega
    refine ⟨x, [49], rfl, ?_⟩
    rw [c0]
    have e49 : (figL [49] && !decide ([49] = [48])) = true := by decide
    have v49 : valL [49] = 1 := by decide
    rw [e49, v49]
    dsimp only
    unfold numOf
    cases numL x <;> rfl
  | [x, y] =>
    rw [q] at hl
    have c0 : a.count 47 = 1 := by simp at hl; omega
    refine ⟨x, y, rfl, ?_⟩
    rw [c0]
    dsimp only
    by_cases hy : figL y = true ∧ y ≠ [48]
    · obtain ⟨m, e2, hm⟩ := (num_pos y).mpr hy
      have e2' := (fig_num hy.1).1
      rw [e2'] at e2
      have em : valL y = m := Option.some.inj e2
      rw [e2', hy.1, decide_eq_false hy.2]
      unfold numOf
      cases numL x with
      | false => rfl
      | true =>
        show (if 0 < valL y then some (valL x, valL y) else none) = some (valL x, valL y)
        rw [if_pos (by rw [em]; exact hm)]
    · have hf : (figL y && !decide (y = [48])) = false := by
        cases h1 : figL y with
        | false => rfl
        | true => rw [decide_eq_true (Decidable.byContradiction fun h2 => hy ⟨h1, h2⟩)] <;> rfl
      rw [hf, Bool.and_false, if_neg Bool.false_ne_true]
      cases e1 : numOf x with
      | none => rfl
      | some n =>
        cases e2 : numOf y with
        | none => rfl
        | some m =>
          dsimp only
          rw [if_neg fun h => hy ((num_pos y).mp ⟨m, e2, h⟩)]
  | x :: y :: w :: r =>
    rw [q] at hl
    refine ⟨x, y, rfl, ?_⟩
    rw [decide_eq_true (p := 1 < a.count 47) (by simp at hl; omega)] <;> rfl
end K86
set_option Elab.async false
set_option linter.all false
set_option maxRecDepth 100000
set_option maxHeartbeats 4000000
/-! a form's term, read by the law -/
namespace K86
open PySem PySem.Spec PyProof.Rows L2
section
variable {P : Program} {w : World} {K : PySem.W.Frag} {mg : Str → Option Value} {base : Heap}
def sp_law_form_term (K : PySem.W.Frag) : Sp := fun vs H Q _ => ∃ z : Str, vs = [.str z] ∧ asc z ∧ z.length + 4 ≤ sizeLine ∧ ∀ v H', Gr H H' → OptF K H' (pairU z) v → Q v H'
theorem sc_law_form_term : FnScope ["_law_word", "_law_cut", "_law_place", "_law_base", "_law_parts", "_law_share", "_law_mono_here"] ["_law_word"] (defScope s_law_form_term) := ⟨rfl, rfl, rfl, by decide +kernel, rfl, by decide +kernel, by decide +kernel⟩
theorem ok_law_form_term (T : Tx K mg) (F_law_mono_of : Fn P w K mg base CX0 2 "_law_mono_of" ["_law_parts"] (sp_law_mono_of K)) (F_law_is_number : Fn P w K mg base CX0 2 "_law_is_number" ["_law_word"] (sp_wordB numL)) (F_law_figures : Fn P w K mg base CX0 1 "_law_figures" ["_law_word"] (sp_wordB figL)) : Fn P w K mg base CX0 3 "_law_form_term" ["_law_word"] (sp_law_form_term K) := by
  refine Fn.of T.f_law_form_term sc_law_form_term (fun _ _ _ _ _ _ us hl => match us, hl with | [_], _ => rfl) (fun vs H Q E h => ?_) (fun f cdv A outer s H vs Q E hr h => ⟨_, PSs.nox (pss_cons (ps_set (i := 1) sc_law_form_term.nd rfl (Or.inl rfl) (pe_split (pv 0) pe_str))
  (pss_cons (ps_if (pt_cut (PW.pt (pw_or (pt_cmpR op_ne (pe_callB call_len_seq (by rfl) T.b_len (by decide +kernel) (pa_cons (pv 1) pa_nil)) pe_int (nomark _)) (pw_or (pt_cmpR op_ne (pe_slice sl_str (pe_ix ix_list (pv 1) pe_int (fun _ _ => rfl)) (po_some (pe_un un_neg pe_int)) po_none) pe_str (nomark _)) (pw_or1 (pt_cmpR op_ne (pe_callB call_len_seq (by rfl) T.b_len (by decide +kernel) (pa_cons (pe_split (pe_ix ix_list (pv 1) pe_int (fun _ _ => rfl)) pe_str) pa_nil)) pe_int (nomark _))))))) (pss_one (ps_ret pe_non)) pss_nil)
  (pss_cons (ps_asg (pe_split (pe_slice sl_str (pe_ix ix_list (pv 1) pe_int (fun _ _ => rfl)) po_none (po_some (pe_un un_neg pe_int))) pe_str) (pg_unl rfl (pgs_cons (pg_name (i := 2) sc_law_form_term.nd rfl (Or.inl rfl)) (pgs_cons (pg_name (i := 3) sc_law_form_term.nd rfl (Or.inl rfl)) pgs_nil))))
  (pss_cons (ps_set (i := 4) sc_law_form_term.nd rfl (Or.inl rfl) (pe_split (pe_ix ix_list (pv 1) pe_int (fun _ _ => rfl)) pe_str))
  (pss_cons (ps_par (i := 5) (j := 6) rfl sc_law_form_term.nd rfl rfl (by decide) rfl rfl (pa_cons (pe_slice sl_list (pe_split (pe_op op_add_str (pe_ix ix_list (pv 4) pe_int (fun _ _ => rfl)) pe_str) pe_str) po_none (po_some pe_int)) (pa_cons (pe_fn F_law_mono_of (hr.mono (by omega)) (pa_cons (pe_slice sl_list (pv 4) (po_some pe_int) po_none) pa_nil)) pa_nil)) (by rfl))
  (pss_cons (ps_if (pt_cut (PW.pt (pw_or (pt_cmpR op_isN (pv 6) pe_non (nomark _)) (pw_or (pt_cmpR op_gt (pe_bm PySem.F.plainAttrs_str PySem.F.slot_str_count PySem.F.type_str_count mt_count (pe_ix ix_list (pv 4) pe_int (fun _ _ => rfl)) (pa_cons pe_str pa_nil)) pe_int (nomark _)) (pw_or (pt_not (pt_val (pe_fn F_law_is_number (hr.mono (by omega)) (pa_cons (pe_ix ix_list (pv 5) pe_int (fun _ _ => rfl)) pa_nil)))) (pw_or1 (pt_not (pt_val (pe_fn F_law_figures (hr.mono (by omega)) (pa_cons (pe_ix ix_list (pv 5) pe_int (fun _ _ => rfl)) pa_nil)))))))))) (pss_one (ps_ret pe_non)) pss_nil)
  (pss_cons (ps_if (pt_cut (PW.pt (pw_or (pt_cmpR op_eq (pe_ix ix_list (pv 5) pe_int (fun _ _ => rfl)) pe_str (nomark _)) (pw_or (pt_not (pt_val (pe_fn F_law_figures (hr.mono (by omega)) (pa_cons (pv 2) pa_nil)))) (pw_or (pt_cmpR op_gt (pe_callB call_len_str (by rfl) T.b_len (by decide +kernel) (pa_cons (pv 2) pa_nil)) pe_int (nomark _)) (pw_or1 (pt_not (pt_val (pe_fn F_law_is_number (hr.mono (by omega)) (pa_cons (pv 3) pa_nil)))))))))) (pss_one (ps_ret pe_non)) pss_nil)
  (pss_one (ps_ret (pe_tup (pa_cons (pe_tup (pa_cons (pv 6) (pa_cons (pe_callTy call_int_str (by rfl) T.b_int (by decide +kernel) (pa_cons (pv 2) pa_nil)) (pa_cons (pe_callTy call_int_str (by rfl) T.b_int (by decide +kernel) (pa_cons (pv 3) pa_nil)) pa_nil)))) (pa_cons (pe_tup (pa_cons (pe_callTy call_int_str (by rfl) T.b_int (by decide +kernel) (pa_cons (pe_ix ix_list (pv 5) pe_int (fun _ _ => rfl)) pa_nil)) (pa_cons (pe_callTy call_int_str (by rfl) T.b_int (by decide +kernel) (pa_cons (pe_ix ix_list (pv 5) pe_int (fun _ _ => rfl)) pa_nil)) pa_nil))) pa_nil)))))))))))), ?_⟩)
  · obtain ⟨z, rfl, _⟩ := h
    rfl
  · obtain ⟨z, rfl, hasc, hz, q⟩ := h
    unfold tNoPart
    have e91 : Txt.split z "[" = spl 91 z := rfl
    refine ⟨_, rfl, ⟨z, rfl⟩, z, _, rfl, rfl, rfl, by omega, fun p1 hp1 => ?_⟩
    rw [e91]
    have hle : ∀ y ∈ spl 91 z, asc y ∧ y.length ≤ z.length := fun y hy => ⟨spl_asc (by decide) hasc hy, spl_le (by decide) hy⟩
    have hU := pairU_cases z
    generalize spl 91 z = cs at hle hU
    have g1 : Gr H (upd H p1 (.lst (cs.map V.str))) := Gr.new hp1
    have e1 : (upd H p1 (.lst (cs.map V.str))) p1 = some (.lst (cs.map V.str)) := upd_same
    generalize upd H p1 (.lst (cs.map V.str)) = H1 at g1 e1
    refine ⟨fun b H' => Gr H1 H' ∧ ((b = true ∧ pairU z = none) ∨ (b = false ∧ ∃ u v, cs = [u, v] ∧ pairU z = pairOf u v ∧ (tl v).getLast? = some 93 ∧ (spl 44 v).length = 2)), ?_, fun b H' hb => ?_⟩
    · refine ⟨_, rfl, p1, _, rfl, .inl (sl_of e1), rfl, _, rfl, ?_⟩
      rw [List.length_map]
      refine ite2 (fun c => ?_) (fun c => ?_)
      · refine ⟨Gr.rfl' _, .inl ⟨rfl, ?_⟩⟩
        rcases hU with ⟨u, v, rfl, _⟩ | ⟨_, h⟩
        · exact absurd rfl (nT c)
        · exact h
      · have c' := V.int.inj (nF c)
        obtain ⟨u, v, rfl, eU⟩ : ∃ u v, cs = [u, v] ∧ pairU z = pairOf u v := by
          rcases hU with h | ⟨h, _⟩
          · exact h
          · exact absurd (by omega) h
        have at1 : atI ([u, v].map V.str) 1 = some (.str v) := atI_nat (j := 1) rfl
        obtain ⟨av, lv⟩ := hle v (List.mem_cons_of_mem _ List.mem_cons_self)
        refine ⟨_, rfl, p1, _, 1, _, rfl, rfl, sl_of e1, at1, 1, rfl, _, rfl, v, rfl, by omega, rfl, _, rfl, ?_⟩
        have e9 : decide (V.str (cutS v (some (-1)) none) = V.str "]") = decide ((tl v).getLast? = some 93) := decide_eq_decide.mpr ⟨fun h => (last_cut v).mp (V.str.inj h), fun h => congrArg V.str ((last_cut v).mpr h)⟩
        show if (!decide (V.str (cutS v (some (-1)) none) = V.str "]")) = true then _ else _
        rw [e9]
        refine ite2 (fun c2 => ?_) (fun c2 => ?_)
        · exact ⟨Gr.rfl' _, .inl ⟨rfl, by rw [eU]; exact pairOf_c (countU_no (nT c2))⟩⟩
        · refine ⟨_, rfl, p1, _, 1, _, rfl, rfl, sl_of e1, at1, ⟨v, rfl⟩, v, _, rfl, rfl, rfl, by omega, fun p hp => ⟨p, _, rfl, .inl (sl_of upd_same), rfl, _, rfl, Gr.new hp, ?_⟩⟩
          have e44 : Txt.split v "," = spl 44 v := rfl
          rw [e44, List.length_map]
          have el : (cut1 44 (tl v)).length = (spl 44 v).length := by rw [← spl_tl (by decide), List.length_map]
          cases h : (!decide (V.int ((spl 44 v).length : Nat) = V.int 2)) with
          | true =>
            refine .inl ⟨rfl, ?_⟩
            rw [eU]
            refine pairOf_c (countU_len ?_)
            rw [el]
            intro h2
            exact nT h (by rw [h2] <;> rfl)
          | false =>
            refine .inr ⟨rfl, u, v, rfl, eU, nF c2, ?_⟩
            have := V.int.inj (nF h)
            omega
    · obtain ⟨g2, ⟨rfl, hN⟩ | ⟨rfl, u, v, rfl, eU, h93, h44⟩⟩ := hb
      · refine iteT rfl ?_
        rw [hN] at q
        exact q .non _ (g1.trans g2) rfl
      · refine iteF rfl ?_
        obtain ⟨au, lu⟩ := hle u List.mem_cons_self
        obtain ⟨av, lv⟩ := hle v (List.mem_cons_of_mem _ List.mem_cons_self)
        have e2 := g2 _ _ e1
        have g02 := g1.trans g2
        clear hle hU g1 g2 e1
        rw [eU] at q
        have at1 : atI ([u, v].map V.str) 1 = some (.str v) := atI_nat (j := 1) rfl
        have e44 : Txt.split (cutS v none (some (-1))) "," = spl 44 (cutS v none (some (-1))) := rfl
        have lc : (cutS v none (some (-1))).length ≤ v.length := len_cut
        have hle : ∀ y ∈ spl 44 (cutS v none (some (-1))), asc y ∧ y.length ≤ v.length := fun y hy => ⟨spl_asc (by decide) (asc_cut av) hy, Nat.le_trans (spl_le (by decide) hy) lc⟩
        have et := spl_tl (c := 44) (by decide) (cutS v none (some (-1)))
        rw [tl_butlast] at et
        have hlen : (spl 44 (cutS v none (some (-1)))).length = 2 := by
          have h1 := congrArg List.length et
          rw [List.length_map, cut_last h93, ← spl_tl (by decide), List.length_map] at h1
          omega
        refine ⟨_, rfl, p1, _, 1, _, rfl, rfl, sl_of e2, at1, 1, rfl, _, rfl, v, rfl, by omega, ⟨_, rfl⟩, _, _, rfl, rfl, rfl, by
          show (cutS v none (some (-1))).length + 2 ≤ sizeLine
          omega, fun p2 hp2 => ?_⟩
        show gUnl _ _ _ _ _ _ _
        rw [e44]
        obtain ⟨pl, bs, es⟩ : ∃ a b, spl 44 (cutS v none (some (-1))) = [a, b] := by
          match h : spl 44 (cutS v none (some (-1))), hlen with
          | [a, b], _ => exact ⟨a, b, rfl⟩
        rw [es] at et hle ⊢
        obtain ⟨apl, lpl⟩ := hle pl List.mem_cons_self
        obtain ⟨abs, lbs⟩ := hle bs (List.mem_cons_of_mem _ List.mem_cons_self)
        have eC := countU_yes h93 et.symm
        clear hle hlen et es e44
        have g3 : Gr H' (upd H' p2 (.lst ([pl, bs].map V.str))) := Gr.new hp2
        refine ⟨p2, _, rfl, sl_of upd_same, rfl, _, _, rfl, _, _, rfl, rfl, ?_⟩
        have e3 := g3 _ _ e2
        have g03 := g02.trans g3
        generalize upd H' p2 (.lst ([pl, bs].map V.str)) = H3 at g3 e3 g03
        obtain ⟨a, r, es⟩ := spl_cons (c := 42) (by decide) u
        have la : a.length ≤ u.length := spl_le (c := 42) (by decide) (by rw [es]; exact List.mem_cons_self)
        have aa : asc a := spl_asc (c := 42) (by decide) au (by rw [es]; exact List.mem_cons_self)
        have lr : ∀ y ∈ r, asc y ∧ y.length ≤ sizeLine := fun y hy => ⟨spl_asc (c := 42) (by decide) au (by rw [es]; exact List.mem_cons_of_mem _ hy), by
          have := spl_le (c := 42) (by decide) (by rw [es]; exact List.mem_cons_of_mem _ hy : y ∈ spl 42 u)
          omega⟩
        have ln := spl_few (c := 42) (by decide) u
        rw [es, List.length_cons] at ln
        have eP : pairOf u v = match shareU (tl a), countU (tl v), moT r with
          | some q, some c, some m => some ((m, c.1, c.2), q)
          | _, _, _ => none := by
          unfold pairOf
          rw [es] <;> rfl
        rw [eP] at q
        have e42 : Txt.split u "*" = spl 42 u := rfl
        refine ⟨_, rfl, p1, _, 0, _, rfl, rfl, sl_of e3, at0, ⟨u, rfl⟩, u, _, rfl, rfl, rfl, by omega, fun p3 hp3 => ?_⟩
        rw [e42, es]
        have g4 : Gr H3 (upd H3 p3 (.lst ((a :: r).map V.str))) := Gr.new hp3
        have e4 : (upd H3 p3 (.lst ((a :: r).map V.str))) p3 = some (.lst ((a :: r).map V.str)) := upd_same
        have g04 := g03.trans g4
        generalize upd H3 p3 (.lst ((a :: r).map V.str)) = H4 at g4 e4 g04
        clear e42 es eP
        have l1 : ("/1" : Str).length = 2 := by decide +kernel
        have t1 : tl ("/1" : Str) = [47, 49] := by decide +kernel
        have ta : tl (a ++ ("/1" : Str)) = tl a ++ [47, 49] := by rw [← t1]; exact tl_app _ _
        have la1 : (a ++ ("/1" : Str)).length = a.length + 2 := by rw [len_tl, ta, List.length_append, ← len_tl] <;> rfl
        have aa1 : asc (a ++ ("/1" : Str)) := fun c hc => by
          rw [ta] at hc
          rcases List.mem_append.mp hc with h | h
          · exact aa c h
          · simp at h
            omega
        have e47 : Txt.split (a ++ ("/1" : Str)) "/" = spl 47 (a ++ ("/1" : Str)) := rfl
        have hs : ∀ y ∈ spl 47 (a ++ ("/1" : Str)), asc y ∧ y.length ≤ a.length + 2 := fun y hy => ⟨spl_asc (by decide) aa1 hy, by have := spl_le (by decide) hy; omega⟩
        obtain ⟨x, y, exy, eS⟩ := share_two (tl a)
        have et := spl_tl (c := 47) (by decide) (a ++ ("/1" : Str))
        rw [ta] at et
        obtain ⟨sx, sy, ess, rfl, rfl⟩ : ∃ sx sy, (spl 47 (a ++ ("/1" : Str))).take 2 = [sx, sy] ∧ tl sx = x ∧ tl sy = y := by
          rw [← et, ← List.map_take] at exy
          match h : (spl 47 (a ++ ("/1" : Str))).take 2, exy with
          | [b, c], exy =>
            simp at exy
            exact ⟨b, c, rfl, exy.1, exy.2⟩
        have hx := hs sx (List.mem_of_mem_take (by rw [ess]; exact List.mem_cons_self))
        have hy := hs sy (List.mem_of_mem_take (by rw [ess]; exact List.mem_cons_of_mem _ List.mem_cons_self))
        clear hs et exy ta aa1
        refine ⟨_, rfl, p3, _, 0, _, rfl, rfl, sl_of e4, at0, a, _, rfl, rfl, by omega, ⟨_, rfl⟩, _, _, rfl, rfl, rfl, by omega, fun p4 hp4 => ?_⟩
        rw [e47]
        refine ⟨_, rfl, slice_to (k := 2) rfl upd_same fun p5 H5 hp5 g5 e5 => ?_⟩
        rw [ess] at e5
        have g45 := (Gr.new hp4).trans g5
        clear ess e47 la1 t1 l1
        refine ⟨_, rfl, _, rfl, slice_from (k := 1) rfl (g45 _ _ e4) fun p6 H6 hp6 g6 e6 => ⟨p6, r, rfl, e6, lr, by omega, fun vm H7 g7 om => ⟨_, _, rfl, ?_⟩⟩⟩
        have e57 : H7 p5 = some (.lst [.str sx, .str sy]) := g7 _ _ (g6 _ _ e5)
        have e47 := (g45.trans (g6.trans g7)) _ _ e4
        have g07 := g04.trans (g45.trans (g6.trans g7))
        have ats : atI [V.str sx, V.str sy] 1 = some (.str sy) := atI_nat (j := 1) rfl
        have lz : sizeLine = sizeLine := rfl
        clear e6 e5 g45 g4 e4
        generalize moT r = mo at q om
        refine ⟨fun b H' => Gr H7 H' ∧ ((b = true ∧ (mo = none ∨ shareU (tl a) = none)) ∨ (b = false ∧ ∃ m, mo = some m ∧ decide (1 < (tl a).count 47) = false ∧ numL (tl sx) = true ∧ figL (tl sy) = true)), ?_, fun b H8 hb => ?_⟩
        · refine ⟨_, rfl, rfl, _, rfl, ?_⟩
          cases mo with
          | none =>
            cases om
            exact iteT rfl ⟨Gr.rfl' _, .inl ⟨rfl, .inl rfl⟩⟩
          | some m =>
            have vn : decide (vm = V.non) = false := by
              obtain ⟨b, vs', rfl, _⟩ := dp_tuple om
              rfl
            refine iteF vn ⟨_, rfl, p3, _, 0, _, rfl, rfl, sl_of e47, at0, rfl, a, _, rfl, rfl, _, _, rfl, rfl, _, rfl, ?_⟩
            have ec : Txt.count a "/" = ((tl a).count 47 : Nat) := count_one a 47
            rw [ec]
            refine ite2 (fun c => ?_) (fun c => ?_)
            · refine ⟨Gr.rfl' _, .inl ⟨rfl, .inr ?_⟩⟩
              rw [eS, decide_eq_true (p := 1 < (tl a).count 47) (by have := dT c; omega)] <;> rfl
            · have c1 : ¬ 1 < (tl a).count 47 := by
                have := dF c
                omega
              refine ⟨_, rfl, p5, _, 0, _, rfl, rfl, sl_of e57, at0, sx, rfl, by omega, hx.1, fun H8 g8 => ⟨_, rfl, ?_⟩⟩
              refine ite2 (fun c2 => ?_) (fun c2 => ?_)
              · refine ⟨g8, .inl ⟨rfl, .inr ?_⟩⟩
                rw [eS]
                have : numL (tl sx) = false := by
                  cases h : numL (tl sx) with
                  | false => rfl
                  | true => rw [h] at c2; cases c2
                rw [this, Bool.and_false] <;> rfl
              · have n1 : numL (tl sx) = true := by
                  cases h : numL (tl sx) with
                  | true => rfl
                  | false => rw [h] at c2; cases c2
                refine ⟨_, rfl, p5, _, 1, _, rfl, rfl, sl_of (g8 _ _ e57), ats, sy, rfl, by omega, hy.1, fun H9 g9 => ⟨_, rfl, g8.trans g9, ?_⟩⟩
                cases h : figL (tl sy) with
                | false =>
                  refine .inl ⟨rfl, .inr ?_⟩
                  rw [eS, h, Bool.false_and, Bool.and_false] <;> rfl
                | true => exact .inr ⟨rfl, m, rfl, decide_eq_false c1, n1, rfl⟩
        · obtain ⟨g8, ⟨rfl, hN⟩ | ⟨rfl, m, rfl, c1, n1, f1⟩⟩ := hb
          · refine iteT rfl (q .non _ (g07.trans g8) ?_)
            rcases hN with h | h
            · subst h
              cases shareU (tl a) with
              | none => rfl
              | some s => cases countU (tl v) <;> rfl
            · rw [h] <;> rfl
          · refine iteF rfl ?_
            rw [eS, c1, n1, f1, eC] at q
            clear eS eC
            have e58 := g8 _ _ e57
            have e48 := g8 _ _ e47
            have g08 := g07.trans g8
            refine ⟨fun b H' => Gr H8 H' ∧ b = !(!decide (tl sy = [48]) && (figL (tl pl) && decide ((tl pl).length ≤ 2) && numL (tl bs))), ?_, fun b H9 hb => ?_⟩
            · refine ⟨_, rfl, p5, _, 1, _, rfl, rfl, sl_of e58, ats, rfl, _, rfl, ?_⟩
              have e0 : decide (V.str sy = V.str "0") = decide (tl sy = [48]) := decide_eq_decide.mpr ⟨fun h => congrArg tl (V.str.inj h), fun h => by rw [show sy = "0" from str_eq.mpr h]⟩
              show if decide (V.str sy = V.str "0") = true then _ else _
              rw [e0]
              refine ite2 (fun c => ?_) (fun c => ?_)
              · rw [c]
                exact ⟨Gr.rfl' _, rfl⟩
              · rw [c]
                refine ⟨_, rfl, pl, rfl, by omega, apl, fun H9 g9 => ⟨_, rfl, ?_⟩⟩
                refine ite2 (fun c2 => ?_) (fun c2 => ?_)
                · have f2 : figL (tl pl) = false := by
                    cases h : figL (tl pl) with
                    | false => rfl
                    | true => rw [h] at c2; cases c2
                  rw [f2]
                  exact ⟨g9, rfl⟩
                · have f2 : figL (tl pl) = true := by
                    cases h : figL (tl pl) with
                    | true => rfl
                    | false => rw [h] at c2; cases c2
                  rw [f2]
                  refine ⟨_, rfl, pl, rfl, by omega, _, _, rfl, rfl, _, rfl, ?_⟩
                  have lpl2 := len_tl pl
                  refine ite2 (fun c3 => ?_) (fun c3 => ?_)
                  · have := dT c3
                    rw [decide_eq_false (p := (tl pl).length ≤ 2) (by omega)]
                    exact ⟨g9, rfl⟩
                  · have := dF c3
                    rw [decide_eq_true (p := (tl pl).length ≤ 2) (by omega)]
                    refine ⟨_, rfl, bs, rfl, by omega, abs, fun H10 g10 => ⟨_, rfl, g9.trans g10, ?_⟩⟩
                    cases numL (tl bs) <;> rfl
            · obtain ⟨g9, rfl⟩ := hb
              have g09 := g08.trans g9
              have e59 := g9 _ _ e58
              refine ite2 (fun c => ?_) (fun c => ?_)
              · refine q .non _ g09 ?_
                cases h0 : (!decide (tl sy = [48])) with
                | false => rfl
                | true =>
                  rw [h0, Bool.true_and] at c
                  cases h1 : (figL (tl pl) && decide ((tl pl).length ≤ 2) && numL (tl bs)) with
                  | false => rfl
                  | true => rw [h1] at c; cases c
              · have hg : (!decide (tl sy = [48])) = true ∧ (figL (tl pl) && decide ((tl pl).length ≤ 2) && numL (tl bs)) = true := by
                  rw [← Bool.and_eq_true]
                  cases h : (!decide (tl sy = [48]) && (figL (tl pl) && decide ((tl pl).length ≤ 2) && numL (tl bs))) with
                  | true => rfl
                  | false => rw [h] at c; cases c
                rw [hg.1, hg.2] at q
                have h2 := hg.2
                simp only [Bool.and_eq_true] at h2
                have np : numL (tl pl) = true := by
                  unfold numL
                  rw [h2.1.1] <;> rfl
                have ny : numL (tl sy) = true := by
                  unfold numL
                  rw [f1] <;> rfl
                obtain ⟨a1, a2⟩ := val_text np
                obtain ⟨b1, b2⟩ := val_text h2.2
                obtain ⟨c1', c2'⟩ := val_text n1
                obtain ⟨d1, d2⟩ := val_text ny
                refine ⟨_, rfl, _, rfl, pl, _, rfl, a1, a2, _, rfl, bs, _, rfl, b1, b2, by show 3 ≤ sizeLine; decide, fun t1 ht1 => ?_⟩
                refine ⟨_, rfl, p5, _, 0, _, rfl, rfl, sl_of ((Gr.new ht1) _ _ e59), at0, sx, _, rfl, c1', c2', _, rfl, p5, _, 1, _, rfl, rfl, sl_of ((Gr.new ht1) _ _ e59), ats, sy, _, rfl, d1, d2, by show 2 ≤ sizeLine; decide, fun t2 ht2 => ⟨by show 2 ≤ sizeLine; decide, fun t3 ht3 => ?_⟩⟩
                have ga := Gr.new (o := .tup [vm, .int (valL (tl pl)), .int (valL (tl bs))]) ht1
                have gb := Gr.new (o := .tup [.int (valL (tl sx)), .int (valL (tl sy))]) ht2
                have gc := Gr.new (o := .tup [.ref t1, .ref t2]) ht3
                refine q _ _ (g09.trans (ga.trans (gb.trans gc))) ?_
                refine .tup (st_of upd_same) (.cons (.tup ((gb.trans gc).st (st_of upd_same)) (.cons (Dp.gr ((g8.trans g9).trans (ga.trans (gb.trans gc))) _ _ om) (.cons (.int _) (.cons (.int _) .nil)))) (.cons (.tup (gc.st (st_of upd_same)) (.cons (.int _) (.cons (.int _) .nil))) .nil))
end
end K86
set_option Elab.async false
set_option linter.all false
set_option maxRecDepth 100000
set_option maxHeartbeats 4000000
/-! sums of terms, plain -/
namespace K86
open PySem PySem.Spec PyProof.Rows L2
/-- a key's entry changed, in its place or at the end -/
def upA {κ β : Type} [DecidableEq κ] : List (κ × β) → κ → (Option β → β) → List (κ × β)
  | [], k, f => [(k, f none)]
  | x :: r, k, f => if x.1 = k then (k, f (some x.2)) :: r else x :: upA r k f
def getA {κ β : Type} [DecidableEq κ] : List (κ × β) → κ → Option β
  | [], _ => none
  | x :: r, k => if x.1 = k then some x.2 else getA r k
section
variable {κ β : Type} [DecidableEq κ]
theorem upA_len (k : κ) (f : Option β → β) : ∀ l : List (κ × β), (upA l k f).length ≤ l.length + 1
  | [] => Nat.le_refl _
  | x :: r => by
    unfold upA
    split
    · exact Nat.le_succ _
    · exact Nat.succ_le_succ (upA_len k f r)
theorem upA_mem {k : κ} {f : Option β → β} : ∀ {l : List (κ × β)} {z : κ × β}, z ∈ upA l k f → z = (k, f (getA l k)) ∨ z ∈ l
  | [], z, h => .inl (List.mem_singleton.mp h)
  | x :: r, z, h => by
    unfold upA at h
    unfold getA
    split at h
    · rename_i e
      rw [if_pos e]
      rcases List.mem_cons.mp h with h | h
      · exact .inl h
      · exact .inr (List.mem_cons_of_mem _ h)
    · rename_i e
      rw [if_neg e]
      rcases List.mem_cons.mp h with h | h
      · exact .inr (by rw [h]; exact List.mem_cons_self)
      · rcases upA_mem h with h | h
        · exact .inl h
        · exact .inr (List.mem_cons_of_mem _ h)
theorem getA_mem {k : κ} {b : β} : ∀ {l : List (κ × β)}, getA l k = some b → (k, b) ∈ l
  | x :: r, h => by
    unfold getA at h
    split at h
    · rename_i e
      cases h
      rw [← e]
      exact List.mem_cons_self
    · exact List.mem_cons_of_mem _ (getA_mem h)
/-- keys each but once -/
def Uni (l : List (κ × β)) : Prop := (l.map (·.1)).Nodup
theorem upA_keys (k : κ) (f : Option β → β) : ∀ l : List (κ × β), (upA l k f).map (·.1) = if k ∈ l.map (·.1) then l.map (·.1) else l.map (·.1) ++ [k]
  | [] => by simp [upA]
  | x :: r => by
    unfold upA
    by_cases e : x.1 = k
    · rw [if_pos e, if_pos (by rw [List.map_cons, e]; exact List.mem_cons_self), List.map_cons, List.map_cons, e]
    · rw [if_neg e, List.map_cons, List.map_cons, upA_keys k f r]
      by_cases h : k ∈ r.map (·.1)
      · rw [if_pos h, if_pos (List.mem_cons_of_mem _ h)]
      · rw [if_neg h, if_neg (fun h2 => (List.mem_cons.mp h2).elim (fun h3 => e h3.symm) h)] <;> rfl
theorem upA_uni {l : List (κ × β)} (h : Uni l) (k : κ) (f : Option β → β) : Uni (upA l k f) := by
  unfold Uni
  rw [upA_keys]
  split
  · exact h
  · rename_i hn
    refine List.nodup_append.mpr ⟨h, by simp, fun a ha b hb e => hn ?_⟩
    rw [List.mem_singleton.mp hb] at e
    rw [← e]
    exact ha
theorem uni_keyed {l : List (κ × β)} (h : Uni l) : keyed l := by
  induction l with
  | nil => intro x hx; cases hx
  | cons a r ih =>
    unfold Uni at h
    rw [List.map_cons, List.nodup_cons] at h
    intro x hx y hy e
    rcases List.mem_cons.mp hx with rfl | hx'
    · rcases List.mem_cons.mp hy with rfl | hy'
      · rfl
      · exact absurd (List.mem_map.mpr ⟨y, hy', e.symm⟩) h.1
    · rcases List.mem_cons.mp hy with rfl | hy'
      · exact absurd (List.mem_map.mpr ⟨x, hx', e⟩) h.1
      · exact ih h.2 x hx' y hy' e
end
/-- terms of words, a + between; what stops, its word from 1 -/
def terms {τ : Type} (term : Str → Option τ) : List Str → Nat → Except Nat (List τ)
  | [], i => .error (i + 1)
  | w :: r, i => match term w with
    | none => .error (i + 1)
    | some t => match r with
      | [] => .ok [t]
      | p :: r' => if p = "+" then (match terms term r' (i + 2) with
          | .ok ts => .ok (t :: ts)
          | .error e => .error e)
        else .error (i + 2)
def addP (l : List (Mo × Int)) (t : Mo × Int) : List (Mo × Int) := upA l t.1 fun o => o.getD 0 + t.2
def addQ (l : List (Kd × Int × Int)) (t : Kd × Int × Int) : List (Kd × Int × Int) := upA l t.1 fun o => addF (o.getD (0, 1)) t.2
def polyOf (l : List (Mo × Int)) : List (Mo × Int) := srtP (l.filter fun x => !decide (x.2 = 0))
def formOf (l : List (Kd × Int × Int)) : List (Kd × Int × Int) := srtF (l.filter fun x => !decide (x.2.1 = 0))
/-- the poly that the words from a place on tell -/
def polyW (ws : List Str) (i : Nat) : Except Nat (List (Mo × Int)) := match terms termT (ws.drop i) i with
  | .ok ts => .ok (polyOf (ts.foldl addP []))
  | .error e => .error e
def formW (ws : List Str) (i : Nat) : Except Nat (List (Kd × Int × Int)) := if (ws.drop i).take 1 = [("0" : Str)] then (if ws.length = i + 1 then .ok [] else .error (i + 2))
  else match terms pairU (ws.drop i) i with
  | .ok ts => .ok (formOf (ts.foldl addQ []))
  | .error e => .error e
/-! ### how great numbers get -/
def PolyOk (k : Nat) (l : List (Mo × Int)) : Prop := l.length ≤ k ∧ Uni l ∧ ∀ x ∈ l, x.2.natAbs ≤ k * 10 ^ 40
theorem PolyOk.add {k : Nat} {l : List (Mo × Int)} {t : Mo × Int} (h : PolyOk k l) (ht : t.2.natAbs < 10 ^ 40) : PolyOk (k + 1) (addP l t) := by
  refine ⟨Nat.le_trans (upA_len _ _ _) (Nat.succ_le_succ h.1), upA_uni h.2.1 _ _, fun x hx => ?_⟩
  have hh := h.2.2
  rw [Nat.add_mul, Nat.one_mul]
  generalize k * 10 ^ 40 = M at hh ⊢
  generalize 10 ^ 40 = B at ht ⊢
  rcases upA_mem hx with e | hx
  · rw [e]
    show (((getA l t.1).getD 0) + t.2).natAbs ≤ _
    cases q : getA l t.1 with
    | none =>
      show (0 + t.2).natAbs ≤ _
      omega
    | some n =>
      have := hh _ (getA_mem q)
      have h2 : n.natAbs ≤ M := this
      show (n + t.2).natAbs ≤ _
      omega
  · have := hh x hx
    omega
def FormOk (k : Nat) (l : List (Kd × Int × Int)) : Prop := l.length ≤ k ∧ Uni l ∧ ∀ x ∈ l, 0 < x.2.2 ∧ x.2.2.natAbs ≤ 10 ^ (40 * k) ∧ x.2.1.natAbs ≤ k * 10 ^ (40 * k)
theorem addF_le {x y : Int × Int} {k : Nat} (hx : 0 < x.2) (hy : 0 < y.2) (h1 : x.2.natAbs ≤ 10 ^ (40 * k)) (h2 : x.1.natAbs ≤ k * 10 ^ (40 * k)) (h3 : y.1.natAbs < 10 ^ 40) (h4 : y.2.natAbs < 10 ^ 40) :
    0 < (addF x y).2 ∧ (addF x y).2.natAbs ≤ 10 ^ (40 * (k + 1)) ∧ (addF x y).1.natAbs ≤ (k + 1) * 10 ^ (40 * (k + 1)) := by
  have hp := Int.mul_pos hx hy
  have e : 10 ^ (40 * (k + 1)) = 10 ^ (40 * k) * 10 ^ 40 := by rw [Nat.mul_add, Nat.mul_one, Nat.pow_add]
  obtain ⟨f1, f2⟩ := fr_le (a := x.1 * y.2 + y.1 * x.2) hp
  refine ⟨fr_pos hp, Nat.le_trans f2 ?_, Nat.le_trans f1 ?_⟩
  · rw [Int.natAbs_mul, e]
    exact Nat.mul_le_mul h1 (Nat.le_of_lt h4)
  · refine Nat.le_trans (Int.natAbs_add_le ..) ?_
    rw [Int.natAbs_mul, Int.natAbs_mul, e, Nat.add_mul, Nat.one_mul]
    refine Nat.add_le_add ?_ ?_
    · rw [← Nat.mul_assoc]
      exact Nat.mul_le_mul h2 (Nat.le_of_lt h4)
    · rw [Nat.mul_comm]
      exact Nat.mul_le_mul h1 (Nat.le_of_lt h3)
theorem pow_mono {k : Nat} : 10 ^ (40 * k) ≤ 10 ^ (40 * (k + 1)) := Nat.pow_le_pow_right (by decide) (by omega)
theorem FormOk.add {k : Nat} {l : List (Kd × Int × Int)} {t : Kd × Int × Int} (h : FormOk k l) (ht : 0 < t.2.2 ∧ t.2.1.natAbs < 10 ^ 40 ∧ t.2.2.natAbs < 10 ^ 40) : FormOk (k + 1) (addQ l t) := by
  refine ⟨Nat.le_trans (upA_len _ _ _) (Nat.succ_le_succ h.1), upA_uni h.2.1 _ _, fun x hx => ?_⟩
  rcases upA_mem hx with e | hx
  · rw [e]
    show 0 < (addF ((getA l t.1).getD (0, 1)) t.2).2 ∧ _
    cases q : getA l t.1 with
    | none => exact addF_le (x := (0, 1)) (by decide) ht.1 (Nat.one_le_pow _ _ (by decide)) (Nat.zero_le _) ht.2.1 ht.2.2
    | some n =>
      obtain ⟨a, b, c⟩ := h.2.2 _ (getA_mem q)
      exact addF_le a ht.1 b c ht.2.1 ht.2.2
  · obtain ⟨a, b, c⟩ := h.2.2 x hx
    exact ⟨a, Nat.le_trans b pow_mono, Nat.le_trans c (Nat.mul_le_mul (Nat.le_succ k) pow_mono)⟩
theorem termT_lt {z : Str} {t : Mo × Int} (h : termT z = some t) : t.2.natAbs < 10 ^ 40 := by
  unfold termT at h
  split at h
  · cases h
  · rename_i a r _
    cases q : numOf (tl a) with
    | none => rw [q] at h; cases h
    | some n =>
      rw [q] at h
      dsimp only at h
      split at h
      · cases h
        exact numOf_lt q
      · cases h
theorem pairOf_lt {u v : Str} {t : Kd × Int × Int} (h : pairOf u v = some t) : 0 < t.2.2 ∧ t.2.1.natAbs < 10 ^ 40 ∧ t.2.2.natAbs < 10 ^ 40 := by
  unfold pairOf at h
  split at h
  · cases h
  · rename_i a r _
    cases q1 : shareU (tl a) with
    | none => rw [q1] at h; cases h
    | some s =>
      cases q2 : countU (tl v) with
      | none => rw [q1, q2] at h; cases h
      | some c =>
        cases q3 : moT r with
        | none => rw [q1, q2, q3] at h; cases h
        | some m =>
          rw [q1, q2, q3] at h
          cases h
          exact shareU_ok q1
theorem pairU_lt {z : Str} {t : Kd × Int × Int} (h : pairU z = some t) : 0 < t.2.2 ∧ t.2.1.natAbs < 10 ^ 40 ∧ t.2.2.natAbs < 10 ^ 40 := by
  unfold pairU at h
  split at h
  · cases h
  · exact pairOf_lt h
end K86
set_option Elab.async false
set_option linter.all false
set_option maxRecDepth 100000
set_option maxHeartbeats 4000000
/-! dicts with nested keys, their values data -/
namespace K86
open PySem PySem.Spec PyProof.Rows L2
section
variable {P : Program} {w : World} {K : PySem.W.Frag} {κ β : Type} [DecidableEq κ] {E : KEnc κ} {vD : β → PyData}
def VRel (K : PySem.W.Frag) (vD : β → PyData) (H : Hp) (x : κ × Addr × V) (y : κ × β) : Prop := x.1 = y.1 ∧ Dp K H x.2.2 (vD y.2)
def DN (P : Program) (w : World) (K : PySem.W.Frag) (E : KEnc κ) (vD : β → PyData) (H : Hp) (d : Addr) (l : List (κ × β)) : Prop :=
  ∃ xs, H d = some (kdO P w E d xs) ∧ Keys E K H xs ∧ Paired (VRel K vD H) xs l
theorem DN.new {H : Hp} {d : Addr} (h : H d = some (kdO P w E d [])) : DN P w K E vD H d ([] : List (κ × β)) := ⟨[], h, (fun x hx => by cases hx), .nil⟩
theorem DN.gr {H H1 : Hp} {d : Addr} {l : List (κ × β)} (h : DN P w K E vD H d l) (g : Gr H H1) : DN P w K E vD H1 d l := by
  obtain ⟨xs, e, k, p⟩ := h
  refine ⟨xs, g _ _ e, k.gr g, ?_⟩
  clear e k
  induction p with
  | nil => exact .nil
  | cons r t ih => exact .cons ⟨r.1, Dp.gr g _ _ r.2⟩ ih
theorem paired_len {α γ : Type} {R : α → γ → Prop} : ∀ {xs : List α} {ys : List γ}, Paired R xs ys → xs.length = ys.length
  | _, _, .nil => rfl
  | _, _, .cons _ t => by rw [List.length_cons, List.length_cons, paired_len t]
theorem getN_rel {H : Hp} {k : κ} : ∀ {xs : List (κ × Addr × V)} {l : List (κ × β)}, Paired (VRel K vD H) xs l → (getA l k = none ∧ getN xs k = none) ∨ ∃ b v, getA l k = some b ∧ getN xs k = some v ∧ Dp K H v (vD b)
  | _, _, .nil => .inl ⟨rfl, rfl⟩
  | _, _, .cons (a := x) (b := y) r t => by
    have ih := getN_rel (k := k) t
    unfold getA getN
    rw [List.find?_cons]
    by_cases e : y.1 = k
    · rw [if_pos e]
      refine .inr ⟨y.2, x.2.2, rfl, ?_, r.2⟩
      rw [decide_eq_true (show x.1 = k by rw [r.1, e])] <;> rfl
    · rw [if_neg e, decide_eq_false (show ¬ x.1 = k by rw [r.1]; exact e)]
      exact ih
theorem put_none {k : κ} {f : Option β → β} : ∀ {l : List (κ × β)}, getA l k = none → upA l k f = l ++ [(k, f none)]
  | [], _ => rfl
  | x :: r, h => by
    unfold getA at h
    unfold upA
    by_cases e : x.1 = k
    · rw [if_pos e] at h; cases h
    · rw [if_neg e] at h ⊢
      rw [put_none h] <;> rfl
theorem put_map {H : Hp} {k : κ} {v : V} {f : Option β → β} : ∀ {xs : List (κ × Addr × V)} {l : List (κ × β)} {b : β}, Paired (VRel K vD H) xs l → Uni l → getA l k = some b → Dp K H v (vD (f (some b))) →
    Paired (VRel K vD H) (xs.map fun x => if x.1 = k then (x.1, x.2.1, v) else x) (upA l k f)
  | _, _, _, .nil, _, h, _ => by cases h
  | _, _, _, .cons (a := x) (b := y) r t, u, h, hv => by
    unfold getA at h
    unfold upA
    unfold Uni at u
    rw [List.map_cons, List.nodup_cons] at u
    rw [List.map_cons]
    by_cases e : y.1 = k
    · rw [if_pos e] at h
      cases h
      rw [if_pos e, if_pos (show x.1 = k by rw [r.1, e])]
      refine .cons ⟨by show x.1 = k; rw [r.1, e], hv⟩ ?_
      have u1 := u.1
      rw [e] at u1
      clear hv r u e
      induction t with
      | nil => exact .nil
      | cons r2 t2 ih =>
        rw [List.map_cons] at u1
        rw [List.map_cons, if_neg (fun e3 => u1 (List.mem_cons.mpr (.inl (by rw [← r2.1, e3]))))]
        exact .cons r2 (ih fun h => u1 (List.mem_cons_of_mem _ h))
    · rw [if_neg e] at h ⊢
      rw [if_neg (show ¬ x.1 = k by rw [r.1]; exact e)]
      exact .cons r (put_map t u.2 h hv)
theorem paired_snoc {α γ : Type} {R : α → γ → Prop} {x : α} {y : γ} : ∀ {xs : List α} {ys : List γ}, Paired R xs ys → R x y → Paired R (xs ++ [x]) (ys ++ [y])
  | _, _, .nil, r => .cons r .nil
  | _, _, .cons r t, q => .cons r (paired_snoc t q)
theorem put_data {H : Hp} {k : κ} {a : Addr} {v : V} {f : Option β → β} {xs : List (κ × Addr × V)} {l : List (κ × β)} (p : Paired (VRel K vD H) xs l) (u : Uni l) (hv : Dp K H v (vD (f (getA l k)))) : Paired (VRel K vD H) (putN xs k a v) (upA l k f) := by
  unfold putN
  rcases getN_rel (k := k) p with ⟨e1, e2⟩ | ⟨b, v', e1, e2, _⟩
  · rw [e2, if_neg (by simp), put_none e1]
    rw [e1] at hv
    exact paired_snoc p ⟨rfl, hv⟩
  · rw [e2, if_pos (show (some v').isSome = true from rfl)]
    rw [e1] at hv
    exact put_map p u e1 hv
/-- a key's entry changed -/
theorem DN.put {H : Hp} {d : Addr} {l : List (κ × β)} {k : κ} {a : Addr} {v : V} {f : Option β → β} {xs : List (κ × Addr × V)} (hn : ∀ b, nl (vD b) = true) (e : H d = some (kdO P w E d xs)) (hk : Keys E K H xs) (p : Paired (VRel K vD H) xs l) (u : Uni l) (dk : Dp K H (.ref a) (E.D k)) (hv : Dp K H v (vD (f (getA l k)))) :
    DN P w K E vD (upd H d (kdO P w E d (putN xs k a v))) d (upA l k f) := by
  have kput : Kt H (upd H d (kdO P w E d (putN xs k a v))) := Kt.put (by rw [e]; exact kd_not)
  refine ⟨_, upd_same, (hk.put dk).kt kput, ?_⟩
  have := put_data (a := a) p u hv
  revert this
  generalize upd H d (kdO P w E d (putN xs k a v)) = H2 at kput
  generalize putN xs k a v = ys
  generalize upA l k f = m
  intro p2
  induction p2 with
  | nil => exact .nil
  | cons r t ih => exact .cons ⟨r.1, Dp.kt kput _ _ (hn _) r.2⟩ ih
theorem getA_pair {H : Hp} : ∀ {xs : List (κ × Addr × V)} {l : List (κ × β)}, Paired (VRel K vD H) xs l → Uni l → ∀ x ∈ xs, ∃ b, getA l x.1 = some b ∧ (x.1, b) ∈ l ∧ Dp K H x.2.2 (vD b)
  | _, _, .nil, _, x, h => by cases h
  | _, _, .cons (a := x0) (b := y) r t, u, x, h => by
    unfold Uni at u
    rw [List.map_cons, List.nodup_cons] at u
    unfold getA
    rcases List.mem_cons.mp h with rfl | h
    · rw [if_pos r.1.symm]
      exact ⟨y.2, rfl, by rw [r.1]; exact List.mem_cons_self, r.2⟩
    · obtain ⟨b, e, hm, dp⟩ := getA_pair t u.2 x h
      rw [if_neg fun e2 => u.1 (by rw [e2]; exact List.mem_map.mpr ⟨_, hm, rfl⟩)]
      exact ⟨b, e, List.mem_cons_of_mem _ hm, dp⟩
theorem filt_rel {H : Hp} {vd : κ × Addr × V → PyData} {c : κ × Addr × V → Bool} {c' : κ × β → Bool} : ∀ {xs : List (κ × Addr × V)} {l : List (κ × β)}, Paired (VRel K vD H) xs l → (∀ x y, x ∈ xs → y ∈ l → VRel K vD H x y → vd x = vD y.2 ∧ c x = c' y) →
    ((xs.filter c).map fun x => PyData.tuple [E.D x.1, vd x]) = (l.filter c').map fun y => .tuple [E.D y.1, vD y.2]
  | _, _, .nil, _ => rfl
  | _, _, .cons (a := x) (b := y) r t, h => by
    have ih := filt_rel t fun x y hx hy => h x y (List.mem_cons_of_mem _ hx) (List.mem_cons_of_mem _ hy)
    obtain ⟨e1, e2⟩ := h x y List.mem_cons_self List.mem_cons_self r
    rw [List.filter_cons, List.filter_cons, e2]
    split
    · rw [List.map_cons, List.map_cons, ih, e1, r.1]
    · exact ih
/-- the entries that are so -/
theorem items_data {td : TE} {tt : TT} {a b : Nat} {σ : L2.St} {H0 : Hp} {d : Addr} {l : List (κ × β)} {vs : List Nat} {Q : VK} (hn : ∀ b, nl (vD b) = true) (hd : DN P w K E vD H0 d l) (hz : l.length < sizeLine) (u : Uni l) (c' : κ × β → Bool)
    (htd : ∀ (od : Obj) (xs : List (κ × Addr × V)) (R : VK), R (.ref d) (upd H0 d (.frz od (kdO P w E d xs))) → td σ (upd H0 d (.frz od (kdO P w E d xs))) R)
    (hw : ∀ v1 v2, wipe (((wipe σ vs).set a (some v1)).set b (some v2)) vs = wipe σ vs) (ha : ∀ v1 v2, (((wipe σ vs).set a (some v1)).set b (some v2))[a]? = some (some v1)) (hb : ∀ v1 v2, (((wipe σ vs).set a (some v1)).set b (some v2))[b]? = some (some v2))
    (htt : ∀ (y : κ × β) (p : Addr) (v : V), y ∈ l → Dp K H0 v (vD y.2) → ∀ (H2 : Hp) (C : Bool → Hp → Prop), (∀ y d, nl d = true → Dp K H0 y d → Dp K H2 y d) → (∀ H3, Gr H2 H3 → C (c' y) H3) → tt (((wipe σ vs).set a (some (.ref p))).set b (some v)) H2 C)
    (q : ∀ (D : Addr) (H' : Hp) (ys : List V), H0 D = none → Gr H0 H' → H' D = some (.lst ys) → DpAll K H' ys ((l.filter c').map fun y => .tuple [E.D y.1, vD y.2]) → Q (.ref D) H') :
    tLockE (tLc (iItN P w E td) (gTup K 2 (gCons (gName a) (gCons (gName b) gNil))) tt (tTup (tCons (tVar a) (tCons (tVar b) tNil))) vs) σ H0 Q := by
  obtain ⟨xs, e, hk, p⟩ := hd
  have hl := paired_len p
  have key := getA_pair p u
  have ku := uni_keyed u
  refine items_list e (by omega) hk (fun x => ((getA l x.1).map vD).getD .none) (fun x hx => ?_) (fun x => match getA l x.1 with | some b => c' (x.1, b) | none => false) (fun od R h => htd od xs R h) hw ha hb (fun x hx H2 C hC h => ?_) (fun D H' ys hD g eD dp => ?_)
  · obtain ⟨b, e1, _, dv⟩ := key x hx
    rw [e1]
    exact ⟨dv, hn b⟩
  · obtain ⟨b, e1, hm, dv⟩ := key x hx
    rw [e1] at h
    exact htt (x.1, b) x.2.1 x.2.2 hm dv H2 C hC h
  · refine q D H' ys hD g eD ?_
    rw [← filt_rel (E := E) (vD := vD) (c' := c') (K := K) (H := H0) p (vd := fun x => ((getA l x.1).map vD).getD .none) (c := fun x => match getA l x.1 with | some b => c' (x.1, b) | none => false) fun x y hx hy r => ?_]
    · exact dp
    · obtain ⟨b, e1, hm, _⟩ := key x hx
      have : (x.1, b) = y := ku _ hm _ hy r.1
      rw [e1, ← this]
      exact ⟨rfl, rfl⟩
end
end K86
set_option Elab.async false
set_option linter.all false
set_option maxRecDepth 100000
set_option maxHeartbeats 4000000
/-! polys of dicts -/
namespace K86
open PySem PySem.Spec PyProof.Rows L2
theorem dec_V (n m : Int) : decide (V.int n = V.int m) = decide (n = m) := decide_eq_decide.mpr ⟨fun h => V.int.inj h, fun h => by rw [h]⟩
def absI (n : Int) : Int := if n < 0 then -n else n
theorem absI_le {n : Int} {m : Nat} (h : n.natAbs ≤ m) : absI n ≤ m := by
  unfold absI
  split <;> omega
section
variable {P : Program} {w : World} {K : PySem.W.Frag} {mg : Str → Option Value} {base : Heap}
def sp_poly_of (P : Program) (w : World) (K : PySem.W.Frag) : Sp := fun vs H Q _ => ∃ (d : Addr) (l : List (Mo × Int)), vs = [.ref d] ∧ DN P w K eM PyData.int H d l ∧ PolyOk 60 l ∧
  ∀ (p : Addr) (H' : Hp), Gr H H' → Dp K H' (.ref p) (polyD (polyOf l)) → Q (.ref p) H'
theorem sc_poly_of : FnScope ["found", "poly", "mono", "number"] ["found"] (defScope s_poly_of) := ⟨rfl, rfl, rfl, by decide +kernel, rfl, by decide +kernel, by decide +kernel⟩
theorem ok_poly_of (T : Tx K mg) : Fn P w K mg base CX0 1 "poly_of" ["found"] (sp_poly_of P w K) := by
  refine Fn.of T.f_poly_of sc_poly_of (fun _ _ _ _ _ _ us hl => match us, hl with | [_], _ => rfl) (fun vs H Q E h => ?_) (fun f cdv A outer s H vs Q E hr h => ⟨_, PSs.nox (pss_cons (ps_set (i := 1) sc_poly_of.nd rfl (Or.inl rfl) (pe_callTy call_tuple_of (by rfl) T.b_tuple (by decide +kernel) (pa_cons (pe_callB (cr_sortedDt hr.units) (by rfl) T.b_sorted (by decide +kernel) (pa_cons (pe_lock (pe_lc (own := [("mono", 2), ("number", 3)]) (g := (gTup K 2 (gCons (gName 2) (gCons (gName 3) gNil)))) (tt := _) (by rfl) sc_poly_of.nd (pi_itemsN eM (pv 0)) (blkOk_by (own := [("mono", 2), ("number", 3)]) (N := ["found", "poly", "mono", "number"]) (sc := defScope s_poly_of) (by decide +kernel)) (fun _ _ _ _ _ => (pg_tup rfl (pgs_cons (pg_name (i := 2) sc_poly_of.nd rfl (Or.inl rfl)) (pgs_cons (pg_name (i := 3) sc_poly_of.nd rfl (Or.inl rfl)) pgs_nil)))) (fun _ _ _ _ _ => (pts_one (pt_cmpR op_ne (pv 3) pe_int (nomark _)))) (fun _ _ _ _ _ => (pe_tup (pa_cons (pv 2) (pa_cons (pv 3) pa_nil)))))) pa_nil)) pa_nil)))
  (pss_cons (ps_if (pt_cmpR op_gt (pe_callB call_len_seq (by rfl) T.b_len (by decide +kernel) (pa_cons (pv 1) pa_nil)) (pe_gv T.c_MOST_TERMS) (nomark _)) (pss_one ps_never) pss_nil)
  (pss_cons (ps_if (pt_val (pe_callB (cr_any rfl) (by rfl) T.b_any (by decide +kernel) (pa_cons (pe_lc (own := [("mono", 2), ("number", 3)]) (g := (gTup K 2 (gCons (gName 2) (gCons (gName 3) gNil)))) (tt := tYes) (by rfl) sc_poly_of.nd (pi_tup (pv 1)) (blkOk_by (own := [("mono", 2), ("number", 3)]) (N := ["found", "poly", "mono", "number"]) (sc := defScope s_poly_of) (by decide +kernel)) (fun _ _ _ _ _ => (pg_tup rfl (pgs_cons (pg_name (i := 2) sc_poly_of.nd rfl (Or.inl rfl)) (pgs_cons (pg_name (i := 3) sc_poly_of.nd rfl (Or.inl rfl)) pgs_nil)))) (fun _ _ _ _ _ => pts_nil) (fun _ _ _ _ _ => (pe_cmpR op_gt (pe_callB call_abs (by rfl) T.b_abs (by decide +kernel) (pa_cons (pv 3) pa_nil)) (pe_gv T.c_MOST_NUMBER) (nomark _)))) pa_nil))) (pss_one ps_never) pss_nil)
  (pss_one (ps_ret (pv 1)))))), ?_⟩)
  · obtain ⟨z, l, rfl, hz⟩ := h
    rfl
  · obtain ⟨d, l, rfl, hd, ok, q⟩ := h
    have lp : (polyOf l).length ≤ 60 := by
      unfold polyOf
      rw [len_srtP]
      exact Nat.le_trans (List.length_filter_le _ _) ok.1
    have op : ∀ x ∈ polyOf l, x.2.natAbs ≤ 60 * 10 ^ 40 := fun x hx => ok.2.2 x (List.mem_filter.mp (mem_srtP.mp hx)).1
    refine items_data (fun _ => rfl) hd (Nat.lt_of_le_of_lt ok.1 (by decide)) ok.2.1 (fun x => !decide (x.2 = 0)) (fun od xs R h => ⟨_, rfl, h⟩) (fun _ _ => rfl) (fun _ _ => rfl) (fun _ _ => rfl) (fun y p v hy dv H2 C _ h => ?_) (fun D H2 ys hD g2 eD dD => ?_)
    · rw [dp_int dv]
      refine ⟨_, rfl, rfl, _, rfl, ?_⟩
      rw [dec_V]
      exact h _ (Gr.rfl' _)
    · have dD' : DpAll K H2 ys ((l.filter fun x => !decide (x.2 = 0)).map termD) := dD
      refine ⟨D, ys, _, rfl, sl_of eD, dD', srtOk_term _, fun zs p H3 hp eH3 dz => ?_⟩
      subst eH3
      rw [srtP_map] at dz
      have dz' : DpAll K H2 zs ((polyOf l).map termD) := dz
      refine ⟨p, zs, rfl, .inl ⟨sl_of upd_same, fun t ht => ?_⟩⟩
      have lz : zs.length = (polyOf l).length := by rw [DpAll.length dz', List.length_map]
      have gt := (g2.trans (Gr.new hp)).trans (Gr.new (o := .tup zs) ht)
      have dt := DpAll.gr ((Gr.new hp).trans (Gr.new (o := .tup zs) ht)) _ _ dz'
      have et : SqT K (upd (upd H2 p (.lst zs)) t (.tup zs)) t zs := st_of upd_same
      generalize upd (upd H2 p (.lst zs)) t (.tup zs) = H4 at gt dt et
      clear dz dz' dD dD' eD ht hp
      refine ⟨_, rfl, t, _, rfl, .inr et, _, _, rfl, rfl, _, rfl, iteF (decide_eq_false (by omega)) ?_⟩
      refine ⟨_, rfl, t, rfl, ⟨_, et⟩, fun D5 hD5 => lc_gr walk_tup hD5 (fun i => ((polyOf l).take i).map fun x => V.bl (decide ((10 ^ 50) ^ 20 < absI x.2))) rfl (fun i hi => ?_) (fun H g => g.st et) (fun i x H5 H6 hi g5 y C C0 h1 h2 => ?_) (fun H5 g5 e5 => ?_)⟩
      · rw [List.length_map, List.length_take]
        exact Nat.lt_of_le_of_lt (Nat.le_trans (Nat.min_le_right _ _) lp) (by decide)
      · obtain ⟨rfl, hx⟩ := y
        obtain ⟨dd, hdd, dp⟩ := DpAll.get i dt hx
        rw [List.getElem?_map] at hdd
        cases ep : (polyOf l)[i]? with
        | none => rw [ep] at hdd; cases hdd
        | some y =>
          rw [ep] at hdd
          cases hdd
          obtain ⟨a, m, rfl, st, _⟩ := dp_term dp
          exact ⟨a, _, rfl, g5.st st, rfl, _, _, rfl, _, _, rfl, rfl, rfl, _, rfl, y.2, rfl, _, _, rfl, rfl, h1 _ _ (Gr.rfl' _) (take_map_snoc (fun x : Mo × Int => V.bl (decide ((10 ^ 50) ^ 20 < absI x.2))) ep)⟩
      · rw [lz, List.take_length] at e5
        have eb : ((polyOf l).map fun x => V.bl (decide ((10 ^ 50) ^ 20 < absI x.2))) = ((polyOf l).map fun x => decide ((10 ^ 50) ^ 20 < absI x.2)).map V.bl := by rw [List.map_map] <;> rfl
        have ef : ((polyOf l).map fun x => decide ((10 ^ 50) ^ 20 < absI x.2)).any id = false := by
          rw [List.any_map, List.any_eq_false]
          intro x hx h
          have h2 := of_decide_eq_true h
          have h3 := absI_le (op x hx)
          have h4 : ((60 * 10 ^ 40 : Nat) : Int) ≤ (10 ^ 50) ^ 20 := by decide +kernel
          exact absurd h2 (Int.not_lt.mpr (Int.le_trans h3 h4))
        refine ⟨D5, _, rfl, sl_of (by rw [← eb]; exact e5), _, rfl, iteF ef ?_⟩
        exact ⟨_, rfl, q t H5 (gt.trans g5) (.tup (g5.st et) (DpAll.gr g5 _ _ dt))⟩
end
end K86
set_option Elab.async false
set_option linter.all false
set_option maxRecDepth 100000
set_option maxHeartbeats 4000000
/-! forms of dicts -/
namespace K86
open PySem PySem.Spec PyProof.Rows L2
theorem form_lim {n : Nat} {l : List (Kd × Int × Int)} (ok : FormOk n l) (hn : n ≤ 20) : ∀ x ∈ l, 0 < x.2.2 ∧ x.2.2.natAbs ≤ 10 ^ 800 ∧ x.2.1.natAbs ≤ 20 * 10 ^ 800 := fun x hx => by
  obtain ⟨a, b, c⟩ := ok.2.2 x hx
  have hp : 10 ^ (40 * n) ≤ 10 ^ 800 := Nat.pow_le_pow_right (by decide) (by omega)
  exact ⟨a, Nat.le_trans b hp, Nat.le_trans c (Nat.mul_le_mul hn hp)⟩
theorem lt4000a {n : Nat} (h : n ≤ 10 ^ 800) : n < 2 ^ 4000 := Nat.lt_of_le_of_lt h (by decide +kernel)
theorem lt4000b {n : Nat} (h : n ≤ 20 * 10 ^ 800) : n < 2 ^ 4000 := Nat.lt_of_le_of_lt h (by decide +kernel)
theorem lt4000c {n : Nat} (h : n < 10 ^ 40) : n < 2 ^ 4000 := Nat.lt_trans h (by decide +kernel)
theorem vrel_gr {κ β : Type} {K : PySem.W.Frag} {vD : β → PyData} {H H1 : Hp} (g : Gr H H1) : ∀ {xs : List (κ × Addr × V)} {l : List (κ × β)}, Paired (VRel K vD H) xs l → Paired (VRel K vD H1) xs l
  | _, _, .nil => .nil
  | _, _, .cons r t => .cons ⟨r.1, Dp.gr g _ _ r.2⟩ (vrel_gr g t)
section
variable {P : Program} {w : World} {K : PySem.W.Frag} {mg : Str → Option Value} {base : Heap}
def sp_added (P : Program) (w : World) (K : PySem.W.Frag) : Sp := fun vs H Q _ => ∃ (d k s : Addr) (l : List (Kd × Int × Int)) (t : Kd × Int × Int) (n : Nat), vs = [.ref d, .ref k, .ref s] ∧ DN P w K eK shareD H d l ∧ FormOk n l ∧ n ≤ 20 ∧ Dp K H (.ref k) (kindD t.1) ∧ Dp K H (.ref s) (shareD t.2) ∧ (0 < t.2.2 ∧ t.2.1.natAbs < 10 ^ 40 ∧ t.2.2.natAbs < 10 ^ 40) ∧
  ∀ H', GrBut d H H' → DN P w K eK shareD H' d (addQ l t) → Q .non H'
theorem sc_added : FnScope ["found", "key", "share"] ["found", "key", "share"] (defScope s_added) := ⟨rfl, rfl, rfl, by decide +kernel, rfl, by decide +kernel, by decide +kernel⟩
theorem ok_added (T : Tx K mg) (F_plus : Fn P w K mg base CX0 3 "plus" ["one", "other"] (sp_plus K)) : Fn P w K mg base CX0 4 "added" ["found", "key", "share"] (sp_added P w K) := by
  refine Fn.of T.f_added sc_added (fun _ _ _ _ _ _ us hl => match us, hl with | [_, _, _], _ => rfl) (fun vs H Q E h => ?_) (fun f cdv A outer s H vs Q E hr h => ⟨_, PSs.nox (pss_one (ps_dputN eK hr.units (pv 0) (pv 1) (pe_fn F_plus (hr.mono (by omega)) (pa_cons (pe_dgetN eK hr.units (pv 0) (pv 1) (pe_gv T.g_NOUGHT) (by exact ⟨by rfl, by rfl, by rfl, by rfl⟩)) (pa_cons (pv 2) pa_nil))) rfl)), ?_⟩)
  · obtain ⟨d, k, s, l, t, n, rfl, hz⟩ := h
    rfl
  · obtain ⟨d, k, s, l, t, n, rfl, hd, ok, hn, dk, ds, ht, q⟩ := h
    obtain ⟨xs, ed, hk, hp⟩ := hd
    obtain ⟨c, es, sc⟩ := dp_share ds
    cases es
    have lx : xs.length < sizeLine := by
      rw [paired_len hp]
      exact Nat.lt_of_le_of_lt (Nat.le_trans ok.1 hn) (by decide)
    have fin_ : ∀ (p : Addr) (r : Int × Int), H p = none → r = addF ((getA l t.1).getD (0, 1)) t.2 → ∀ H1, H1 = upd H p (.tup [.int r.1, .int r.2]) →
        H1 d = some (kdO P w eK d xs) ∧ Keys eK K H1 xs ∧ Dp K H1 (.ref k) (kindD t.1) ∧ Q .non (upd H1 d (kdO P w eK d (putN xs t.1 k (.ref p)))) := by
      intro p r hp0 er H1 eH
      have g : Gr H H1 := by rw [eH]; exact Gr.new hp0
      have dr : Dp K H1 (.ref p) (shareD r) := .tup (st_of (by rw [eH]; exact upd_same)) (.cons (.int _) (.cons (.int _) .nil))
      have dk1 := Dp.gr g _ _ dk
      refine ⟨g _ _ ed, hk.gr g, dk1, q _ ((Gr.but g).trans GrBut.put) ?_⟩
      rw [er] at dr
      exact DN.put nl_share (g _ _ ed) (hk.gr g) (vrel_gr g hp) ok.2.1 dk1 dr
    have lim := form_lim ok hn
    rcases getN_rel (k := t.1) hp with ⟨e1, e2⟩ | ⟨b, v, e1, e2, dv⟩
    · refine ⟨_, rfl, d, rfl, ⟨xs, ed⟩, _, rfl, xs, k, t.1, rfl, ed, hk, dk, ?_⟩
      rw [e2]
      refine ⟨_, rfl, _, s, (0, 1), t.2, rfl, T.tupN H, sc, by decide, ht.1, ⟨Nat.pow_pos (by decide), Nat.one_lt_two_pow (by decide), lt4000c ht.2.1, lt4000c ht.2.2⟩, fun p hp0 => ?_⟩
      obtain ⟨f1, f2, f3, f4⟩ := fin_ p _ hp0 (by rw [e1] <;> rfl) _ rfl
      exact ⟨_, rfl, _, rfl, d, xs, k, t.1, rfl, rfl, f1, f2, f3, lx, f4⟩
    · obtain ⟨a, rfl, sa⟩ := dp_share dv
      obtain ⟨m1, m2, m3⟩ := lim _ (getA_mem e1)
      refine ⟨_, rfl, d, rfl, ⟨xs, ed⟩, _, rfl, xs, k, t.1, rfl, ed, hk, dk, ?_⟩
      rw [e2]
      refine ⟨_, rfl, a, s, b, t.2, rfl, sa, sc, m1, ht.1, ⟨lt4000b m3, lt4000a m2, lt4000c ht.2.1, lt4000c ht.2.2⟩, fun p hp0 => ?_⟩
      obtain ⟨f1, f2, f3, f4⟩ := fin_ p _ hp0 (by rw [e1] <;> rfl) _ rfl
      exact ⟨_, rfl, _, rfl, d, xs, k, t.1, rfl, rfl, f1, f2, f3, lx, f4⟩
end
end K86
set_option Elab.async false
set_option linter.all false
set_option maxRecDepth 100000
set_option maxHeartbeats 4000000
/-! forms of dicts, in order -/
namespace K86
open PySem PySem.Spec PyProof.Rows L2
theorem ix_tupK {X : Cx} {K : PySem.W.Frag} (hK : X.K = K) : IxR X (rIxT K) := by
  subst hK
  exact ix_tup
theorem op_neDK {X : Cx} {K : PySem.W.Frag} (hK : X.K = K) (hu : X.A.units + 64 < cLine) : OpR X (compareOp .NotEq) (rNeD K) := by
  subst hK
  exact op_neD hu
theorem fr_zero {a b : Int} (hb : 0 < b) (h : (fr a b).1 = 0) : (fr a b).2 = 1 := by
  obtain ⟨g, hg, _, _, p, c⟩ := fr_val (a := a) hb
  rw [h] at c
  have c' : Nat.gcd 0 (fr a b).2.natAbs = 1 := c
  rw [Nat.gcd_zero_left] at c'
  omega
def FormFull (n : Nat) (l : List (Kd × Int × Int)) : Prop := FormOk n l ∧ ∀ x ∈ l, (x.1.2.1 ≤ 99 ∧ x.1.2.2.natAbs < 10 ^ 40) ∧ (x.2.1 = 0 → x.2.2 = 1)
theorem countU_lt {l : List Nat} {c : Int × Int} (h : countU l = some c) : c.1 ≤ 99 ∧ c.2.natAbs < 10 ^ 40 := by
  unfold countU at h
  split at h
  · split at h
    · rename_i p b _
      cases q1 : numOf p with
      | none => rw [q1] at h; cases h
      | some n =>
        cases q2 : numOf b with
        | none => rw [q1, q2] at h; cases h
        | some m =>
          rw [q1, q2] at h
          dsimp only at h
          split at h
          · rename_i hn
            cases h
            exact ⟨hn.2, numOf_lt q2⟩
          · cases h
    · cases h
  · cases h
theorem pairU_kind {z : Str} {t : Kd × Int × Int} (h : pairU z = some t) : t.1.2.1 ≤ 99 ∧ t.1.2.2.natAbs < 10 ^ 40 := by
  unfold pairU at h
  split at h
  · cases h
  · rename_i u v _
    unfold pairOf at h
    split at h
    · cases h
    · rename_i a r _
      cases q1 : shareU (tl a) with
      | none => rw [q1] at h; cases h
      | some s =>
        cases q2 : countU (tl (mkS v)) with
        | none => rw [q1, q2] at h; cases h
        | some c =>
          cases q3 : moT r with
          | none => rw [q1, q2, q3] at h; cases h
          | some m =>
            rw [q1, q2, q3] at h
            cases h
            exact countU_lt q2
theorem FormFull.add {n : Nat} {l : List (Kd × Int × Int)} {t : Kd × Int × Int} (h : FormFull n l) (ht : 0 < t.2.2 ∧ t.2.1.natAbs < 10 ^ 40 ∧ t.2.2.natAbs < 10 ^ 40) (hk : t.1.2.1 ≤ 99 ∧ t.1.2.2.natAbs < 10 ^ 40) : FormFull (n + 1) (addQ l t) := by
  refine ⟨h.1.add ht, fun x hx => ?_⟩
  rcases upA_mem hx with e | hx
  · rw [e]
    refine ⟨hk, fun h0 => ?_⟩
    refine fr_zero (Int.mul_pos ?_ ht.1) h0
    cases q : getA l t.1 with
    | none => exact (by decide : (0 : Int) < 1)
    | some b => exact (h.1.2.2 _ (getA_mem q)).1
  · exact h.2 x hx
theorem shaped_share (q : Int × Int) : SeqAt.shaped (shareD q) = true := by
  unfold SeqAt.shaped shareD
  simp [PyData.canLay0, PyData.canLayAll0, PyData.depth, PyData.depthAll]
theorem all_true {α : Type} : ∀ l : List α, (l.map fun _ => true).all id = true
  | [] => rfl
  | x :: l => by rw [List.map_cons, List.all_cons, all_true l] <;> rfl
theorem eqv_share (q r : Int × Int) : PyData.eqv (shareD q) (shareD r) = decide (q = r) := by
  unfold shareD
  rw [Bool.eq_iff_iff]
  simp [PyData.eqv, PyData.eqvAll, Prod.ext_iff]
section
variable {P : Program} {w : World} {K : PySem.W.Frag} {mg : Str → Option Value} {base : Heap}
def sp_is_small : Sp := fun vs H Q _ => ∃ n : Int, vs = [.int n] ∧ n.natAbs ≤ 20 * 10 ^ 800 ∧ Q (.bl true) H
theorem sc_is_small : FnScope ["number"] ["number"] (defScope s_is_small) := ⟨rfl, rfl, rfl, by decide +kernel, rfl, by decide +kernel, by decide +kernel⟩
theorem ok_is_small (T : Tx K mg) : Fn P w K mg base CX0 1 "is_small" ["number"] sp_is_small := by
  refine Fn.of T.f_is_small sc_is_small (fun _ _ _ _ _ _ us hl => match us, hl with | [_], _ => rfl) (fun vs H Q E h => ?_) (fun f cdv A outer s H vs Q E hr h => ⟨_, PSs.nox (pss_one (ps_ret (pe_chain op_le op_le (pe_op op_sub pe_int (pe_gv T.c_GREATEST)) (pv 0) (pe_gv T.c_GREATEST)))), ?_⟩)
  · obtain ⟨n, rfl, hz⟩ := h
    rfl
  · obtain ⟨n, rfl, hn, q⟩ := h
    have lim : ((20 * 10 ^ 800 : Nat) : Int) ≤ (10 ^ 50) ^ 20 := by decide +kernel
    have h1 : n ≤ (10 ^ 50) ^ 20 := Int.le_trans (by omega) lim
    have h2 : 0 - (10 ^ 50) ^ 20 ≤ n := by
      generalize ((10 : Int) ^ 50) ^ 20 = G at lim
      omega
    refine ⟨_, _, rfl, rfl, _, rfl, _, _, rfl, rfl, _, rfl, iteT (decide_eq_true h2) ?_⟩
    refine ⟨_, _, rfl, rfl, ?_⟩
    show Q (V.bl (decide (n ≤ (10 ^ 50) ^ 20))) H
    rw [decide_eq_true h1]
    exact q
def sp_pairs_of (P : Program) (w : World) (K : PySem.W.Frag) : Sp := fun vs H Q _ => ∃ (d : Addr) (l : List (Kd × Int × Int)), vs = [.ref d] ∧ DN P w K eK shareD H d l ∧ FormFull 20 l ∧
  ∀ (p : Addr) (H' : Hp), Gr H H' → Dp K H' (.ref p) (formD (formOf l)) → Q (.ref p) H'
theorem sc_pairs_of : FnScope ["found", "pairs", "key", "share"] ["found"] (defScope s_pairs_of) := ⟨rfl, rfl, rfl, by decide +kernel, rfl, by decide +kernel, by decide +kernel⟩
theorem ok_pairs_of (T : Tx K mg) (F_is_small : Fn P w K mg base CX0 1 "is_small" ["number"] sp_is_small) : Fn P w K mg base CX0 2 "pairs_of" ["found"] (sp_pairs_of P w K) := by
  refine Fn.of T.f_pairs_of sc_pairs_of (fun _ _ _ _ _ _ us hl => match us, hl with | [_], _ => rfl) (fun vs H Q E h => ?_) (fun f cdv A outer s H vs Q E hr h => ⟨_, PSs.nox (pss_cons (ps_set (i := 1) sc_pairs_of.nd rfl (Or.inl rfl) (pe_callTy call_tuple_of (by rfl) T.b_tuple (by decide +kernel) (pa_cons (pe_callB (cr_sortedDt hr.units) (by rfl) T.b_sorted (by decide +kernel) (pa_cons (pe_lock (pe_lc (own := [("key", 2), ("share", 3)]) (g := (gTup K 2 (gCons (gName 2) (gCons (gName 3) gNil)))) (tt := _) (by rfl) sc_pairs_of.nd (pi_itemsN eK (pv 0)) (blkOk_by (own := [("key", 2), ("share", 3)]) (N := ["found", "pairs", "key", "share"]) (sc := defScope s_pairs_of) (by decide +kernel)) (fun _ _ _ _ _ => (pg_tup rfl (pgs_cons (pg_name (i := 2) sc_pairs_of.nd rfl (Or.inl rfl)) (pgs_cons (pg_name (i := 3) sc_pairs_of.nd rfl (Or.inl rfl)) pgs_nil)))) (fun _ _ _ _ _ => (pts_one (pt_cmpR (op_neDK (K := K) rfl hr.units) (pv 3) (pe_gv T.g_NOUGHT) (nomark _)))) (fun _ _ _ _ _ => (pe_tup (pa_cons (pv 2) (pa_cons (pv 3) pa_nil)))))) pa_nil)) pa_nil)))
  (pss_cons (ps_if (pt_cut (PW.pt (pw_or (pt_cmpR op_gt (pe_callB call_len_seq (by rfl) T.b_len (by decide +kernel) (pa_cons (pv 1) pa_nil)) (pe_gv T.c_MOST_PAIRS_forms) (nomark _)) (pw_or1 (pt_not (pt_val (pe_callB (cr_all rfl) (by rfl) T.b_all (by decide +kernel) (pa_cons (pe_lc (own := [("key", 2), ("share", 3)]) (g := (gTup K 2 (gCons (gName 2) (gCons (gName 3) gNil)))) (tt := tYes) (by rfl) sc_pairs_of.nd (pi_tup (pv 1)) (blkOk_by (own := [("key", 2), ("share", 3)]) (N := ["found", "pairs", "key", "share"]) (sc := defScope s_pairs_of) (by decide +kernel)) (fun _ _ _ _ _ => (pg_tup rfl (pgs_cons (pg_name (i := 2) sc_pairs_of.nd rfl (Or.inl rfl)) (pgs_cons (pg_name (i := 3) sc_pairs_of.nd rfl (Or.inl rfl)) pgs_nil)))) (fun _ _ _ _ _ => pts_nil) (fun _ _ _ _ _ => (pe_cut (pe_and (pe_fn F_is_small (hr.mono (by omega)) (pa_cons (pe_ix (ix_tupK (K := K) rfl) (pv 3) pe_int (fun _ _ => rfl)) pa_nil)) (pe_one (pe_fn F_is_small (hr.mono (by omega)) (pa_cons (pe_ix (ix_tupK (K := K) rfl) (pv 3) pe_int (fun _ _ => rfl)) pa_nil))))))) pa_nil)))))))) (pss_one ps_never) pss_nil)
  (pss_one (ps_ret (pv 1))))), ?_⟩)
  · obtain ⟨d, l, rfl, hz⟩ := h
    rfl
  · obtain ⟨d, l, rfl, hd, ok, q⟩ := h
    have lp : (formOf l).length ≤ 20 := by
      unfold formOf
      rw [len_srtF]
      exact Nat.le_trans (List.length_filter_le _ _) ok.1.1
    have op : ∀ x ∈ formOf l, x ∈ l := fun x hx => (List.mem_filter.mp (mem_srtF.mp hx)).1
    have lim := form_lim ok.1 (Nat.le_refl _)
    refine items_data nl_share hd (Nat.lt_of_le_of_lt ok.1.1 (by decide)) ok.1.2.1 (fun x => !decide (x.2.1 = 0)) (fun od xs R h => ⟨_, rfl, h⟩) (fun _ _ => rfl) (fun _ _ => rfl) (fun _ _ => rfl) (fun y p v hy dv H2 C hC h => ?_) (fun D H2 ys hD g2 eD dD => ?_)
    · refine ⟨_, rfl, shareD y.2, shareD (0, 1), hC _ _ (nl_share _) dv, .tup (T.tupN _) (.cons (.int _) (.cons (.int _) .nil)), shaped_share _, shaped_share _, _, rfl, ?_⟩
      rw [eqv_share]
      have e : decide (y.2 = ((0, 1) : Int × Int)) = decide (y.2.1 = 0) := decide_eq_decide.mpr ⟨fun h => by rw [h], fun h => Prod.ext h ((ok.2 y hy).2 h)⟩
      rw [e]
      exact h _ (Gr.rfl' _)
    · have dD' : DpAll K H2 ys ((l.filter fun x => !decide (x.2.1 = 0)).map fermD) := dD
      refine ⟨D, ys, _, rfl, sl_of eD, dD', srtOk_ferm _, fun zs p H3 hp eH3 dz => ?_⟩
      subst eH3
      rw [srtF_map] at dz
      have dz' : DpAll K H2 zs ((formOf l).map fermD) := dz
      refine ⟨p, zs, rfl, .inl ⟨sl_of upd_same, fun t ht => ?_⟩⟩
      have lz : zs.length = (formOf l).length := by rw [DpAll.length dz', List.length_map]
      have gt := (g2.trans (Gr.new hp)).trans (Gr.new (o := .tup zs) ht)
      have dt := DpAll.gr ((Gr.new hp).trans (Gr.new (o := .tup zs) ht)) _ _ dz'
      have et : SqT K (upd (upd H2 p (.lst zs)) t (.tup zs)) t zs := st_of upd_same
      generalize upd (upd H2 p (.lst zs)) t (.tup zs) = H4 at gt dt et
      clear dz dz' dD dD' eD ht hp
      refine ⟨fun b H' => b = false ∧ Gr H4 H', ?_, fun b H' hb => ?_⟩
      · refine ⟨_, rfl, t, _, rfl, .inr et, _, _, rfl, rfl, _, rfl, iteF (decide_eq_false (by omega)) ?_⟩
        refine ⟨_, rfl, t, rfl, ⟨_, et⟩, fun D5 hD5 => lc_gr walk_tup hD5 (fun i => ((formOf l).take i).map fun x => V.bl true) rfl (fun i hi => ?_) (fun H g => g.st et) (fun i x H5 H6 hi g5 y C C0 h1 h2 => ?_) (fun H5 g5 e5 => ?_)⟩
        · rw [List.length_map, List.length_take]
          exact Nat.lt_of_le_of_lt (Nat.le_trans (Nat.min_le_right _ _) lp) (by decide)
        · obtain ⟨rfl, hx⟩ := y
          obtain ⟨dd, hdd, dp⟩ := DpAll.get i dt hx
          rw [List.getElem?_map] at hdd
          cases ep : (formOf l)[i]? with
          | none => rw [ep] at hdd; cases hdd
          | some y =>
            rw [ep] at hdd
            cases hdd
            obtain ⟨_, m2, m3⟩ := lim y (op y (List.mem_of_getElem? ep))
            obtain ⟨a, k, m, sh, rfl, st, sk, _, ss⟩ := dp_ferm dp
            have ss5 := g5.st ss
            refine ⟨a, _, rfl, g5.st st, rfl, _, _, rfl, _, _, rfl, rfl, rfl, ?_⟩
            refine ⟨C, ⟨_, rfl, sh, _, 0, _, rfl, rfl, ss5, atI_nat (j := 0) rfl, y.2.1, rfl, m3, true, rfl, ?_⟩, fun _ _ h => h⟩
            show if true = true then _ else _
            refine iteT rfl ⟨_, rfl, sh, _, 1, _, rfl, rfl, ss5, atI_nat (j := 1) rfl, y.2.2, rfl, Nat.le_trans m2 (Nat.le_mul_of_pos_left _ (by decide)), h1 _ _ (Gr.rfl' _) (take_map_snoc (fun _ => V.bl true) ep)⟩
        · rw [lz, List.take_length] at e5
          have eb : ((formOf l).map fun _ => V.bl true) = ((formOf l).map fun _ => true).map V.bl := by rw [List.map_map] <;> rfl
          refine ⟨D5, _, rfl, sl_of (by rw [← eb]; exact e5), _, rfl, ?_, g5⟩
          show (!((formOf l).map fun _ => true).all id) = false
          rw [all_true] <;> rfl
      · obtain ⟨rfl, g5⟩ := hb
        exact iteF rfl ⟨_, rfl, q t H' (gt.trans g5) (.tup (g5.st et) (DpAll.gr g5 _ _ dt))⟩
theorem sc_form_of : FnScope ["found", "pairs", "kind", "share"] ["found"] (defScope s_form_of) := ⟨rfl, rfl, rfl, by decide +kernel, rfl, by decide +kernel, by decide +kernel⟩
theorem ok_form_of (T : Tx K mg) (F_is_small : Fn P w K mg base CX0 1 "is_small" ["number"] sp_is_small) (F_pairs_of : Fn P w K mg base CX0 2 "pairs_of" ["found"] (sp_pairs_of P w K)) : Fn P w K mg base CX0 3 "form_of" ["found"] (sp_pairs_of P w K) := by
  refine Fn.of T.f_form_of sc_form_of (fun _ _ _ _ _ _ us hl => match us, hl with | [_], _ => rfl) (fun vs H Q E h => ?_) (fun f cdv A outer s H vs Q E hr h => ⟨_, PSs.nox (pss_cons (ps_set (i := 1) sc_form_of.nd rfl (Or.inl rfl) (pe_fn F_pairs_of (hr.mono (by omega)) (pa_cons (pv 0) pa_nil)))
  (pss_cons (ps_if (pt_not (pt_val (pe_callB (cr_all rfl) (by rfl) T.b_all (by decide +kernel) (pa_cons (pe_lc (own := [("kind", 2), ("share", 3)]) (g := (gTup K 2 (gCons (gName 2) (gCons (gName 3) gNil)))) (tt := tYes) (by rfl) sc_form_of.nd (pi_tup (pv 1)) (blkOk_by (own := [("kind", 2), ("share", 3)]) (N := ["found", "pairs", "kind", "share"]) (sc := defScope s_form_of) (by decide +kernel)) (fun _ _ _ _ _ => (pg_tup rfl (pgs_cons (pg_name (i := 2) sc_form_of.nd rfl (Or.inl rfl)) (pgs_cons (pg_name (i := 3) sc_form_of.nd rfl (Or.inl rfl)) pgs_nil)))) (fun _ _ _ _ _ => pts_nil) (fun _ _ _ _ _ => (pe_cut (pe_and (pe_cmpR op_le (pe_ix (ix_tupK (K := K) rfl) (pv 2) pe_int (fun _ _ => rfl)) (pe_gv T.c_MOST_PLACE) (nomark _)) (pe_one (pe_fn F_is_small (hr.mono (by omega)) (pa_cons (pe_ix (ix_tupK (K := K) rfl) (pv 2) pe_int (fun _ _ => rfl)) pa_nil))))))) pa_nil)))) (pss_one ps_never) pss_nil)
  (pss_one (ps_ret (pv 1))))), ?_⟩)
  · obtain ⟨d, l, rfl, hz⟩ := h
    rfl
  · obtain ⟨d, l, rfl, hd, ok, q⟩ := h
    have op : ∀ x ∈ formOf l, x ∈ l := fun x hx => (List.mem_filter.mp (mem_srtF.mp hx)).1
    have lp : (formOf l).length ≤ 20 := by
      unfold formOf
      rw [len_srtF]
      exact Nat.le_trans (List.length_filter_le _ _) ok.1.1
    refine ⟨_, rfl, d, l, rfl, hd, ok, fun t H4 gt dt => ?_⟩
    obtain ⟨t', zs, e, et, dz⟩ := dp_tuple dt
    cases e
    have lz : zs.length = (formOf l).length := by rw [DpAll.length dz, List.length_map]
    refine ⟨_, rfl, t, rfl, ⟨_, et⟩, fun D5 hD5 => lc_gr walk_tup hD5 (fun i => ((formOf l).take i).map fun x => V.bl true) rfl (fun i hi => ?_) (fun H g => g.st et) (fun i x H5 H6 hi g5 y C C0 h1 h2 => ?_) (fun H5 g5 e5 => ?_)⟩
    · rw [List.length_map, List.length_take]
      exact Nat.lt_of_le_of_lt (Nat.le_trans (Nat.min_le_right _ _) lp) (by decide)
    · obtain ⟨rfl, hx⟩ := y
      obtain ⟨dd, hdd, dp⟩ := DpAll.get i dz hx
      rw [List.getElem?_map] at hdd
      cases ep : (formOf l)[i]? with
      | none => rw [ep] at hdd; cases hdd
      | some y =>
        rw [ep] at hdd
        cases hdd
        obtain ⟨k1, k2⟩ := (ok.2 y (op y (List.mem_of_getElem? ep))).1
        obtain ⟨a, k, m, sh, rfl, st, sk, _, ss⟩ := dp_ferm dp
        have sk5 := g5.st sk
        refine ⟨a, _, rfl, g5.st st, rfl, _, _, rfl, _, _, rfl, rfl, rfl, ?_⟩
        refine ⟨C, ⟨_, rfl, k, _, 1, _, rfl, rfl, sk5, atI_nat (j := 1) rfl, _, _, rfl, rfl, _, rfl, ?_⟩, fun _ _ h => h⟩
        refine iteT (decide_eq_true k1) ⟨_, rfl, k, _, 2, _, rfl, rfl, sk5, atI_nat (j := 2) rfl, y.1.2.2, rfl, Nat.le_trans (Nat.le_of_lt k2) (by decide +kernel), h1 _ _ (Gr.rfl' _) (take_map_snoc (fun _ => V.bl true) ep)⟩
    · rw [lz, List.take_length] at e5
      have eb : ((formOf l).map fun _ => V.bl true) = ((formOf l).map fun _ => true).map V.bl := by rw [List.map_map] <;> rfl
      have ea : (!((formOf l).map fun _ => true).all id) = false := by rw [all_true] <;> rfl
      exact ⟨D5, _, rfl, sl_of (by rw [← eb]; exact e5), _, rfl, iteF ea ⟨_, rfl, q t H5 (gt.trans g5) (Dp.gr g5 _ _ dt)⟩⟩
end
end K86
set_option Elab.async false
set_option linter.all false
set_option maxRecDepth 100000
set_option maxHeartbeats 4000000
/-! defs as values: read by name, called by a slot -/
namespace K86
open PySem PySem.Spec PyProof.Rows L2
/-- v is a def that keeps sp -/
def IsFn (P : Program) (w : World) (K : PySem.W.Frag) (mg : Str → Option Value) (base : Heap) (CX : CXT) (k : Nat) (ps : List Str) (sp : Sp) (v : V) : Prop :=
  ∃ f fd, v = .ref f ∧ FnOk P w K mg base CX k f fd ps sp ∧ Binds K fd ps [] ∧ PySem.W.keepIn K (.ref f) = true
theorem IsFn.mono {P : Program} {w : World} {K : PySem.W.Frag} {mg : Str → Option Value} {base : Heap} {CX : CXT} {j k : Nat} {ps : List Str} {sp : Sp} {v : V} (h : IsFn P w K mg base CX j ps sp v) (l : j ≤ k) : IsFn P w K mg base CX k ps sp v := by
  obtain ⟨f, fd, e, a, b⟩ := h
  exact ⟨f, fd, e, a.mono l, b⟩
section
variable {X : Cx} {CX : CXT} {k : Nat} {ps : List Str} {sp : Sp} {x : Str} {p pos : Pos} {e : Expr} {es : List Expr} {tf : TE} {t : TA}
theorem pe_gf (F : Fn X.prog X.w X.K X.mg X.base CX k x ps sp) (hg : Gl X x := by rfl) (hdb : (x == ("__debug__" : Str)) = false := by decide) :
    PE X (.Name x pos) (fun σ H Q => ∀ v, IsFn X.prog X.w X.K X.mg X.base CX k ps sp v → Q v H) := by
  obtain ⟨f, fd, F, hb, hm, hk⟩ := F
  exact ⟨fun pins s σ H Q I hq => (pe_gv (X := X) (v := .ref f) ⟨.ref f, hm, rfl⟩ hg hdb).run pins s σ H Q I (hq _ ⟨f, fd, rfl, F, hb, hk⟩)⟩
theorem pe_fnL0 (ps : List Str) (sp : Sp) (hf : PE X (.Name x p) tf) (hr : Room k X.A) (ha : PA X (e :: es) t)
    (he : starEach (e :: es) X.env = (false, eval e X.env) :: starEach es X.env := by rfl) (hpl : (backTo pos (starEach es X.env)).any (·.1) = false := by rfl) :
    PE X (.Call (.Name x p) (e :: es) [] pos) (fun σ H Q => tf σ H fun v H0 => IsFn X.prog X.w X.K X.mg X.base CX0 k ps sp v ∧ t σ H0 fun vs H1 => sp vs H1 Q E0) := by
  refine ⟨fun pins s σ H Q I h => ?_⟩
  refine wpAny_Call_Name_kw (thn (hf.run pins s σ H _ I h) fun u s0 ⟨v, H0, I0, r0, ⟨f, fd, ev, F, hb, hk⟩, q0⟩ => ?_)
  subst ev
  obtain rfl : u = Value.ref f := r0
  refine PySem.W.callWith_K (h₀ := X.base) I0.ok.mod.kin hk (thn (ha.run pos pins s0 σ H0 _ I0 q0) fun us s1 ⟨vs, H1, I1, r, q⟩ => ⟨I1.kIn, ?_⟩) he hpl
  exact run_fnS F hr hb (E := fun _ => E0) (σ := σ) (fun _ _ _ _ _ _ h => h.elim) I1 r q
theorem pe_fnLX {W : WX} (ps : List Str) (sp : Sp) (hf : PE X (.Name x p) tf) (hr : Room k X.A) (tk : Takes X W) (ha : PA X (e :: es) t)
    (he : starEach (e :: es) X.env = (false, eval e X.env) :: starEach es X.env := by rfl) (hpl : (backTo pos (starEach es X.env)).any (·.1) = false := by rfl) :
    PE X (.Call (.Name x p) (e :: es) [] pos) (fun σ H Q => tf σ H fun v H0 => IsFn X.prog X.w X.K X.mg X.base (L2.CX X.prog X.w) k ps sp v ∧ t σ H0 fun vs H1 => sp vs H1 Q (WE W σ)) := by
  refine ⟨fun pins s σ H Q I h => ?_⟩
  refine wpAny_Call_Name_kw (thn (hf.run pins s σ H _ I h) fun u s0 ⟨v, H0, I0, r0, ⟨f, fd, ev, F, hb, hk⟩, q0⟩ => ?_)
  subst ev
  obtain rfl : u = Value.ref f := r0
  refine PySem.W.callWith_K (h₀ := X.base) I0.ok.mod.kin hk (thn (ha.run pos pins s0 σ H0 _ I0 q0) fun us s1 ⟨vs, H1, I1, r, q⟩ => ⟨I1.kIn, ?_⟩) he hpl
  exact run_fnS F hr hb (passAt tk σ) I1 r q
end
end K86
set_option Elab.async false
set_option linter.all false
set_option maxRecDepth 100000
set_option maxHeartbeats 4000000
/-! sums of terms, step by step, plain -/
namespace K86
open PySem PySem.Spec PyProof.Rows L2
def pre {τ : Type} (ts : List τ) : Except Nat (List τ) → Except Nat (List τ)
  | .ok l => .ok (ts ++ l)
  | .error e => .error e
theorem pre_nil {τ : Type} (x : Except Nat (List τ)) : pre [] x = x := by cases x <;> rfl
theorem pre_pre {τ : Type} (ts us : List τ) (x : Except Nat (List τ)) : pre ts (pre us x) = pre (ts ++ us) x := by
  cases x with
  | ok l => show Except.ok (ts ++ (us ++ l)) = .ok (ts ++ us ++ l); rw [List.append_assoc]
  | error e => rfl
def termsB {τ : Type} (term : Str → Option τ) (rest : List Str) (i : Nat) : Except Nat (List τ) := match rest with
  | [] => .ok []
  | p :: r => if p = "+" then terms term r (i + 1) else .error (i + 1)
theorem terms_none {τ : Type} {term : Str → Option τ} {w : Str} {r : List Str} {i : Nat} (h : term w = none) : terms term (w :: r) i = .error (i + 1) := by
  unfold terms
  rw [h]
theorem terms_some {τ : Type} {term : Str → Option τ} {w : Str} {t : τ} {r : List Str} {i : Nat} (h : term w = some t) : terms term (w :: r) i = pre [t] (termsB term r (i + 1)) := by
  unfold terms
  rw [h]
  cases r with
  | nil => rfl
  | cons p r =>
    unfold termsB
    dsimp only
    by_cases e : p = "+"
    · rw [if_pos e, if_pos e]
      cases terms term r (i + 2) <;> rfl
    · rw [if_neg e, if_neg e] <;> rfl
section
variable {κ : Type} [DecidableEq κ]
def addG (l : List (κ × Int × Int)) (t : κ × Int × Int) : List (κ × Int × Int) := upA l t.1 fun o => addF (o.getD (0, 1)) t.2
def GOk (k : Nat) (l : List (κ × Int × Int)) : Prop := l.length ≤ k ∧ Uni l ∧ ∀ x ∈ l, 0 < x.2.2 ∧ x.2.2.natAbs ≤ 10 ^ (40 * k) ∧ x.2.1.natAbs ≤ k * 10 ^ (40 * k)
def small (t : κ × Int × Int) : Prop := 0 < t.2.2 ∧ t.2.1.natAbs < 10 ^ 40 ∧ t.2.2.natAbs < 10 ^ 40
theorem GOk.add {k : Nat} {l : List (κ × Int × Int)} {t : κ × Int × Int} (h : GOk k l) (ht : small t) : GOk (k + 1) (addG l t) := by
  refine ⟨Nat.le_trans (upA_len _ _ _) (Nat.succ_le_succ h.1), upA_uni h.2.1 _ _, fun x hx => ?_⟩
  rcases upA_mem hx with e | hx
  · rw [e]
    show 0 < (addF ((getA l t.1).getD (0, 1)) t.2).2 ∧ _
    cases q : getA l t.1 with
    | none => exact addF_le (x := (0, 1)) (by decide) ht.1 (Nat.one_le_pow _ _ (by decide)) (Nat.zero_le _) ht.2.1 ht.2.2
    | some n =>
      obtain ⟨a, b, c⟩ := h.2.2 _ (getA_mem q)
      exact addF_le a ht.1 b c ht.2.1 ht.2.2
  · obtain ⟨a, b, c⟩ := h.2.2 x hx
    exact ⟨a, Nat.le_trans b pow_mono, Nat.le_trans c (Nat.mul_le_mul (Nat.le_succ k) pow_mono)⟩
theorem gok_fold : ∀ (ts : List (κ × Int × Int)) (k : Nat) (l : List (κ × Int × Int)), GOk k l → (∀ t ∈ ts, small t) → GOk (k + ts.length) (ts.foldl addG l)
  | [], k, l, h, _ => h
  | t :: ts, k, l, h, ht => by
    have := gok_fold ts (k + 1) (addG l t) (h.add (ht t List.mem_cons_self)) fun t h => ht t (List.mem_cons_of_mem _ h)
    rw [List.foldl_cons, List.length_cons]
    rw [show k + (ts.length + 1) = k + 1 + ts.length by omega]
    exact this
theorem gok_all {ts : List (κ × Int × Int)} (h : ∀ t ∈ ts, small t) : GOk ts.length (ts.foldl addG []) := by
  have := gok_fold ts 0 [] ⟨Nat.le_refl _, List.nodup_nil, fun x hx => by cases hx⟩ h
  rw [Nat.zero_add] at this
  exact this
theorem gok_lim {n : Nat} {l : List (κ × Int × Int)} (ok : GOk n l) (hn : n ≤ 20) : ∀ x ∈ l, 0 < x.2.2 ∧ x.2.2.natAbs < 2 ^ 4000 ∧ x.2.1.natAbs < 2 ^ 4000 := fun x hx => by
  obtain ⟨a, b, c⟩ := ok.2.2 x hx
  have hp : 10 ^ (40 * n) ≤ 10 ^ 800 := Nat.pow_le_pow_right (by decide) (by omega)
  exact ⟨a, lt4000a (Nat.le_trans b hp), lt4000b (Nat.le_trans c (Nat.mul_le_mul hn hp))⟩
end
end K86
set_option Elab.async false
set_option linter.all false
set_option maxRecDepth 100000
set_option maxHeartbeats 4000000
/-! sums of terms, read by the law -/
namespace K86
open PySem PySem.Spec PyProof.Rows L2
section
variable {P : Program} {w : World} {K : PySem.W.Frag} {mg : Str → Option Value} {base : Heap} {κ : Type} [DecidableEq κ] {eG : KEnc κ}
def gD (eG : KEnc κ) (x : κ × Int × Int) : PyData := .tuple [eG.D x.1, shareD x.2]
def OptG (eG : KEnc κ) (K : PySem.W.Frag) (H : Hp) : Option (κ × Int × Int) → V → Prop
  | none, v => v = .non
  | some x, v => Dp K H v (gD eG x)
def sp_G (eG : KEnc κ) (K : PySem.W.Frag) (term : Str → Option (κ × Int × Int)) : Sp := fun vs H Q _ => ∃ z : Str, vs = [.str z] ∧ asc z ∧ z.length + 4 ≤ sizeLine ∧ ∀ v H', Gr H H' → OptG eG K H' (term z) v → Q v H'
/-- what is told of words: the terms, summed and in order, or the word that stops -/
def SumRes (eG : KEnc κ) (K : PySem.W.Frag) (H : Hp) : Except Nat (List (κ × Int × Int)) → V → Prop
  | .error e, v => ∃ a, v = .ref a ∧ SqT K H a [.non, .int e]
  | .ok ts, v => ∃ a l ys, v = .ref a ∧ SqT K H a [.ref l, .non] ∧ H l = some (.lst ys) ∧ DpAll K H ys (srt (((ts.foldl addG []).filter fun x => !decide (x.2.1 = 0)).map (gD eG)))
def sp_sum_in (P : Program) (w : World) (mg : Str → Option Value) (base : Heap) (eG : KEnc κ) (K : PySem.W.Frag) (term : Str → Option (κ × Int × Int)) : Sp := fun vs H Q _ => ∃ (a : Addr) (ws : List Str) (i : Nat) (m : Int) (fv : V), vs = [.ref a, .int i, fv, .int m] ∧ IsFn P w K mg base CX0 3 ["_law_word"] (sp_G eG K term) fv ∧
  H a = some (.lst (ws.map V.str)) ∧ (∀ y ∈ ws, asc y ∧ y.length + 4 ≤ sizeLine) ∧ i ≤ ws.length ∧ ws.length ≤ 20 ∧ 300 ≤ m ∧ m ≤ 1000 ∧
  ∀ v H', Gr H H' → SumRes eG K H' (terms term (ws.drop i) i) v → Q v H'
theorem sc_law_sum_in : FnScope ["_law_words", "_law_at", "_law_term", "_law_most", "_law_found", "_law_place", "_law_word", "_law_one_here", "_law_is_sign", "_law_kind", "_law_share"] ["_law_words", "_law_at", "_law_term", "_law_most"] (defScope s_law_sum_in) := ⟨rfl, rfl, rfl, by decide +kernel, rfl, by decide +kernel, by decide +kernel⟩
theorem ok_law_sum_in (T : Tx K mg) (F_law_plus : Fn P w K mg base CX0 1 "_law_plus" ["_law_one_here", "_law_other"] (sp_plus K)) (term : Str → Option (κ × Int × Int)) (hsm : ∀ z t, term z = some t → small t) (hem : term "" = none) (hkey : ∀ k, ∃ ds, eG.D k = .tuple ds) (hso : ∀ l : List (κ × Int × Int), SrtOk (l.map (gD eG))) :
    Fn P w K mg base CX0 4 "_law_sum_in" ["_law_words", "_law_at", "_law_term", "_law_most"] (sp_sum_in P w mg base eG K term) := by
  refine Fn.of T.f_law_sum_in sc_law_sum_in (fun _ _ _ _ _ _ us hl => match us, hl with | [_, _, _, _], _ => rfl) (fun vs H Q E h => ?_) (fun f cdv A outer s H vs Q E hr h => ⟨_, PSs.nox (pss_cons (ps_set (i := 4) sc_law_sum_in.nd rfl (Or.inl rfl) (pe_dnewN eG))
  (pss_cons (ps_for PassesOwn.never rfl (pi_range2 (by rfl) T.b_range (pa_cons (pv 1) (pa_cons (pe_callB (call_max2 rfl) (by rfl) T.b_max (by decide +kernel) (pa_cons (pe_callB call_len_seq (by rfl) T.b_len (by decide +kernel) (pa_cons (pv 0) pa_nil)) (pa_cons (pe_op op_add (pv 1) pe_int) pa_nil))) pa_nil))) (pg_name (i := 5) sc_law_sum_in.nd rfl (Or.inl rfl))
  (pss_cons (ps_set (i := 6) sc_law_sum_in.nd rfl (Or.inl rfl) (pe_cut (pe_ifExp (pt_cmpR op_lt (pv 5) (pe_callB call_len_seq (by rfl) T.b_len (by decide +kernel) (pa_cons (pv 0) pa_nil)) (nomark _)) (pe_ix ix_list (pv 0) (pv 5) (fun _ _ => rfl)) pe_str)))
  (pss_cons (ps_set (i := 7) sc_law_sum_in.nd rfl (Or.inl rfl) (pe_fnL0 (k := 3) ["_law_word"] (sp_G eG K term) (pv 2) (hr.mono (by omega)) (pa_cons (pv 6) pa_nil)))
  (pss_cons (ps_set (i := 8) sc_law_sum_in.nd rfl (Or.inl rfl) (pe_cmpR op_eq (pe_op op_mod (pe_op op_sub (pv 5) (pv 1)) pe_int) pe_int (nomark _)))
  (pss_cons (ps_if (pt_cut (PW.pt (pw_or (PW.pt (pw_and (pt_val (pv 8)) (pw_and1 (PW.pt (pw_or (pt_cmpR op_ne (pv 6) pe_str (nomark _)) (pw_or1 (pt_cmpR op_gt (pe_op op_sub (pv 5) (pv 1)) (pe_op op_sub (pe_op op_mulW pe_int (pv 3)) pe_int) (nomark _)))))))) (pw_or1 (PW.pt (pw_and (pt_not (pt_val (pv 8))) (pw_and1 (pt_cmpR op_isN (pv 7) pe_non (nomark _))))))))) (pss_one (ps_ret (pe_tup (pa_cons pe_non (pa_cons (pe_op op_add (pv 5) pe_int) pa_nil))))) pss_nil)
  (pss_one (ps_cut (ps_if (pt_not (pt_val (pv 8))) (pss_one (ps_dputN eG hr.units (pv 4) (pe_ix ix_tup (pv 7) pe_int (fun _ _ => rfl)) (pe_fn F_law_plus (hr.mono (by omega)) (pa_cons (pe_dgetN eG hr.units (pv 4) (pe_ix ix_tup (pv 7) pe_int (fun _ _ => rfl)) (pe_tup (pa_cons pe_int (pa_cons pe_int pa_nil))) (by exact ⟨by rfl, by rfl, by rfl, by rfl⟩)) (pa_cons (pe_ix ix_tup (pv 7) pe_int (fun _ _ => rfl)) pa_nil))) rfl)) pss_nil))))))))
  (pss_cons (ps_if (pt_cmpR op_eq (pe_op op_mod (pe_op op_sub (pe_callB call_len_seq (by rfl) T.b_len (by decide +kernel) (pa_cons (pv 0) pa_nil)) (pv 1)) pe_int) pe_int (nomark _)) (pss_one (ps_ret (pe_tup (pa_cons pe_non (pa_cons (pe_op op_add (pe_callB call_len_seq (by rfl) T.b_len (by decide +kernel) (pa_cons (pv 0) pa_nil)) pe_int) pa_nil))))) pss_nil)
  (pss_one (ps_ret (pe_tup (pa_cons (pe_callB (cr_sortedDt hr.units) (by rfl) T.b_sorted (by decide +kernel) (pa_cons (pe_lock (pe_lc (own := [("_law_kind", 9), ("_law_share", 10)]) (g := (gTup K 2 (gCons (gName 9) (gCons (gName 10) gNil)))) (tt := _) (by rfl) sc_law_sum_in.nd (pi_itemsN eG (pv 4)) (blkOk_by (own := [("_law_kind", 9), ("_law_share", 10)]) (N := ["_law_words", "_law_at", "_law_term", "_law_most", "_law_found", "_law_place", "_law_word", "_law_one_here", "_law_is_sign", "_law_kind", "_law_share"]) (sc := defScope s_law_sum_in) (by decide +kernel)) (fun _ _ _ _ _ => (pg_tup rfl (pgs_cons (pg_name (i := 9) sc_law_sum_in.nd rfl (Or.inl rfl)) (pgs_cons (pg_name (i := 10) sc_law_sum_in.nd rfl (Or.inl rfl)) pgs_nil)))) (fun _ _ _ _ _ => (pts_one (pt_cmpR op_ne (pe_ix (ix_tupK (K := K) rfl) (pv 10) pe_int (fun _ _ => rfl)) pe_int (nomark _)))) (fun _ _ _ _ _ => (pe_tup (pa_cons (pv 9) (pa_cons (pv 10) pa_nil)))))) pa_nil)) (pa_cons pe_non pa_nil)))))))), ?_⟩)
  · obtain ⟨a, ws, i, m, fv, rfl, _⟩ := h
    rfl
  · obtain ⟨a, ws, i, m, fv, rfl, hF, ha, hw, hi, hl, hm1, hm2, q⟩ := h
    intro d hd0
    have g0 : Gr H (upd H d (kdO P w eG d [])) := Gr.new hd0
    refine ⟨_, rfl, _, rfl, a, _, rfl, .inl (sl_of (g0 _ _ ha)), _, rfl, _, _, rfl, rfl, _, _, rfl, _, _, rfl, ?_, ?_⟩
    · rw [b62, List.length_map]
      split <;> omega
    · rw [List.length_map]
      have en : ((if ((i : Nat) : Int) + 1 > ((ws.length : Nat) : Int) then ((i : Nat) : Int) + 1 else ((ws.length : Nat) : Int)) - ((i : Nat) : Int)).toNat = if i = ws.length then 1 else ws.length - i := by
        split <;> split <;> omega
      show ∃ W, _
      rw [en]
      refine for_range (lo := (i : Int)) (fun j σ Hh => Gr H Hh ∧ ∃ (ts : List (κ × Int × Int)) (z5 z6 z7 z8 : Option V), σ = [some (.ref a), some (.int i), some fv, some (.int m), some (.ref d), z5, z6, z7, z8, none, none] ∧ DN P w K eG shareD Hh d (ts.foldl addG []) ∧ ts.length ≤ j ∧ (∀ t ∈ ts, small t) ∧ terms term (ws.drop i) i = pre ts (if j % 2 = 0 then terms term (ws.drop (i + j)) (i + j) else termsB term (ws.drop (i + j)) (i + j))) ?_ (fun j σ Hh hj pv => ?_) (fun σ Hh pv => ?_)
      · exact ⟨g0, [], none, none, none, none, rfl, DN.new upd_same, Nat.le_refl _, (fun t ht => by cases ht), by rw [if_pos rfl, pre_nil] <;> rfl⟩
      · obtain ⟨gh, ts, z5, z6, z7, z8, rfl, dh, hlen, hsm', ht⟩ := pv
        obtain ⟨y, hya, hyl, hrest⟩ : ∃ y : Str, asc y ∧ y.length + 4 ≤ sizeLine ∧ ((∃ r, ws.drop (i + j) = y :: r ∧ ws.drop (i + j + 1) = r ∧ ∃ h : i + j < ws.length, ws[i + j] = y) ∨ (ws.drop (i + j) = [] ∧ y = "" ∧ ¬ i + j < ws.length ∧ j = 0)) := by
          by_cases h : i + j < ws.length
          · have hm := hw _ (List.getElem_mem h)
            exact ⟨ws[i + j], hm.1, hm.2, .inl ⟨_, List.drop_eq_getElem_cons h, rfl, h, rfl⟩⟩
          · refine ⟨"", (fun c hc => by cases hc), (by decide), .inr ⟨List.drop_eq_nil_of_le (by omega), rfl, h, ?_⟩⟩
            split at hj <;> omega
        have ah := gh _ _ ha
        refine ⟨fun v H' => H' = Hh ∧ v = .str y, ?_, fun v H' hv => ?_⟩
        · refine ⟨_, rfl, _, rfl, a, _, rfl, .inl (sl_of ah), _, _, rfl, rfl, _, rfl, ?_⟩
          rw [List.length_map]
          refine ite2 (fun c => ?_) (fun c => ?_)
          · have c' := dT c
            rcases hrest with ⟨r, e1, e2, h, e3⟩ | ⟨_, _, h, _⟩
            · refine ⟨_, rfl, _, rfl, a, _, _, _, rfl, rfl, sl_of ah, ?_, rfl, rfl⟩
              rw [show ((i : Int) + (j : Int)) = ((i + j : Nat) : Int) by omega, at_str h, e3]
            · omega
          · have c' := dF c
            rcases hrest with ⟨r, e1, e2, h, e3⟩ | ⟨_, e, h, _⟩
            · omega
            · rw [e]
              exact ⟨rfl, rfl⟩
        · obtain ⟨rfl, rfl⟩ := hv
          refine ⟨_, rfl, hF, _, rfl, y, rfl, hya, hyl, fun v1 H1 g1 o1 => ?_⟩
          have es : decide (V.int (((i : Int) + (j : Int) - (i : Int)) % 2) = V.int 1) = decide (j % 2 = 1) := by
            rw [dec_V]
            exact decide_eq_decide.mpr (by omega)
          refine ⟨_, rfl, _, rfl, _, _, rfl, rfl, _, _, rfl, rfl, (show (0 : Int) < 2 by decide), rfl, ?_⟩
          show gName 8 (V.bl (decide (V.int (((i : Int) + (j : Int) - (i : Int)) % 2) = V.int 1))) _ _ _
          rw [es]
          refine ⟨fun b H' => H' = H1 ∧ b = (if j % 2 = 1 then !decide (y = "+") else (term y).isNone), ?_, fun b H' hb => ?_⟩
          · rcases Nat.mod_two_eq_zero_or_one j with hj2 | hj2
            · rw [hj2]
              refine ⟨_, rfl, _, rfl, ?_⟩
              refine iteF rfl ?_
              refine ⟨_, rfl, _, rfl, iteT rfl ⟨_, rfl, rfl, _, rfl, rfl, ?_⟩⟩
              rw [if_neg (by decide)]
              cases h : term y with
              | none =>
                rw [h] at o1
                cases o1
                rfl
              | some t =>
                rw [h] at o1
                obtain ⟨b, vs', rfl, _⟩ := dp_tuple o1
                rfl
            · rw [hj2]
              refine ⟨_, rfl, _, rfl, ?_⟩
              have e0 : decide (V.str y = V.str "+") = decide (y = "+") := decide_eq_decide.mpr ⟨fun h => V.str.inj h, fun h => by rw [h]⟩
              refine iteT rfl ⟨_, rfl, rfl, _, rfl, ?_⟩
              show if (!decide (V.str y = V.str "+")) = true then _ else _
              rw [e0]
              refine ite2 (fun c => ?_) (fun c => ?_)
              · refine iteT rfl ⟨rfl, ?_⟩
                rw [if_pos rfl, c]
              · refine ⟨_, rfl, _, rfl, _, _, rfl, rfl, _, rfl, 2, m, rfl, rfl, bound_mul (Nat.lt_trans (by decide : (2 : Int).natAbs < 2 ^ 2) (Nat.pow_lt_pow_right (by decide) (by decide))) (Nat.lt_trans (by omega : m.natAbs < 2 ^ 10) (Nat.pow_lt_pow_right (by decide) (by decide))), _, _, rfl, rfl, _, _, rfl, rfl, _, rfl, ?_⟩
                refine iteF (decide_eq_false ?_) ?_
                · have : j ≤ 20 := by split at hj <;> omega
                  omega
                · refine ⟨_, rfl, _, rfl, iteF rfl ⟨rfl, ?_⟩⟩
                  rw [if_pos rfl, c]
          · obtain ⟨rfl, rfl⟩ := hb
            refine ite2 (fun c => ?_) (fun c => ?_)
            · refine ⟨_, rfl, _, _, rfl, rfl, by show 2 ≤ sizeLine; decide, fun t ht2 => q _ _ (gh.trans (g1.trans (Gr.new ht2))) ?_⟩
              have eE : terms term (ws.drop i) i = .error (i + j + 1) := by
                rw [ht]
                rcases Nat.mod_two_eq_zero_or_one j with hj2 | hj2
                · rw [if_pos hj2]
                  rw [if_neg (by omega)] at c
                  rcases hrest with ⟨r, e1, _, _⟩ | ⟨e1, _⟩
                  · rw [e1, terms_none (by cases h : term y with | none => rfl | some t => rw [h] at c; cases c)] <;> rfl
                  · rw [e1] <;> rfl
                · rw [if_neg (by omega)]
                  rw [if_pos hj2] at c
                  rcases hrest with ⟨r, e1, _, _⟩ | ⟨_, _, _, e⟩
                  · rw [e1]
                    unfold termsB
                    dsimp only
                    rw [if_neg (nT c)] <;> rfl
                  · omega
              rw [eE]
              refine ⟨t, rfl, ?_⟩
              rw [show (((i + j + 1 : Nat)) : Int) = (i : Int) + (j : Int) + 1 by omega]
              exact st_of upd_same
            · refine ⟨_, ?_, fun _ _ h => h⟩
              refine ⟨_, rfl, _, rfl, ?_⟩
              rcases Nat.mod_two_eq_zero_or_one j with hj2 | hj2
              · rw [if_neg (by omega)] at c
                refine iteT (by rw [decide_eq_false (by omega)] <;> rfl) ?_
                obtain ⟨t, eT⟩ : ∃ t, term y = some t := by
                  cases h : term y with
                  | none => rw [h] at c; cases c
                  | some t => exact ⟨t, rfl⟩
                rw [eT] at o1
                obtain ⟨p, x, sv, rfl, sp, dx, dsv⟩ := dp_two o1
                obtain ⟨dss, ek⟩ := hkey t.1
                have dx' := dx
                rw [ek] at dx'
                obtain ⟨ka, _, rfl, _, _⟩ := dp_tuple dx'
                obtain ⟨sa, rfl, ss⟩ := dp_share dsv
                obtain ⟨xs, ed, hk, hp⟩ := dh.gr g1
                have ok := gok_all hsm'
                have st := hsm y t eT
                have l20 : ts.length ≤ 19 := by split at hj <;> omega
                have lim := gok_lim ok (by omega)
                have lx : xs.length < sizeLine := by
                  rw [paired_len hp]
                  exact Nat.lt_of_le_of_lt (Nat.le_trans ok.1 l20) (by decide)
                have at1 : atI [V.ref ka, V.ref sa] 1 = some (.ref sa) := atI_nat (j := 1) rfl
                have fin_ : ∀ (H3 : Hp) (r : Int × Int) (pr : Addr), Gr H' H3 → H3 pr = none → r = addF ((getA (ts.foldl addG []) t.1).getD (0, 1)) t.2 → ∀ H4, H4 = upd H3 pr (.tup [.int r.1, .int r.2]) →
                    Gr H3 H4 ∧ H4 d = some (kdO P w eG d xs) ∧ Keys eG K H4 xs ∧ Dp K H4 (.ref ka) (eG.D t.1) ∧ DN P w K eG shareD (upd H4 d (kdO P w eG d (putN xs t.1 ka (.ref pr)))) d ((ts ++ [t]).foldl addG []) := by
                  intro H3 r pr g3 hpr er H4 eH
                  have g4 : Gr H3 H4 := by rw [eH]; exact Gr.new hpr
                  have g := g3.trans g4
                  have dr : Dp K H4 (.ref pr) (shareD r) := .tup (st_of (by rw [eH]; exact upd_same)) (.cons (.int _) (.cons (.int _) .nil))
                  have dk4 := Dp.gr g _ _ dx
                  refine ⟨g4, g _ _ ed, hk.gr g, dk4, ?_⟩
                  rw [er] at dr
                  rw [List.foldl_append]
                  exact DN.put nl_share (g _ _ ed) (hk.gr g) (vrel_gr g hp) ok.2.1 dk4 dr
                have hend : terms term (ws.drop i) i = pre (ts ++ [t]) (if (j + 1) % 2 = 0 then terms term (ws.drop (i + (j + 1))) (i + (j + 1)) else termsB term (ws.drop (i + (j + 1))) (i + (j + 1))) := by
                  rw [ht, if_pos hj2, if_neg (by omega)]
                  rcases hrest with ⟨r, e1, e2, _⟩ | ⟨_, e, _, _⟩
                  · rw [e1, terms_some eT, pre_pre, ← e2] <;> rfl
                  · rw [e, hem] at eT
                    cases eT
                have sm2 : ∀ u ∈ ts ++ [t], small u := fun u hu => by
                  rcases List.mem_append.mp hu with h | h
                  · exact hsm' u h
                  · rw [List.mem_singleton.mp h]
                    exact st
                have ln2 : (ts ++ [t]).length ≤ j + 1 := by
                  rw [List.length_append, List.length_singleton]
                  omega
                refine ⟨_, rfl, d, rfl, ⟨xs, ed⟩, _, rfl, p, _, 0, _, rfl, rfl, sp, at0, by show 2 ≤ sizeLine; decide, fun t0 ht0 => ?_⟩
                have g2 := Gr.new (o := .tup [.int 0, .int 1]) ht0
                refine ⟨xs, ka, t.1, rfl, g2 _ _ ed, hk.gr g2, Dp.gr g2 _ _ dx, ?_⟩
                rcases getN_rel (k := t.1) hp with ⟨e1, e2⟩ | ⟨b, v, e1, e2, dv⟩
                · rw [e2]
                  refine ⟨_, rfl, p, _, 1, _, rfl, rfl, g2.st sp, at1, t0, sa, (0, 1), t.2, rfl, st_of upd_same, g2.st ss, by decide, st.1, ⟨Nat.pow_pos (by decide), Nat.one_lt_two_pow (by decide), lt4000c st.2.1, lt4000c st.2.2⟩, fun pr hpr => ?_⟩
                  obtain ⟨f0, f1, f2, f3, f4⟩ := fin_ _ _ pr g2 hpr (by rw [e1] <;> rfl) _ rfl
                  exact ⟨_, rfl, _, rfl, p, _, 0, _, rfl, rfl, (g2.trans f0).st sp, at0, d, xs, ka, t.1, rfl, rfl, f1, f2, f3, lx, ((gh.trans g1).trans (g2.trans f0)).mut hd0, ts ++ [t], _, _, _, _, rfl, f4, ln2, sm2, hend⟩
                · obtain ⟨aa, rfl, sb⟩ := dp_share dv
                  obtain ⟨m1, m2, m3⟩ := lim _ (getA_mem e1)
                  rw [e2]
                  refine ⟨_, rfl, p, _, 1, _, rfl, rfl, g2.st sp, at1, aa, sa, b, t.2, rfl, g2.st sb, g2.st ss, m1, st.1, ⟨m3, m2, lt4000c st.2.1, lt4000c st.2.2⟩, fun pr hpr => ?_⟩
                  obtain ⟨f0, f1, f2, f3, f4⟩ := fin_ _ _ pr g2 hpr (by rw [e1] <;> rfl) _ rfl
                  exact ⟨_, rfl, _, rfl, p, _, 0, _, rfl, rfl, (g2.trans f0).st sp, at0, d, xs, ka, t.1, rfl, rfl, f1, f2, f3, lx, ((gh.trans g1).trans (g2.trans f0)).mut hd0, ts ++ [t], _, _, _, _, rfl, f4, ln2, sm2, hend⟩
              · rw [if_pos hj2] at c
                refine iteF (by rw [decide_eq_true hj2] <;> rfl) ?_
                refine ⟨gh.trans g1, ts, _, _, _, _, rfl, dh.gr g1, by omega, hsm', ?_⟩
                rw [ht, if_neg (by omega), if_pos (by omega)]
                rcases hrest with ⟨r, e1, e2, _⟩ | ⟨_, _, _, e⟩
                · rw [e1]
                  unfold termsB
                  dsimp only
                  rw [if_pos (nF c), ← e2] <;> rfl
                · omega
      · obtain ⟨gh, ts, z5, z6, z7, z8, rfl, dh, hlen, hsm', ht⟩ := pv
        have ah := gh _ _ ha
        have hn : i ≠ ws.length := fun e => by
          rw [if_pos e, if_neg (by decide), List.drop_eq_nil_of_le (Nat.le_of_eq e.symm), List.drop_eq_nil_of_le (by omega)] at ht
          cases ht
        rw [if_neg hn] at ht hlen
        rw [show i + (ws.length - i) = ws.length by omega, List.drop_length] at ht
        refine ⟨_, rfl, a, _, rfl, .inl (sl_of ah), _, rfl, _, _, rfl, rfl, _, _, rfl, rfl, (show (0 : Int) < 2 by decide), rfl, _, rfl, ?_⟩
        show if decide (V.int (((((ws.map V.str).length : Nat) : Int) - (i : Int)) % 2) = V.int 0) = true then _ else _
        rw [dec_V, List.length_map]
        refine ite2 (fun c => ?_) (fun c => ?_)
        · have c' := dT c
          rw [if_pos (by omega)] at ht
          refine ⟨_, rfl, a, _, rfl, .inl (sl_of ah), _, _, rfl, rfl, by show 2 ≤ sizeLine; decide, fun t ht2 => q _ _ (gh.trans (Gr.new ht2)) ?_⟩
          rw [ht]
          refine ⟨t, rfl, ?_⟩
          rw [show (((ws.length + 1 : Nat)) : Int) = (((ws.map V.str).length : Nat) : Int) + 1 by rw [List.length_map] <;> rfl]
          exact st_of upd_same
        · have c' := dF c
          rw [if_neg (by omega)] at ht
          have ht' : terms term (ws.drop i) i = .ok ts := by
            rw [ht]
            show Except.ok (ts ++ []) = _
            rw [List.append_nil]
          rw [ht'] at q
          have ok := gok_all hsm'
          have l20 : ts.length ≤ 20 := by omega
          refine items_data nl_share dh (Nat.lt_of_le_of_lt (Nat.le_trans ok.1 l20) (by decide)) ok.2.1 (fun x => !decide (x.2.1 = 0)) (fun od xs R h => ⟨_, rfl, h⟩) (fun _ _ => rfl) (fun _ _ => rfl) (fun _ _ => rfl) (fun y p v hy dv H2 C hC h => ?_) (fun D H2 ys hD g2 eD dD => ?_)
          · obtain ⟨b, rfl, sb⟩ := dp_share (hC _ _ (nl_share _) dv)
            refine ⟨_, rfl, b, _, 0, _, rfl, rfl, sb, at0, rfl, _, rfl, ?_⟩
            show C (!decide (V.int y.2.1 = V.int 0)) H2
            rw [dec_V]
            exact h _ (Gr.rfl' _)
          · have dD' : DpAll K H2 ys (((ts.foldl addG []).filter fun x => !decide (x.2.1 = 0)).map (gD eG)) := dD
            refine ⟨D, ys, _, rfl, sl_of eD, dD', hso _, fun zs p H3 hp eH3 dz => ?_⟩
            subst eH3
            refine ⟨by show 2 ≤ sizeLine; decide, fun t ht2 => ?_⟩
            have gp := Gr.new (o := .lst zs) hp
            have gt := Gr.new (o := .tup [.ref p, .non]) ht2
            exact q _ _ ((gh.trans g2).trans (gp.trans gt)) ⟨t, p, zs, rfl, st_of upd_same, gt _ _ upd_same, DpAll.gr (gp.trans gt) _ _ dz⟩
end
end K86
set_option Elab.async false
set_option linter.all false
set_option maxRecDepth 100000
set_option maxHeartbeats 4000000
/-! polys and forms, read by the law -/
namespace K86
open PySem PySem.Spec PyProof.Rows L2
/-- a poly's term as the law tells it -/
def termL (z : Str) : Option (Mo × Int × Int) := (termT z).map fun x => (x.1, x.2, 1)
def lift1 (x : Mo × Int) : Mo × Int × Int := (x.1, x.2, 1)
theorem termL_small : ∀ z t, termL z = some t → small t := fun z t h => by
  unfold termL at h
  cases e : termT z with
  | none => rw [e] at h; cases h
  | some x =>
    rw [e] at h
    cases h
    exact ⟨(by decide : (0 : Int) < 1), termT_lt e, (by decide : (1 : Int).natAbs < 10 ^ 40)⟩
theorem addF_one (a b : Int) : addF (a, 1) (b, 1) = (a + b, 1) := by
  unfold addF
  show fr (a * 1 + b * 1) (1 * 1) = _
  rw [Int.mul_one, Int.mul_one, Int.mul_one, fr_one]
theorem up_lift (k : Mo) (n : Int) : ∀ l : List (Mo × Int), upA (l.map lift1) k (fun o => addF (o.getD (0, 1)) (n, 1)) = (upA l k fun o => o.getD 0 + n).map lift1
  | [] => by
    show [(k, addF (0, 1) (n, 1))] = [(k, 0 + n, 1)]
    rw [addF_one]
  | x :: r => by
    rw [List.map_cons]
    unfold upA
    by_cases e : x.1 = k
    · rw [if_pos e, if_pos (show (lift1 x).1 = k from e), List.map_cons]
      show (k, addF (x.2, 1) (n, 1)) :: _ = (k, x.2 + n, 1) :: _
      rw [addF_one]
    · rw [if_neg e, if_neg (show ¬ (lift1 x).1 = k from e), List.map_cons, up_lift k n r]
theorem fold_lift : ∀ (ts l : List (Mo × Int)), (ts.map lift1).foldl addG (l.map lift1) = (ts.foldl addP l).map lift1
  | [], l => rfl
  | t :: ts, l => by
    rw [List.map_cons, List.foldl_cons, List.foldl_cons]
    have e : addG (l.map lift1) (lift1 t) = (addP l t).map lift1 := up_lift t.1 t.2 l
    rw [e, fold_lift ts]
def exM {α β : Type} (f : α → β) : Except Nat (List α) → Except Nat (List β)
  | .ok l => .ok (l.map f)
  | .error e => .error e
theorem terms_map {τ ρ : Type} {term : Str → Option τ} {f : τ → ρ} : ∀ (n : Nat) (ws : List Str) (i : Nat), ws.length ≤ n → terms (fun z => (term z).map f) ws i = exM f (terms term ws i)
  | _, [], i, _ => rfl
  | 0, w :: r, i, h => by simp at h
  | n + 1, w :: r, i, h => by
    cases e : term w with
    | none => rw [terms_none e, terms_none (by rw [e] <;> rfl)] <;> rfl
    | some t =>
      rw [terms_some e, terms_some (t := f t) (by rw [e] <;> rfl)]
      cases r with
      | nil => rfl
      | cons p r =>
        unfold termsB
        dsimp only
        by_cases q : p = "+"
        · rw [if_pos q, if_pos q, terms_map n r _ (by simp at h; omega)]
          cases terms term r (i + 1 + 1) <;> rfl
        · rw [if_neg q, if_neg q] <;> rfl
/-- what the law's sum of a poly's terms is -/
theorem poly_sum {ts : List (Mo × Int)} (h : PolyOk ts.length (ts.foldl addP [])) : srt ((((ts.map lift1).foldl addG []).filter fun x => !decide (x.2.1 = 0)).map (gD eM)) = (polyOf (ts.foldl addP [])).map lermD := by
  have e := fold_lift ts []
  rw [List.map_nil] at e
  rw [e]
  have e2 : ((((ts.foldl addP []).map lift1).filter fun x => !decide (x.2.1 = 0)).map (gD eM)) = ((ts.foldl addP []).filter fun x => !decide (x.2 = 0)).map lermD := by
    generalize ts.foldl addP [] = l
    induction l with
    | nil => rfl
    | cons x l ih =>
      rw [List.map_cons, List.filter_cons, List.filter_cons]
      show List.map _ (if (!decide (x.2 = 0)) = true then _ else _) = _
      split
      · rw [List.map_cons, List.map_cons, ih] <;> rfl
      · exact ih
  rw [e2]
  refine srtP_lerm ?_
  intro a ha b hb e3
  exact uni_keyed h.2.1 a (List.mem_filter.mp ha).1 b (List.mem_filter.mp hb).1 e3
theorem poly_ok : ∀ (ts : List (Mo × Int)) (k : Nat) (l : List (Mo × Int)), PolyOk k l → (∀ t ∈ ts, t.2.natAbs < 10 ^ 40) → PolyOk (k + ts.length) (ts.foldl addP l)
  | [], k, l, h, _ => h
  | t :: ts, k, l, h, ht => by
    have := poly_ok ts (k + 1) (addP l t) (h.add (ht t List.mem_cons_self)) fun t h => ht t (List.mem_cons_of_mem _ h)
    rw [List.foldl_cons, List.length_cons, show k + (ts.length + 1) = k + 1 + ts.length by omega]
    exact this
end K86
set_option Elab.async false
set_option linter.all false
set_option maxRecDepth 100000
set_option maxHeartbeats 4000000
/-! polys, read by the law -/
namespace K86
open PySem PySem.Spec PyProof.Rows L2
theorem termL_terms (ws : List Str) (i : Nat) : terms termL ws i = exM lift1 (terms termT ws i) := terms_map (f := lift1) ws.length ws i (Nat.le_refl _)
theorem terms_all {τ : Type} {term : Str → Option τ} {p : τ → Prop} (h : ∀ z t, term z = some t → p t) : ∀ (n : Nat) (ws : List Str) (i : Nat) (ts : List τ), ws.length ≤ n → terms term ws i = .ok ts → (∀ t ∈ ts, p t) ∧ ts.length ≤ ws.length
  | _, [], i, ts, _, e => by cases e
  | 0, w :: r, i, ts, hn, _ => by simp at hn
  | n + 1, w :: r, i, ts, hn, e => by
    cases q : term w with
    | none => rw [terms_none q] at e; cases e
    | some t =>
      rw [terms_some q] at e
      cases r with
      | nil =>
        cases e
        exact ⟨fun u hu => by rw [List.mem_singleton.mp hu]; exact h w t q, by simp⟩
      | cons y r =>
        unfold termsB at e
        dsimp only at e
        by_cases q2 : y = "+"
        · rw [if_pos q2] at e
          cases q3 : terms term r (i + 1 + 1) with
          | error x => rw [q3] at e; cases e
          | ok us =>
            rw [q3] at e
            cases e
            obtain ⟨h1, h2⟩ := terms_all h n r _ us (by simp at hn; omega) q3
            refine ⟨fun u hu => ?_, by simp; omega⟩
            rcases List.mem_cons.mp hu with hu | hu
            · rw [hu]
              exact h w t q
            · exact h1 u hu
        · rw [if_neg q2] at e
          cases e
section
variable {P : Program} {w : World} {K : PySem.W.Frag} {mg : Str → Option Value} {base : Heap}
def PairRes {τ : Type} (fD : τ → PyData) (K : PySem.W.Frag) (H : Hp) : Except Nat τ → V → Prop
  | .error e, v => ∃ t x d, v = .ref t ∧ SqT K H t [x, .int e] ∧ Dp K H x d ∧ (d = .none ∨ d = .tuple [])
  | .ok l, v => ∃ t p, v = .ref t ∧ SqT K H t [p, .non] ∧ Dp K H p (fD l)
def sp_reader {τ : Type} (fD : τ → PyData) (K : PySem.W.Frag) (rd : List Str → Nat → Except Nat τ) : Sp := fun vs H Q _ => ∃ (a : Addr) (ws : List Str) (i : Nat), vs = [.ref a, .int i] ∧
  H a = some (.lst (ws.map V.str)) ∧ (∀ y ∈ ws, asc y ∧ y.length + 4 ≤ sizeLine) ∧ i ≤ ws.length ∧ ws.length ≤ 20 ∧ ∀ v H', Gr H H' → PairRes fD K H' (rd ws i) v → Q v H'
theorem sc_law_poly_in : FnScope ["_law_words", "_law_at", "_law_found", "_law_place", "_law_mono_here", "_law_share"] ["_law_words", "_law_at"] (defScope s_law_poly_in) := ⟨rfl, rfl, rfl, by decide +kernel, rfl, by decide +kernel, by decide +kernel⟩
theorem ok_law_poly_in (T : Tx K mg) (F_law_poly_term : Fn P w K mg base CX0 3 "_law_poly_term" ["_law_word"] (sp_G eM K termL)) (F_law_sum_in : Fn P w K mg base CX0 4 "_law_sum_in" ["_law_words", "_law_at", "_law_term", "_law_most"] (sp_sum_in P w mg base eM K termL)) :
    Fn P w K mg base CX0 5 "_law_poly_in" ["_law_words", "_law_at"] (sp_reader polyD K polyW) := by
  refine Fn.of T.f_law_poly_in sc_law_poly_in (fun _ _ _ _ _ _ us hl => match us, hl with | [_, _], _ => rfl) (fun vs H Q E h => ?_) (fun f cdv A outer s H vs Q E hr h => ⟨_, PSs.nox (pss_cons (ps_asg (pe_fn F_law_sum_in (hr.mono (by omega)) (pa_cons (pv 0) (pa_cons (pv 1) (pa_cons (pe_gf F_law_poly_term) (pa_cons pe_int pa_nil))))) (pg_tup rfl (pgs_cons (pg_name (i := 2) sc_law_poly_in.nd rfl (Or.inl rfl)) (pgs_cons (pg_name (i := 3) sc_law_poly_in.nd rfl (Or.inl rfl)) pgs_nil))))
  (pss_one (ps_ret (pe_tup (pa_cons (pe_cut (pe_ifExp (pt_cmpR op_isN (pv 2) pe_non (nomark _)) pe_non (pe_callTy call_tuple_of (by rfl) T.b_tuple (by decide +kernel) (pa_cons (pe_lc (own := [("_law_mono_here", 4), ("_law_share", 5)]) (g := (gTup K 2 (gCons (gName 4) (gCons (gName 5) gNil)))) (tt := tYes) (by rfl) sc_law_poly_in.nd (pi_list (pv 2)) (blkOk_by (own := [("_law_mono_here", 4), ("_law_share", 5)]) (N := ["_law_words", "_law_at", "_law_found", "_law_place", "_law_mono_here", "_law_share"]) (sc := defScope s_law_poly_in) (by decide +kernel)) (fun _ _ _ _ _ => (pg_tup rfl (pgs_cons (pg_name (i := 4) sc_law_poly_in.nd rfl (Or.inl rfl)) (pgs_cons (pg_name (i := 5) sc_law_poly_in.nd rfl (Or.inl rfl)) pgs_nil)))) (fun _ _ _ _ _ => pts_nil) (fun _ _ _ _ _ => (pe_tup (pa_cons (pv 4) (pa_cons (pe_ix (ix_tupK (K := K) rfl) (pv 5) pe_int (fun _ _ => rfl)) pa_nil))))) pa_nil)))) (pa_cons (pv 3) pa_nil)))))), ?_⟩)
  · obtain ⟨a, ws, i, rfl, _⟩ := h
    rfl
  · obtain ⟨a, ws, i, rfl, ha, hw, hi, hl, q⟩ := h
    refine ⟨_, rfl, _, rfl, fun fv hfv => ⟨a, ws, i, 300, fv, rfl, hfv, ha, hw, hi, hl, by decide, by decide, fun v H1 g1 res => ?_⟩⟩
    rw [termL_terms] at res
    cases q1 : terms termT (ws.drop i) i with
    | error e =>
      have ep : polyW ws i = .error e := by
        unfold polyW
        rw [q1]
      rw [ep] at q
      rw [q1] at res
      obtain ⟨t, rfl, st⟩ := res
      refine ⟨t, _, rfl, st, rfl, _, _, rfl, _, _, rfl, rfl, ?_⟩
      refine ⟨fun x H' => x = .non ∧ H' = H1, ⟨_, rfl, rfl, _, rfl, iteT rfl ⟨rfl, rfl⟩⟩, fun x H' hx => ?_⟩
      obtain ⟨rfl, rfl⟩ := hx
      exact ⟨_, rfl, by show 2 ≤ sizeLine; decide, fun t2 ht2 => q _ _ (g1.trans (Gr.new ht2)) ⟨t2, _, _, rfl, st_of upd_same, .non, .inl rfl⟩⟩
    | ok ts =>
      obtain ⟨hts, hlt⟩ := terms_all (fun z t h => termT_lt h) _ _ _ _ (Nat.le_refl _) q1
      have pok := poly_ok ts 0 [] ⟨Nat.le_refl _, List.nodup_nil, fun x hx => by cases hx⟩ hts
      rw [Nat.zero_add] at pok
      have ep : polyW ws i = .ok (polyOf (ts.foldl addP [])) := by
        unfold polyW
        rw [q1]
      rw [ep] at q
      rw [q1] at res
      obtain ⟨t, l, ys, rfl, st, el, dl⟩ := res
      rw [poly_sum pok] at dl
      have lp : (polyOf (ts.foldl addP [])).length ≤ 20 := by
        unfold polyOf
        rw [len_srtP]
        refine Nat.le_trans (List.length_filter_le _ _) (Nat.le_trans pok.1 (Nat.le_trans hlt ?_))
        rw [List.length_drop]
        omega
      generalize polyOf (ts.foldl addP []) = pl at q dl lp
      have ly : ys.length = pl.length := by rw [DpAll.length dl, List.length_map]
      refine ⟨t, _, rfl, st, rfl, _, _, rfl, _, _, rfl, rfl, ?_⟩
      refine ⟨fun x H' => Gr H1 H' ∧ Dp K H' x (polyD pl), ⟨_, rfl, rfl, _, rfl, iteF rfl ⟨_, rfl, l, rfl, ⟨_, sl_of el⟩, fun D hD => lc_dt walk_list (K := K) hD (fun i => (pl.take i).map termD) rfl (fun i hi => ?_) (fun i hi => ?_) (fun H g => sl_of (g _ _ el)) (fun i x H3 H4 hi g3 y C C0 h1 h2 => ?_) (fun H3 zs g3 e3 d3 => ?_)⟩⟩, fun x H' hx => ?_⟩
      · rw [List.length_map, List.length_take]
        exact Nat.lt_of_le_of_lt (Nat.le_trans (Nat.min_le_right _ _) lp) (by decide)
      · refine nlAll_of _ fun d hd => ?_
        obtain ⟨y, _, rfl⟩ := List.mem_map.mp hd
        exact nl_term _
      · obtain ⟨rfl, hx⟩ := y
        obtain ⟨dd, hdd, dp⟩ := DpAll.get i dl hx
        rw [List.getElem?_map] at hdd
        cases ep2 : pl[i]? with
        | none => rw [ep2] at hdd; cases hdd
        | some y =>
          rw [ep2] at hdd
          cases hdd
          obtain ⟨p, m, sv, rfl, sp, dm, ds⟩ := dp_two dp
          obtain ⟨b, rfl, sb⟩ := dp_share ds
          refine ⟨p, _, rfl, g3.st sp, rfl, _, _, rfl, _, _, rfl, rfl, rfl, _, rfl, _, rfl, b, _, 0, _, rfl, rfl, g3.st sb, at0, by show 2 ≤ sizeLine; decide, fun t2 ht2 => ?_⟩
          exact h1 _ _ _ (Gr.new ht2) (take_map_snoc termD ep2) (.tup (st_of upd_same) (.cons (Dp.gr (g3.trans (Gr.new ht2)) _ _ dm) (.cons (.int _) .nil)))
      · rw [ly, List.take_length] at d3
        refine ⟨D, zs, rfl, .inl ⟨sl_of e3, fun u hu => ⟨g3.trans (Gr.new hu), .tup (st_of upd_same) (DpAll.gr (Gr.new hu) _ _ d3)⟩⟩⟩
      · obtain ⟨g2, dx⟩ := hx
        exact ⟨_, rfl, by show 2 ≤ sizeLine; decide, fun t2 ht2 => q _ _ (g1.trans (g2.trans (Gr.new ht2))) ⟨t2, x, rfl, st_of upd_same, Dp.gr (Gr.new ht2) _ _ dx⟩⟩
end
end K86
set_option Elab.async false
set_option linter.all false
set_option maxRecDepth 100000
set_option maxHeartbeats 4000000
/-! forms, read by the law -/
namespace K86
open PySem PySem.Spec PyProof.Rows L2
theorem cut_one (ys : List Str) {k : Nat} (h : k ≤ ys.length) : cutV (ys.map V.str) (some (k : Int)) (some ((k + 1 : Nat) : Int)) = ((ys.drop k).take 1).map V.str := by
  rw [cutV_map, HT.sIx_nat, HT.sIx_nat, Nat.min_eq_left h]
  congr 1
  rw [List.take_eq_take_iff, List.length_drop]
  omega
theorem eqv_strs : ∀ a b : List Str, PyData.eqv (.list (a.map PyData.str)) (.list (b.map PyData.str)) = decide (a = b) := by
  intro a
  induction a with
  | nil => intro b; cases b <;> simp [PyData.eqv, PyData.eqvAll]
  | cons x a ih =>
    intro b
    cases b with
    | nil => simp [PyData.eqv, PyData.eqvAll]
    | cons y b =>
      have h := ih b
      rw [PyData.eqv] at h ⊢
      rw [List.map_cons, List.map_cons, PyData.eqvAll, h]
      have e : PyData.eqv (.str x) (.str y) = decide (x = y) := by
        simp only [PyData.eqv]
        rfl
      rw [e, Bool.eq_iff_iff]
      simp
section
variable {P : Program} {w : World} {K : PySem.W.Frag} {mg : Str → Option Value} {base : Heap}
theorem sc_law_form_in : FnScope ["_law_words", "_law_at", "_law_found", "_law_place"] ["_law_words", "_law_at"] (defScope s_law_form_in) := ⟨rfl, rfl, rfl, by decide +kernel, rfl, by decide +kernel, by decide +kernel⟩
theorem ok_law_form_in (T : Tx K mg) (F_law_form_term : Fn P w K mg base CX0 3 "_law_form_term" ["_law_word"] (sp_G eK K pairU)) (F_law_sum_in : Fn P w K mg base CX0 4 "_law_sum_in" ["_law_words", "_law_at", "_law_term", "_law_most"] (sp_sum_in P w mg base eK K pairU)) :
    Fn P w K mg base CX0 5 "_law_form_in" ["_law_words", "_law_at"] (sp_reader formD K formW) := by
  refine Fn.of T.f_law_form_in sc_law_form_in (fun _ _ _ _ _ _ us hl => match us, hl with | [_, _], _ => rfl) (fun vs H Q E h => ?_) (fun f cdv A outer s H vs Q E hr h => ⟨_, PSs.nox (pss_cons (ps_if (pt_cmpR (op_eqD hr.units) (pe_slice sl_list (pv 0) (po_some (pv 1)) (po_some (pe_op op_add (pv 1) pe_int))) (pe_lst (pa_cons pe_str pa_nil)) (nomark _)) (pss_one (ps_ret (pe_tup (pa_cons (pe_tup pa_nil) (pa_cons (pe_cut (pe_ifExp (pt_cmpR op_eq (pe_callB call_len_seq (by rfl) T.b_len (by decide +kernel) (pa_cons (pv 0) pa_nil)) (pe_op op_add (pv 1) pe_int) (nomark _)) pe_non (pe_op op_add (pv 1) pe_int))) pa_nil))))) pss_nil)
  (pss_cons (ps_asg (pe_fn F_law_sum_in (hr.mono (by omega)) (pa_cons (pv 0) (pa_cons (pv 1) (pa_cons (pe_gf F_law_form_term) (pa_cons pe_int pa_nil))))) (pg_tup rfl (pgs_cons (pg_name (i := 2) sc_law_form_in.nd rfl (Or.inl rfl)) (pgs_cons (pg_name (i := 3) sc_law_form_in.nd rfl (Or.inl rfl)) pgs_nil))))
  (pss_one (ps_ret (pe_tup (pa_cons (pe_cut (pe_ifExp (pt_cmpR op_isN (pv 2) pe_non (nomark _)) pe_non (pe_callTy call_tuple_of (by rfl) T.b_tuple (by decide +kernel) (pa_cons (pv 2) pa_nil)))) (pa_cons (pv 3) pa_nil))))))), ?_⟩)
  · obtain ⟨a, ws, i, rfl, _⟩ := h
    rfl
  · obtain ⟨a, ws, i, rfl, ha, hw, hi, hl, q⟩ := h
    refine ⟨_, rfl, _, rfl, _, rfl, _, rfl, _, _, rfl, rfl, _, rfl, a, _, rfl, sl_of ha, fun p1 hp1 => ?_⟩
    rw [show ((i : Int) + 1) = ((i + 1 : Nat) : Int) by omega, cut_one ws hi]
    have g1 := Gr.new (o := .lst (((ws.drop i).take 1).map V.str)) hp1
    refine ⟨by show 1 ≤ sizeLine; decide, fun p2 hp2 => ?_⟩
    have g2 := Gr.new (o := .lst [.str "0"]) hp2
    have gA := g1.trans g2
    have aA := gA _ _ ha
    have dA : Dp K (upd (upd H p1 (.lst (((ws.drop i).take 1).map V.str))) p2 (.lst [.str "0"])) (.ref p1) (.list (((ws.drop i).take 1).map PyData.str)) := .lst (sl_of (g2 _ _ upd_same)) (DpAll.strs _)
    have dB : Dp K (upd (upd H p1 (.lst (((ws.drop i).take 1).map V.str))) p2 (.lst [.str "0"])) (.ref p2) (.list ([("0" : Str)].map PyData.str)) := .lst (sl_of upd_same) (DpAll.strs [("0" : Str)])
    generalize upd (upd H p1 (.lst (((ws.drop i).take 1).map V.str))) p2 (.lst [.str "0"]) = HA at gA aA dA dB
    refine ⟨_, _, dA, dB, shaped_strs fun y hy => (hw y (List.mem_of_mem_drop (List.mem_of_mem_take hy))).1, shaped_strs (l := [("0" : Str)]) fun y hy => by
      rw [List.mem_singleton.mp hy]
      exact (show ∀ c ∈ tl ("0" : Str), c < 128 by decide +kernel), _, rfl, ?_⟩
    rw [eqv_strs]
    refine ite2 (fun c => ?_) (fun c => ?_)
    · have c' := dT c
      refine ⟨by show 0 ≤ sizeLine; omega, fun p3 hp3 => ?_⟩
      have g3 := Gr.new (o := .tup []) hp3
      have a3 := g3 _ _ aA
      have d3 : Dp K (upd HA p3 (.tup [])) (.ref p3) (formD []) := .tup (st_of upd_same) .nil
      generalize upd HA p3 (.tup []) = H3 at g3 a3 d3
      refine ⟨fun x H' => H' = H3 ∧ x = (if ws.length = i + 1 then V.non else .int ((i : Int) + 2)), ⟨_, rfl, a, _, rfl, .inl (sl_of a3), _, rfl, _, _, rfl, rfl, rfl, _, rfl, ?_⟩, fun x H' hx => ?_⟩
      · show if decide (V.int (((ws.map V.str).length : Nat) : Int) = V.int ((i : Int) + 1)) = true then _ else _
        rw [dec_V, List.length_map]
        refine ite2 (fun c2 => ?_) (fun c2 => ?_)
        · have := dT c2
          exact ⟨rfl, by rw [if_pos (by omega)]⟩
        · have := dF c2
          exact ⟨_, rfl, _, _, rfl, rfl, rfl, by rw [if_neg (by omega)]⟩
      · obtain ⟨rfl, rfl⟩ := hx
        refine ⟨by show 2 ≤ sizeLine; decide, fun t ht => q _ _ (gA.trans (g3.trans (Gr.new ht))) ?_⟩
        unfold formW
        rw [if_pos c']
        by_cases e : ws.length = i + 1
        · rw [if_pos e, if_pos e]
          exact ⟨t, .ref p3, rfl, st_of upd_same, Dp.gr (Gr.new ht) _ _ d3⟩
        · rw [if_neg e, if_neg e]
          refine ⟨t, .ref p3, _, rfl, ?_, Dp.gr (Gr.new ht) _ _ d3, .inr rfl⟩
          rw [show (((i + 2 : Nat)) : Int) = (i : Int) + 2 by omega]
          exact st_of upd_same
    · have ef : formW ws i = match terms pairU (ws.drop i) i with
        | .ok ts => .ok (formOf (ts.foldl addQ []))
        | .error e => .error e := by
        unfold formW
        rw [if_neg (dF c)] <;> rfl
      rw [ef] at q
      refine ⟨_, rfl, _, rfl, fun fv hfv => ⟨a, ws, i, 1000, fv, rfl, hfv, aA, hw, hi, hl, by decide, by decide, fun v H1 g1 res => ?_⟩⟩
      have g01 := gA.trans g1
      cases q1 : terms pairU (ws.drop i) i with
      | error e =>
        rw [q1] at q res
        obtain ⟨t, rfl, st⟩ := res
        refine ⟨t, _, rfl, st, rfl, _, _, rfl, _, _, rfl, rfl, ?_⟩
        refine ⟨fun x H' => x = .non ∧ H' = H1, ⟨_, rfl, rfl, _, rfl, iteT rfl ⟨rfl, rfl⟩⟩, fun x H' hx => ?_⟩
        obtain ⟨rfl, rfl⟩ := hx
        exact ⟨_, rfl, by show 2 ≤ sizeLine; decide, fun t2 ht2 => q _ _ (g01.trans (Gr.new ht2)) ⟨t2, _, _, rfl, st_of upd_same, .non, .inl rfl⟩⟩
      | ok ts =>
        rw [q1] at q res
        obtain ⟨t, l, ys, rfl, st, el, dl⟩ := res
        have dl' : DpAll K H1 ys ((formOf (ts.foldl addQ [])).map fermD) := by
          rw [show (formOf (ts.foldl addQ [])).map fermD = srt (((ts.foldl addQ []).filter fun x => !decide (x.2.1 = 0)).map fermD) from (srtF_map _).symm]
          exact dl
        refine ⟨t, _, rfl, st, rfl, _, _, rfl, _, _, rfl, rfl, ?_⟩
        refine ⟨fun x H' => Gr H1 H' ∧ Dp K H' x (formD (formOf (ts.foldl addQ []))), ⟨_, rfl, rfl, _, rfl, iteF rfl ⟨_, rfl, l, ys, rfl, .inl ⟨sl_of el, fun u hu => ⟨Gr.new hu, .tup (st_of upd_same) (DpAll.gr (Gr.new hu) _ _ dl')⟩⟩⟩⟩, fun x H' hx => ?_⟩
        obtain ⟨g2, dx⟩ := hx
        exact ⟨_, rfl, by show 2 ≤ sizeLine; decide, fun t2 ht2 => q _ _ (g01.trans (g2.trans (Gr.new ht2))) ⟨t2, x, rfl, st_of upd_same, Dp.gr (Gr.new ht2) _ _ dx⟩⟩
end
end K86
set_option Elab.async false
set_option linter.all false
set_option maxRecDepth 100000
set_option maxHeartbeats 4000000
/-! the law's readers of polys and forms, put together -/
namespace K86
open PySem PySem.Spec PyProof.Rows L2
section
variable {P : Program} {w : World} {K : PySem.W.Frag} {mg : Str → Option Value} {base : Heap}
theorem Fn.imp {CX : CXT} {k : Nat} {x : Str} {ps : List Str} {sp sp' : Sp} (F : Fn P w K mg base CX k x ps sp) (h : ∀ vs H Q E, sp' vs H Q E → sp vs H Q E) : Fn P w K mg base CX k x ps sp' := by
  obtain ⟨f, fd, a, b⟩ := F
  exact ⟨f, fd, a.imp h, b⟩
theorem poly_term_G (F : Fn P w K mg base CX0 3 "_law_poly_term" ["_law_word"] (sp_law_poly_term K)) : Fn P w K mg base CX0 3 "_law_poly_term" ["_law_word"] (sp_G eM K termL) :=
  F.imp fun vs H Q E h => by
    obtain ⟨z, rfl, ha, hz, q⟩ := h
    refine ⟨z, rfl, ha, by omega, fun v H' g o => q v H' g ?_⟩
    unfold termL
    cases e : termT z with
    | none => rw [e] at o; exact o
    | some x => rw [e] at o; exact o
theorem form_term_G (F : Fn P w K mg base CX0 3 "_law_form_term" ["_law_word"] (sp_law_form_term K)) : Fn P w K mg base CX0 3 "_law_form_term" ["_law_word"] (sp_G eK K pairU) :=
  F.imp fun vs H Q E h => by
    obtain ⟨z, rfl, ha, hz, q⟩ := h
    refine ⟨z, rfl, ha, hz, fun v H' g o => q v H' g ?_⟩
    cases e : pairU z with
    | none => rw [e] at o; exact o
    | some x => rw [e] at o; exact o
theorem srt_gM (l : List (Mo × Int × Int)) : SrtOk (l.map (gD eM)) := srtOk_map (f := gD eM) (n := 40) (fun x y => by
    unfold gD shareD
    show PySem.W.alike (.tuple [monoD x.1, _]) (.tuple [monoD y.1, _]) = true
    simp [PySem.W.alike, PySem.W.alikeAll, alike_mono]) (fun x => ⟨_, _, rfl⟩) (fun x => by
    unfold gD shareD
    have := depth_mono x.1
    show (PyData.tuple [monoD x.1, _]).depth ≤ 40
    simp only [PyData.depth, PyData.depthAll]
    omega) (by decide) l
end
end K86
set_option Elab.async false
set_option linter.all false
set_option maxRecDepth 100000
set_option maxHeartbeats 4000000
/-! the law's state -/
namespace K86
open PySem PySem.Spec PyProof.Rows L2
def stK (r a m b : V) : List (Key × V) := [(.inr "rows", r), (.inr "at", a), (.inr "many", m), (.inr "bad", b)]
theorem s1 : (Str.ofString "rows" = Str.ofString "at") = False := eq_false (by decide +kernel)
theorem s2 : (Str.ofString "rows" = Str.ofString "many") = False := eq_false (by decide +kernel)
theorem s3 : (Str.ofString "rows" = Str.ofString "bad") = False := eq_false (by decide +kernel)
theorem s4 : (Str.ofString "at" = Str.ofString "many") = False := eq_false (by decide +kernel)
theorem s5 : (Str.ofString "at" = Str.ofString "bad") = False := eq_false (by decide +kernel)
theorem s6 : (Str.ofString "many" = Str.ofString "bad") = False := eq_false (by decide +kernel)
theorem s7 : (Str.ofString "at" = Str.ofString "rows") = False := eq_false (by decide +kernel)
theorem s8 : (Str.ofString "many" = Str.ofString "at") = False := eq_false (by decide +kernel)
theorem s9 : (Str.ofString "bad" = Str.ofString "rows") = False := eq_false (by decide +kernel)
theorem st_rows {H : Hp} {d : Addr} {r a m b : V} (h : H d = some (.dK (stK r a m b))) : DGet H d (.str "rows") (some r) := by
  have := DGet.k (k := Sum.inr "rows") h
  simpa [valV, stK, s1, s2, s3, s4, s5, s6, kV] using this
theorem st_at {H : Hp} {d : Addr} {r a m b : V} (h : H d = some (.dK (stK r a m b))) : DGet H d (.str "at") (some a) := by
  have := DGet.k (k := Sum.inr "at") h
  simpa [valV, stK, s1, s2, s3, s4, s5, s6, kV] using this
theorem st_many {H : Hp} {d : Addr} {r a m b : V} (h : H d = some (.dK (stK r a m b))) : DGet H d (.str "many") (some m) := by
  have := DGet.k (k := Sum.inr "many") h
  simpa [valV, stK, s1, s2, s3, s4, s5, s6, kV] using this
theorem st_bad {H : Hp} {d : Addr} {r a m b : V} (h : H d = some (.dK (stK r a m b))) : DGet H d (.str "bad") (some b) := by
  have := DGet.k (k := Sum.inr "bad") h
  simpa [valV, stK, s1, s2, s3, s4, s5, s6, kV] using this
theorem s10 : (Str.ofString "many" = Str.ofString "rows") = False := eq_false (by decide +kernel)
theorem s11 : (Str.ofString "bad" = Str.ofString "at") = False := eq_false (by decide +kernel)
theorem s12 : (Str.ofString "bad" = Str.ofString "many") = False := eq_false (by decide +kernel)
theorem st_putA {H : Hp} {d : Addr} {r a m b a' : V} (h : H d = some (.dK (stK r a m b))) : DPut H d (.str "at") a' (upd H d (.dK (stK r a' m b))) := by
  have := DPut.k (k := Sum.inr "at") (v := a') h (by show 4 < sizeLine; decide)
  simpa [putK, stK, s1, s2, s3, s4, s5, s6, s7, s8, s9, s10, s11, s12, kV] using this
theorem st_putM {H : Hp} {d : Addr} {r a m b m' : V} (h : H d = some (.dK (stK r a m b))) : DPut H d (.str "many") m' (upd H d (.dK (stK r a m' b))) := by
  have := DPut.k (k := Sum.inr "many") (v := m') h (by show 4 < sizeLine; decide)
  simpa [putK, stK, s1, s2, s3, s4, s5, s6, s7, s8, s9, s10, s11, s12, kV] using this
theorem st_putB {H : Hp} {d : Addr} {r a m b b' : V} (h : H d = some (.dK (stK r a m b))) : DPut H d (.str "bad") b' (upd H d (.dK (stK r a m b'))) := by
  have := DPut.k (k := Sum.inr "bad") (v := b') h (by show 4 < sizeLine; decide)
  simpa [putK, stK, s1, s2, s3, s4, s5, s6, s7, s8, s9, s10, s11, s12, kV] using this
section
variable {P : Program} {w : World} {K : PySem.W.Frag} {mg : Str → Option Value} {base : Heap}
/-- a word can't stand: told once -/
def sp_law_fail (K : PySem.W.Frag) : Sp := fun vs H Q _ => ∃ (d : Addr) (r m b : V) (a : Int) (wd : Int), vs = [.ref d, .int wd] ∧ H d = some (.dK (stK r (.int a) m b)) ∧
  (b ≠ .non → Q .non H) ∧ (b = .non → ∀ t H', GrBut d H H' → H' d = some (.dK (stK r (.int a) m (.ref t))) → SqT K H' t [.str "row", .int a, .int wd] → Q .non H')
theorem sc_law_fail : FnScope ["_law_state", "_law_word"] ["_law_state", "_law_word"] (defScope s_law_fail) := ⟨rfl, rfl, rfl, by decide +kernel, rfl, by decide +kernel, by decide +kernel⟩
theorem ok_law_fail (T : Tx K mg) : Fn P w K mg base CX0 1 "_law_fail" ["_law_state", "_law_word"] (sp_law_fail K) := by
  refine Fn.of T.f_law_fail sc_law_fail (fun _ _ _ _ _ _ us hl => match us, hl with | [_, _], _ => rfl) (fun vs H Q E h => ?_) (fun f cdv A outer s H vs Q E hr h => ⟨_, PSs.nox (pss_one (ps_cut (ps_if (pt_cmpR op_isN (pe_dget (hu_of hr) (pv 0) pe_str (fun _ _ => rfl)) pe_non (nomark _)) (pss_one (ps_dput (hu_of hr) (pv 0) pe_str (pe_tup (pa_cons pe_str (pa_cons (pe_dget (hu_of hr) (pv 0) pe_str (fun _ _ => rfl)) (pa_cons (pv 1) pa_nil)))) rfl)) pss_nil))), ?_⟩)
  · obtain ⟨d, r, m, b, a, wd, rfl, _⟩ := h
    rfl
  · obtain ⟨d, r, m, b, a, wd, rfl, hd, q1, q2⟩ := h
    refine ⟨_, ?_, fun _ _ h => h⟩
    refine ⟨_, rfl, d, b, rfl, st_bad hd, rfl, _, rfl, ?_⟩
    refine ite2 (fun c => ?_) (fun c => ?_)
    · refine ⟨_, rfl, d, _, rfl, st_at hd, _, rfl, by show 3 ≤ sizeLine; decide, fun t ht => ?_⟩
      have g := Gr.new (o := .tup [.str "row", .int a, .int wd]) ht
      have hd' := g _ _ hd
      refine ⟨_, rfl, d, _, rfl, st_putB hd', ?_⟩
      refine q2 (dT c) t _ (g.but.trans GrBut.put) upd_same ?_
      exact (Kt.put (by rw [hd']; exact True.intro)).st (st_of upd_same)
    · exact q1 (dF c)
end
end K86
set_option Elab.async false
set_option linter.all false
set_option maxRecDepth 100000
set_option maxHeartbeats 4000000
/-! rows of programs: the plain mirror that both readers follow -/
namespace K86
open PySem PySem.Spec PyProof.Rows L2
def headsW : List Str := ["both", "loop", "jump", "by", "end"]
/-- words and head of the row at i (from 0), or the word that can't stand -/
def nextW (rows : List Str) (i : Nat) : Except Nat (List Str × Str) := match rows[i]? with
  | none => .error 1
  | some z => if Str.empty ∈ splitB z then .error 0
    else if ((splitB z).drop 1).take 1 = [("=" : Str)] then (if isN ((splitB z).headD Str.empty) = true then .ok (splitB z, Str.empty) else .error 1)
    else if (splitB z).headD Str.empty ∈ headsW then .ok (splitB z, (splitB z).headD Str.empty)
    else .error (if isN ((splitB z).headD Str.empty) = true then 2 else 1)
/-- where a reader stands: rows read, rows of programs -/
abbrev At := Nat × Nat
/-- what a reader of rows makes, or the row (from 1) and the word that can't stand -/
abbrev RdR (α : Type) := Except (Nat × Nat) α
def lifE {α : Type} (i : Nat) : Except Nat α → RdR α
  | .ok x => .ok x
  | .error e => .error (i, e)
/-- whether a box stands behind the last one found -/
def behind (acc : List (Str × PyData)) (y : Str) : Bool := match acc.getLast? with
  | none => true
  | some x => decide (x.1.cps.toList < y.cps.toList)
/-- pairs of a box and what is told of it, up to a row that ends them: found so far, rows read -/
def pairsR (rows : List Str) (last : Str) (most : Nat) (rd : List Str → Nat → Except Nat PyData) : Nat → List (Str × PyData) → Nat → RdR (List (Str × PyData) × Nat)
  | 0, _, i => .error (i + 1, 1)
  | n + 1, acc, i => match nextW rows i with
    | .error e => .error (i + 1, e)
    | .ok (ws, h) => if h = Str.empty then
        (if (decide (acc.length < most) && behind acc (ws.headD Str.empty)) = true then match rd ws 2 with
          | .error e => .error (i + 1, e)
          | .ok d => pairsR rows last most rd n (acc ++ [(ws.headD Str.empty, d)]) (i + 1)
        else .error (i + 1, 1))
      else if h = last ∧ acc.length ≠ 0 then (if ws.length = 1 then .ok (acc, i + 1) else .error (i + 1, 2)) else .error (i + 1, 1)
def pairsD (l : List (Str × PyData)) : PyData := .tuple (l.map fun x => .tuple [.str x.1, x.2])
def polyR (ws : List Str) (i : Nat) : Except Nat PyData := match polyW ws i with
  | .ok l => .ok (polyD l)
  | .error e => .error e
def formR (ws : List Str) (i : Nat) : Except Nat PyData := match formW ws i with
  | .ok l => .ok (formD l)
  | .error e => .error e
mutual
/-- the row that begins with these words, i rows read, m rows of programs, so deep: its data, rows read, rows of programs -/
def rowR (rows : List Str) : Nat → List Str → Str → Nat → Nat → Nat → RdR (PyData × At)
  | 0, _, _, _, i, _ => .error (i, 1)
  | n + 1, ws, h, deep, i, m =>
    if 60 ≤ m ∨ h = "by" ∨ h = "end" then .error (i, 1)
    else if h = Str.empty then (match polyR ws 2 with
      | .error e => .error (i, e)
      | .ok d => .ok (.tuple [.str "set", .str (ws.headD Str.empty), d], i, m + 1))
    else if h = "both" then (if ws.length = 1 then (match pairsR rows "end" 6 polyR (rows.length + 1 - i) [] i with
        | .error e => .error e
        | .ok (l, i') => .ok (.tuple [.str "both", pairsD l], i', m + 1)) else .error (i, 2))
    else if deep = 0 then .error (i, 1)
    else match polyR ws 1 with
      | .error e => .error (i, e)
      | .ok c => if h = "loop" then (match withinR rows n (deep - 1) [] i (m + 1) with
          | .error e => .error e
          | .ok (l, a) => .ok (.tuple [.str "loop", c, .tuple l], a))
        else match pairsR rows "by" 40 formR (rows.length + 1 - i) [] i with
          | .error e => .error e
          | .ok (p, i') => match withinR rows n (deep - 1) [] i' (m + 1) with
            | .error e => .error e
            | .ok (l, a) => .ok (.tuple [.str "jump", c, pairsD p, .tuple l], a)
/-- the program of a row, and the row that ends it -/
def withinR (rows : List Str) : Nat → Nat → List PyData → Nat → Nat → RdR (List PyData × At)
  | 0, _, _, i, _ => .error (i + 1, 1)
  | n + 1, deep, acc, i, m => match nextW rows i with
    | .error e => .error (i + 1, e)
    | .ok (ws, h) => if h = "end" then (if acc.length ≠ 0 then (if ws.length = 1 then .ok (acc, i + 1, m) else .error (i + 1, 2)) else .error (i + 1, 1))
      else if acc.length < 12 then (match rowR rows n ws h deep (i + 1) m with
        | .error e => .error e
        | .ok (d, i', m') => withinR rows n deep (acc ++ [d]) i' m')
      else .error (i + 1, 1)
end
/-- the whole program -/
def allR (rows : List Str) : Nat → List PyData → Nat → Nat → RdR (List PyData)
  | 0, acc, _, _ => .ok acc
  | n + 1, acc, i, m => if i < rows.length then (match nextW rows i with
      | .error e => .error (i + 1, e)
      | .ok (ws, h) => if acc.length < 12 then (match rowR rows (2 * rows.length + 2) ws h 3 (i + 1) m with
          | .error e => .error e
          | .ok (d, i', m') => allR rows n (acc ++ [d]) i' m')
        else .error (i + 1, 1)) else .ok acc
end K86
set_option Elab.async false
set_option linter.all false
set_option maxRecDepth 100000
set_option maxHeartbeats 4000000
/-! a list against the empty one; loops by a measure of their own -/
namespace K86
open PySem PySem.Spec PyProof.Rows L2
def rEqNil (K : PySem.W.Frag) : R2 := fun x y H Q => ∃ (a b : Addr) (xs : List V), x = .ref a ∧ y = .ref b ∧ SqL K H a xs ∧ SqL K H b [] ∧ Q (.bl xs.isEmpty) H
def rNeNil (K : PySem.W.Frag) : R2 := fun x y H Q => ∃ (a b : Addr) (xs : List V), x = .ref a ∧ y = .ref b ∧ SqL K H a xs ∧ SqL K H b [] ∧ Q (.bl (!xs.isEmpty)) H
section
variable {X : Cx}
theorem op_eqNil (hu : X.A.units + 64 < cLine) : OpR X (compareOp .Eq) (rEqNil X.K) := by
  intro pins s σ H x y v u Q I rx ry h
  obtain ⟨a, b, xs, rfl, rfl, ha, hb, q⟩ := h
  cases rx
  cases ry
  obtain ⟨i1, r1, ⟨o1, n1, e1, c1, d1, t1⟩, z1⟩ := I.list ha
  obtain ⟨i2, r2, ⟨o2, n2, e2, c2, d2, t2⟩, z2⟩ := I.list hb
  have L1 : s.heap.IsList a i1.toArray := ⟨_, e1, c1, n1, t1⟩
  have L2 : s.heap.IsList b i2.toArray := ⟨_, e2, c2, n2, t2⟩
  cases r2
  cases xs with
  | nil =>
    cases r1
    exact SeqAt.eq_listAt (e := fun _ => true) L1 L2 rfl (by omega) (fun j h => absurd h (by simp)) ⟨.bl true, H, I, rfl, q⟩
  | cons x xs =>
    cases r1
    exact SeqAt.eq_list_lengthsAt L1 L2 (by simp) (by omega) ⟨.bl false, H, I, rfl, q⟩
theorem op_neNil (hu : X.A.units + 64 < cLine) : OpR X (compareOp .NotEq) (rNeNil X.K) := by
  intro pins s σ H x y v u Q I rx ry h
  obtain ⟨a, b, xs, rfl, rfl, ha, hb, q⟩ := h
  cases rx
  cases ry
  obtain ⟨i1, r1, ⟨o1, n1, e1, c1, d1, t1⟩, z1⟩ := I.list ha
  obtain ⟨i2, r2, ⟨o2, n2, e2, c2, d2, t2⟩, z2⟩ := I.list hb
  have L1 : s.heap.IsList a i1.toArray := ⟨_, e1, c1, n1, t1⟩
  have L2 : s.heap.IsList b i2.toArray := ⟨_, e2, c2, n2, t2⟩
  cases r2
  cases xs with
  | nil =>
    cases r1
    exact (SeqAt.RcNeAt.lists (e := fun _ => true) L1 L2 rfl (by omega) (fun j h => absurd h (by simp))) X.prog X.w X.xe _ ⟨.bl false, H, I, rfl, q⟩
  | cons x xs =>
    cases r1
    exact (SeqAt.RcNeAt.lists_lengths L1 L2 (by simp) (by omega)) X.prog X.w X.xe _ ⟨.bl true, H, I, rfl, q⟩
end
theorem while_m {c : TT} {tb : TS} {D : Ends} {σ : L2.St} {H : Hp} (Pv : Nat → L2.St → Hp → Prop) (m0 : Nat) (h0 : Pv m0 σ H)
    (hs : ∀ m σ H, Pv m σ H → ∀ C : Bool → Hp → Prop, (∀ H1, tb { D with nx := fun σ' H' => ∃ m', m' < m ∧ Pv m' σ' H', ct := fun σ' H' => ∃ m', m' < m ∧ Pv m' σ' H', bk := D.nx } σ H1 → C true H1) → (∀ H1, D.nx σ H1 → C false H1) → c σ H C) : tWhile c tb D σ H :=
  ⟨Pv, ⟨m0, h0⟩, fun m σ H p => hs m σ H p _ (fun H1 q => iteT rfl ⟨_, fun σ' H' z => z, q⟩) (fun H1 q => iteF rfl q)⟩
end K86
set_option Elab.async false
set_option linter.all false
set_option maxRecDepth 100000
set_option maxHeartbeats 4000000
/-! the law's next row -/
namespace K86
open PySem PySem.Spec PyProof.Rows L2
section
variable {P : Program} {w : World} {K : PySem.W.Frag} {mg : Str → Option Value} {base : Heap}
def BadAt (K : PySem.W.Frag) (H : Hp) (b : V) (i e : Nat) : Prop := ∃ t, b = .ref t ∧ SqT K H t [.str "row", .int i, .int e]
def NextOk (K : PySem.W.Frag) (H : Hp) (ws : List Str) (hd : Str) (b : V) (i : Nat) : Except Nat (List Str × Str) → Prop
  | .ok (ws', h') => ws = ws' ∧ hd = h' ∧ b = .non
  | .error e => BadAt K H b i e
/-- rows fit to be read -/
def RowsOk (rows : List Str) : Prop := rows.length ≤ 16777216 ∧ ∀ y ∈ rows, Tt y 200000 19
def sp_law_next (K : PySem.W.Frag) : Sp := fun vs H Q _ => ∃ (d r : Addr) (rows : List Str) (a : Nat) (m : V), vs = [.ref d] ∧ H d = some (.dK (stK (.ref r) (.int a) m .non)) ∧ H r = some (.lst (rows.map V.str)) ∧ RowsOk rows ∧
  ∀ (t p : Addr) (ws : List Str) (hd : Str) (b : V) (H' : Hp), GrBut d H H' → H' d = some (.dK (stK (.ref r) (.int (a + 1 : Nat)) m b)) → H' p = some (.lst (ws.map V.str)) → H p = none → SqT K H' t [.ref p, .str hd] → ws ≠ [] → ws.length ≤ 20 → (∀ y ∈ ws, asc y ∧ y.length + 4 ≤ sizeLine) → NextOk K H' ws hd b (a + 1) (nextW rows a) → Q (.ref t) H'
theorem sc_law_next : FnScope ["_law_state", "_law_words"] ["_law_state"] (defScope s_law_next) := ⟨rfl, rfl, rfl, by decide +kernel, rfl, by decide +kernel, by decide +kernel⟩
theorem ok_law_next (T : Tx K mg) (F_law_fail : Fn P w K mg base CX0 1 "_law_fail" ["_law_state", "_law_word"] (sp_law_fail K)) (F_law_is_name : Fn P w K mg base CX0 1 "_law_is_name" ["_law_word"] (sp_wordB nameL)) : Fn P w K mg base CX0 2 "_law_next" ["_law_state"] (sp_law_next K) := by
  refine Fn.of T.f_law_next sc_law_next (fun _ _ _ _ _ _ us hl => match us, hl with | [_], _ => rfl) (fun vs H Q E h => ?_) (fun f cdv A outer s H vs Q E hr h => ⟨_, PSs.nox (pss_cons (ps_dput (hu_of hr) (pv 0) pe_str (pe_op op_add (pe_dget (hu_of hr) (pv 0) pe_str (fun _ _ => rfl)) pe_int) rfl)
  (pss_cons (ps_set (i := 1) sc_law_next.nd rfl (Or.inl rfl) (pe_cut (pe_ifExp (pt_cmpR op_le (pe_dget (hu_of hr) (pv 0) pe_str (fun _ _ => rfl)) (pe_callB call_len_seq (by rfl) T.b_len (by decide +kernel) (pa_cons (pe_dget (hu_of hr) (pv 0) pe_str (fun _ _ => rfl)) pa_nil)) (nomark _)) (pe_split (pe_ix ix_list (pe_dget (hu_of hr) (pv 0) pe_str (fun _ _ => rfl)) (pe_op op_sub (pe_dget (hu_of hr) (pv 0) pe_str (fun _ _ => rfl)) pe_int) (fun _ _ => rfl)) pe_str) (pe_lst (pa_cons pe_str (pa_cons pe_str pa_nil))))))
  (pss_cons (ps_cut (ps_if (pt_cmpR op_gt (pe_dget (hu_of hr) (pv 0) pe_str (fun _ _ => rfl)) (pe_callB call_len_seq (by rfl) T.b_len (by decide +kernel) (pa_cons (pe_dget (hu_of hr) (pv 0) pe_str (fun _ _ => rfl)) pa_nil)) (nomark _)) (pss_one (ps_expr (pe_fn F_law_fail (hr.mono (by omega)) (pa_cons (pv 0) (pa_cons pe_int pa_nil))))) (pss_one (ps_cut (ps_if (pt_cmpR op_in_seq pe_str (pv 1) (by rfl)) (pss_one (ps_expr (pe_fn F_law_fail (hr.mono (by omega)) (pa_cons (pv 0) (pa_cons pe_int pa_nil))))) (pss_one (ps_if (pt_cmpR (op_eqD hr.units) (pe_slice sl_list (pv 1) (po_some pe_int) (po_some pe_int)) (pe_lst (pa_cons pe_str pa_nil)) (nomark _)) (pss_cons (ps_cut (ps_if (pt_not (pt_val (pe_fn F_law_is_name (hr.mono (by omega)) (pa_cons (pe_ix ix_list (pv 1) pe_int (fun _ _ => rfl)) pa_nil)))) (pss_one (ps_expr (pe_fn F_law_fail (hr.mono (by omega)) (pa_cons (pv 0) (pa_cons pe_int pa_nil))))) pss_nil))
  (pss_one (ps_ret (pe_tup (pa_cons (pv 1) (pa_cons pe_str pa_nil)))))) (pss_one (ps_cut (ps_if (pt_cmpR op_notIn_seq (pe_ix ix_list (pv 1) pe_int (fun _ _ => rfl)) (pe_tup (pa_cons pe_str (pa_cons pe_str (pa_cons pe_str (pa_cons pe_str (pa_cons pe_str pa_nil)))))) (by rfl)) (pss_one (ps_expr (pe_fn F_law_fail (hr.mono (by omega)) (pa_cons (pv 0) (pa_cons (pe_cut (pe_ifExp (pt_val (pe_fn F_law_is_name (hr.mono (by omega)) (pa_cons (pe_ix ix_list (pv 1) pe_int (fun _ _ => rfl)) pa_nil))) pe_int pe_int)) pa_nil))))) pss_nil))))))))))
  (pss_one (ps_ret (pe_tup (pa_cons (pv 1) (pa_cons (pe_ix ix_list (pv 1) pe_int (fun _ _ => rfl)) pa_nil)))))))), ?_⟩)
  · obtain ⟨d, r, rows, a, m, rfl, _⟩ := h
    rfl
  · obtain ⟨d, r, rows, a, m, rfl, hd, hr2, hok, q⟩ := h
    have rd : r ≠ d := fun e => by
      rw [e, hd] at hr2
      cases hr2
    have h1d : (upd H d (.dK (stK (.ref r) (.int ((a : Int) + 1)) m .non))) d = some (.dK (stK (.ref r) (.int ((a : Int) + 1)) m .non)) := upd_same
    have h1r : (upd H d (.dK (stK (.ref r) (.int ((a : Int) + 1)) m .non))) r = some (.lst (rows.map V.str)) := by rw [upd_ne rd]; exact hr2
    have g1 : GrBut d H (upd H d (.dK (stK (.ref r) (.int ((a : Int) + 1)) m .non))) := GrBut.put
    refine ⟨_, rfl, d, _, rfl, st_at hd, _, _, rfl, rfl, _, rfl, d, _, rfl, st_putA hd, ?_⟩
    generalize upd H d (.dK (stK (.ref r) (.int ((a : Int) + 1)) m .non)) = H1 at h1d h1r g1
    rw [show ((a : Int) + 1) = ((a + 1 : Nat) : Int) by omega] at h1d
    refine ⟨fun v H' => Gr H1 H' ∧ ∃ p ws, v = .ref p ∧ H' p = some (.lst (ws.map V.str)) ∧ H1 p = none ∧ (∀ z, rows[a]? = some z → ws = splitB z) ∧ (rows[a]? = none → ws = ([("" : Str), ("x" : Str)] : List Str)), ?_, fun v H2 hv => ?_⟩
    · refine ⟨_, rfl, d, _, rfl, st_at h1d, _, rfl, d, _, rfl, st_rows h1d, r, _, rfl, .inl (sl_of h1r), _, _, rfl, rfl, _, rfl, ?_⟩
      rw [List.length_map]
      refine ite2 (fun c => ?_) (fun c => ?_)
      · have c' := dT c
        have ha : a < rows.length := by omega
        have at_ : atI (rows.map V.str) (((a + 1 : Nat) : Int) - 1) = some (.str rows[a]) := by
          rw [show (((a + 1 : Nat) : Int) - 1) = (a : Int) by omega]
          exact at_str ha
        have hz := (hok.2 _ (List.getElem_mem ha)).l
        have sz : 200000 + 2 ≤ sizeLine := by decide
        refine ⟨_, rfl, d, _, rfl, st_rows h1d, _, rfl, d, _, rfl, st_at h1d, _, _, rfl, rfl, r, _, _, _, rfl, rfl, sl_of h1r, at_, ⟨_, rfl⟩, _, _, rfl, rfl, rfl, by omega, fun p hp => ⟨Gr.new hp, p, _, rfl, upd_same, hp, fun z hz2 => ?_, fun hn => ?_⟩⟩
        · rw [List.getElem?_eq_getElem ha] at hz2
          cases hz2
          rfl
        · rw [List.getElem?_eq_getElem ha] at hn
          cases hn
      · have c' := dF c
        have hn : rows[a]? = none := List.getElem?_eq_none (by omega)
        refine ⟨by show 2 ≤ sizeLine; decide, fun p hp => ⟨Gr.new hp, p, [("" : Str), ("x" : Str)], rfl, upd_same, hp, fun z hz => ?_, fun _ => rfl⟩⟩
        rw [hn] at hz
        cases hz
    · obtain ⟨g2, p, ws, rfl, hp, hpn, hs1, hs2⟩ := hv
      have h2d := g2 _ _ h1d
      have h2r := g2 _ _ h1r
      have pd : p ≠ d := fun e => by
        rw [e, h2d] at hp
        cases hp
      have g02 : GrBut d H H2 := g1.trans g2.but
      have hpH : H p = none := by
        cases e : H p with
        | none => rfl
        | some o => rw [g1 _ _ e pd] at hpn; cases hpn
      have wok : ws ≠ [] ∧ ws.length ≤ 20 ∧ ∀ y ∈ ws, asc y ∧ y.length + 4 ≤ sizeLine := by
        cases hz : rows[a]? with
        | none =>
          rw [hs2 hz]
          refine ⟨by simp, by decide, fun y hy => ?_⟩
          have h : ([("" : Str), ("x" : Str)] : List Str).all (fun z => (tl z).all (fun c => decide (c < 128)) && decide (z.length + 4 ≤ sizeLine)) = true := by decide +kernel
          have := List.all_eq_true.mp h y hy
          simp only [Bool.and_eq_true, decide_eq_true_eq, List.all_eq_true] at this
          exact this
        | some z =>
          rw [hs1 z hz]
          have tz := hok.2 z (List.mem_of_getElem? hz)
          refine ⟨splitB_ne z, ?_, fun y hy => ?_⟩
          · rw [splitB_len]
            have := tz.k
            omega
          · have := splitB_wd tz hy
            have l := this.l
            have sz : 200000 + 4 ≤ sizeLine := by decide
            exact ⟨this.a, by omega⟩
      have fin_ : ∀ (H' : Hp) (hd : Str) (b : V), GrBut d H2 H' → H' d = some (.dK (stK (.ref r) (.int (a + 1 : Nat)) m b)) → NextOk K H' ws hd b (a + 1) (nextW rows a) → ∀ t, H' t = none → Q (.ref t) (upd H' t (.tup [.ref p, .str hd])) := by
        intro H' hd b g h1 ok t ht
        have gt := Gr.new (o := .tup [.ref p, .str hd]) ht
        refine q t p ws hd b _ (g02.trans (g.trans gt.but)) (gt _ _ h1) (gt _ _ (g _ _ hp pd)) hpH (st_of upd_same) wok.1 wok.2.1 wok.2.2 ?_
        cases hn : nextW rows a with
        | ok x => rw [hn] at ok; exact ok
        | error e =>
          rw [hn] at ok
          obtain ⟨u, e1, e2⟩ := ok
          exact ⟨u, e1, gt.st e2⟩
      obtain ⟨w0, wr, ew⟩ : ∃ x y, ws = x :: y := by
        cases ws with
        | nil => exact absurd rfl wok.1
        | cons x y => exact ⟨x, y, rfl⟩
      refine ⟨fun σ' H' => σ' = [some (.ref d), some (.ref p)] ∧ ∃ b, GrBut d H2 H' ∧ H' d = some (.dK (stK (.ref r) (.int (a + 1 : Nat)) m b)) ∧ NextOk K H' ws w0 b (a + 1) (nextW rows a), ?_, fun σ' H' hv => ?_⟩
      · refine ⟨_, rfl, d, _, rfl, st_at h2d, _, rfl, d, _, rfl, st_rows h2d, r, _, rfl, .inl (sl_of h2r), _, _, rfl, rfl, _, rfl, ?_⟩
        rw [List.length_map]
        refine ite2 (fun c => ?_) (fun c => ?_)
        · have hn : rows[a]? = none := List.getElem?_eq_none (by have := dT c; omega)
          refine ⟨_, rfl, d, _, m, .non, _, 1, rfl, h2d, fun h => absurd rfl h, fun _ t H' g h1 st => ⟨rfl, _, g, h1, ?_⟩⟩
          rw [show nextW rows a = .error 1 by unfold nextW; rw [hn]]
          exact ⟨t, rfl, st⟩
        · have hz : rows[a]? = some (rows[a]'(by have := dF c; omega)) := List.getElem?_eq_getElem _
          have ez := hs1 _ hz
          refine ⟨_, ?_, fun _ _ h => h⟩
          refine ⟨_, rfl, p, _, rfl, .inl (sl_of hp), rfl, flat_strs _, _, rfl, ?_⟩
          rw [show (V.str "" : V) = V.str Str.empty from rfl, in_strs]
          refine ite2 (fun c2 => ?_) (fun c2 => ?_)
          · refine ⟨_, rfl, d, _, m, .non, _, 0, rfl, h2d, fun h => absurd rfl h, fun _ t H' g h1 st => ⟨rfl, _, g, h1, ?_⟩⟩
            have : nextW rows a = .error 0 := by
              unfold nextW
              rw [hz]
              dsimp only
              rw [← ez, if_pos (dT c2)]
            rw [this]
            exact ⟨t, rfl, st⟩
          · have l1 : 1 ≤ ws.length := by rw [ew]; simp
            refine ⟨_, rfl, _, rfl, _, rfl, p, _, rfl, sl_of hp, fun p1 hp1 => ?_⟩
            have ec : cutV (ws.map V.str) (some 1) (some 2) = ((ws.drop 1).take 1).map V.str := cut_one ws (k := 1) l1
            rw [ec]
            refine ⟨by show 1 ≤ sizeLine; decide, fun p2 hp2 => ?_⟩
            have gA := (Gr.new (o := .lst (((ws.drop 1).take 1).map V.str)) hp1).trans (Gr.new (o := .lst [.str "="]) hp2)
            have dA : Dp K (upd (upd H2 p1 (.lst (((ws.drop 1).take 1).map V.str))) p2 (.lst [.str "="])) (.ref p1) (.list (((ws.drop 1).take 1).map PyData.str)) := .lst (sl_of ((Gr.new (o := .lst [.str "="]) hp2) _ _ upd_same)) (DpAll.strs _)
            have dB : Dp K (upd (upd H2 p1 (.lst (((ws.drop 1).take 1).map V.str))) p2 (.lst [.str "="])) (.ref p2) (.list ([("=" : Str)].map PyData.str)) := .lst (sl_of upd_same) (DpAll.strs [("=" : Str)])
            generalize upd (upd H2 p1 (.lst (((ws.drop 1).take 1).map V.str))) p2 (.lst [.str "="]) = HA at gA dA dB
            refine ⟨_, _, dA, dB, shaped_strs fun y hy => (wok.2.2 y (List.mem_of_mem_drop (List.mem_of_mem_take hy))).1, shaped_strs (l := [("=" : Str)]) fun y hy => by
              rw [List.mem_singleton.mp hy]
              exact (show ∀ c ∈ tl ("=" : Str), c < 128 by decide +kernel), _, rfl, ?_⟩
            rw [eqv_strs]
            have hAd := gA _ _ h2d
            have hAp := gA _ _ hp
            have w0ok := wok.2.2 w0 (by rw [ew]; exact List.mem_cons_self)
            refine ite2 (fun c3 => ?_) (fun c3 => ?_)
            · have eqn : nextW rows a = if isN w0 = true then .ok (ws, Str.empty) else .error 1 := by
                unfold nextW
                rw [hz]
                dsimp only
                rw [← ez, if_neg (dF c2), if_pos (dT c3), ew] <;> rfl
              refine ⟨fun σ' H' => σ' = [some (.ref d), some (.ref p)] ∧ ∃ b, GrBut d H2 H' ∧ H' d = some (.dK (stK (.ref r) (.int (a + 1 : Nat)) m b)) ∧ NextOk K H' ws "" b (a + 1) (nextW rows a), ?_, fun σ' H' hv => ?_⟩
              · refine ⟨_, rfl, p, _, 0, _, rfl, rfl, sl_of hAp, by rw [ew]; exact at0, w0, rfl, by omega, w0ok.1, fun H3 g3 => ⟨_, rfl, ?_⟩⟩
                show if (!isN w0) = true then _ else _
                refine ite2 (fun c4 => ?_) (fun c4 => ?_)
                · have h0 : isN w0 = false := by
                    cases h : isN w0 with
                    | false => rfl
                    | true => rw [h] at c4; cases c4
                  rw [eqn, h0, if_neg Bool.false_ne_true]
                  exact ⟨_, rfl, d, _, m, .non, _, 1, rfl, g3 _ _ hAd, fun h => absurd rfl h, fun _ t H' g h1 st => ⟨rfl, _, (gA.trans g3).but.trans g, h1, ⟨t, rfl, st⟩⟩⟩
                · have h0 : isN w0 = true := by
                    cases h : isN w0 with
                    | true => rfl
                    | false => rw [h] at c4; cases c4
                  rw [eqn, h0, if_pos rfl]
                  exact ⟨rfl, _, (gA.trans g3).but, g3 _ _ hAd, rfl, rfl, rfl⟩
              · obtain ⟨rfl, b, g, h1, ok⟩ := hv
                exact ⟨_, rfl, by show 2 ≤ sizeLine; decide, fun t ht => fin_ H' "" b g h1 ok t ht⟩
            · have eqn : nextW rows a = if w0 ∈ headsW then .ok (ws, w0) else .error (if isN w0 = true then 2 else 1) := by
                unfold nextW
                rw [hz]
                dsimp only
                rw [← ez, if_neg (dF c2), if_neg (dF c3), ew] <;> rfl
              refine ⟨_, ?_, fun _ _ h => h⟩
              refine ⟨_, rfl, p, _, 0, _, rfl, rfl, sl_of hAp, by rw [ew]; exact at0, by show 5 ≤ sizeLine; decide, fun p5 hp5 => ?_⟩
              have g5 := Gr.new (o := .tup (headsW.map V.str)) hp5
              have hh : SqT K (upd HA p5 (.tup (headsW.map V.str))) p5 (headsW.map V.str) := st_of upd_same
              refine ⟨p5, headsW.map V.str, rfl, .inr hh, rfl, flat_strs _, _, rfl, ?_⟩
              show if (!inV (.str w0) (headsW.map V.str)) = true then _ else _
              rw [in_strs]
              have hBd := g5 _ _ hAd
              have hBp := g5 _ _ hAp
              have gB := gA.trans g5
              show if (!decide (w0 ∈ headsW)) = true then _ else _
              refine ite2 (fun c4 => ?_) (fun c4 => ?_)
              · rw [eqn, if_neg (nT c4)]
                refine ⟨_, rfl, ?_⟩
                refine ⟨fun x H' => Gr (upd HA p5 (.tup (headsW.map V.str))) H' ∧ x = .int ((if isN w0 = true then 2 else 1 : Nat) : Nat), ⟨_, rfl, p, ws.map V.str, 0, .str w0, rfl, rfl, sl_of hBp, by rw [ew]; exact at0, w0, rfl, by omega, w0ok.1, fun H3 g3 => ⟨_, rfl, ?_⟩⟩, fun x H' hx => ?_⟩
                · show if isN w0 = true then _ else _
                  refine ite2 (fun c5 => ?_) (fun c5 => ?_)
                  · rw [c5, if_pos rfl]
                    exact ⟨g3, rfl⟩
                  · rw [c5, if_neg Bool.false_ne_true]
                    exact ⟨g3, rfl⟩
                · obtain ⟨g3, rfl⟩ := hx
                  exact ⟨d, _, m, .non, _, _, rfl, g3 _ _ hBd, fun h => absurd rfl h, fun _ t H' g h1 st => ⟨rfl, _, (gB.trans g3).but.trans g, h1, ⟨t, rfl, st⟩⟩⟩
              · rw [eqn, if_pos (nF c4)]
                exact ⟨rfl, _, gB.but, hBd, rfl, rfl, rfl⟩
      · obtain ⟨rfl, b, g, h1, ok⟩ := hv
        refine ⟨_, rfl, _, rfl, p, _, 0, _, rfl, rfl, sl_of (g _ _ hp pd), by rw [ew]; exact at0, by show 2 ≤ sizeLine; decide, fun t ht => fin_ H' w0 b g h1 ok t ht⟩
end
end K86
set_option Elab.async false
set_option linter.all false
set_option maxRecDepth 100000
set_option maxHeartbeats 4000000
/-! what a reader tells of a row's words, told to the state -/
namespace K86
open PySem PySem.Spec PyProof.Rows L2
section
variable {P : Program} {w : World} {K : PySem.W.Frag} {mg : Str → Option Value} {base : Heap}
abbrev sp_rd (K : PySem.W.Frag) (rd : List Str → Nat → Except Nat PyData) : Sp := sp_reader (τ := PyData) (fun d => d) K rd
theorem rd_poly (F : Fn P w K mg base CX0 5 "_law_poly_in" ["_law_words", "_law_at"] (sp_reader polyD K polyW)) : Fn P w K mg base CX0 5 "_law_poly_in" ["_law_words", "_law_at"] (sp_rd K polyR) :=
  F.imp fun vs H Q E h => by
    obtain ⟨a, ws, i, e, h1, h2, h3, h4, q⟩ := h
    refine ⟨a, ws, i, e, h1, h2, h3, h4, fun v H' g r => q v H' g ?_⟩
    unfold polyR
    cases x : polyW ws i with
    | error e => rw [x] at r; exact r
    | ok l => rw [x] at r; exact r
theorem rd_form (F : Fn P w K mg base CX0 5 "_law_form_in" ["_law_words", "_law_at"] (sp_reader formD K formW)) : Fn P w K mg base CX0 5 "_law_form_in" ["_law_words", "_law_at"] (sp_rd K formR) :=
  F.imp fun vs H Q E h => by
    obtain ⟨a, ws, i, e, h1, h2, h3, h4, q⟩ := h
    refine ⟨a, ws, i, e, h1, h2, h3, h4, fun v H' g r => q v H' g ?_⟩
    unfold formR
    cases x : formW ws i with
    | error e => rw [x] at r; exact r
    | ok l => rw [x] at r; exact r
theorem nl_polyR {ws : List Str} {i : Nat} {d : PyData} (h : polyR ws i = .ok d) : nl d = true := by
  unfold polyR at h
  cases x : polyW ws i with
  | error e => rw [x] at h; cases h
  | ok l => rw [x] at h; cases h; exact nl_poly _
theorem nl_formR {ws : List Str} {i : Nat} {d : PyData} (h : formR ws i = .ok d) : nl d = true := by
  unfold formR at h
  cases x : formW ws i with
  | error e => rw [x] at h; cases h
  | ok l => rw [x] at h; cases h; exact nl_form _
/-- the words of a row -/
def WsOk (ws : List Str) : Prop := ws ≠ [] ∧ ws.length ≤ 20 ∧ ∀ y ∈ ws, asc y ∧ y.length + 4 ≤ sizeLine
def ToldOk (K : PySem.W.Frag) (H : Hp) (A : Nat) (b0 b v : V) (r : Except Nat PyData) : Prop :=
  (b0 ≠ .non → b = b0) ∧ (b0 = .non → match r with
    | .ok x => Dp K H v x ∧ b = .non
    | .error e => BadAt K H b A e)
def sp_law_told (P : Program) (w : World) (mg : Str → Option Value) (base : Heap) (K : PySem.W.Frag) : Sp := fun vs H Q _ => ∃ (d a : Addr) (ws : List Str) (i A : Nat) (fv r m b0 : V) (rd : List Str → Nat → Except Nat PyData), vs = [.ref d, .ref a, .int i, fv] ∧
  IsFn P w K mg base CX0 5 ["_law_words", "_law_at"] (sp_rd K rd) fv ∧ H d = some (.dK (stK r (.int A) m b0)) ∧ H a = some (.lst (ws.map V.str)) ∧ WsOk ws ∧ i ≤ ws.length ∧
  ∀ v b H', GrBut d H H' → H' d = some (.dK (stK r (.int A) m b)) → ToldOk K H' A b0 b v (rd ws i) → Q v H'
theorem sc_law_told : FnScope ["_law_state", "_law_words", "_law_at", "_law_reader", "_law_found", "_law_place"] ["_law_state", "_law_words", "_law_at", "_law_reader"] (defScope s_law_told) := ⟨rfl, rfl, rfl, by decide +kernel, rfl, by decide +kernel, by decide +kernel⟩
theorem ok_law_told (T : Tx K mg) (F_law_fail : Fn P w K mg base CX0 1 "_law_fail" ["_law_state", "_law_word"] (sp_law_fail K)) : Fn P w K mg base CX0 6 "_law_told" ["_law_state", "_law_words", "_law_at", "_law_reader"] (sp_law_told P w mg base K) := by
  refine Fn.of T.f_law_told sc_law_told (fun _ _ _ _ _ _ us hl => match us, hl with | [_, _, _, _], _ => rfl) (fun vs H Q E h => ?_) (fun f cdv A outer s H vs Q E hr h => ?_)
  · obtain ⟨d, a, ws, i, A, fv, r, m, b0, rd, rfl, _⟩ := h
    rfl
  · obtain ⟨d, a, ws, i, N, fv, r, m, b0, rd, rfl, hF, hd, ha, ⟨wn, wl, wk⟩, hi, q⟩ := h
    refine ⟨_, PSs.nox (pss_cons (ps_asg (pe_fnL0 (k := 5) ["_law_words", "_law_at"] (sp_rd K rd) (pv 3) (hr.mono (by omega)) (pa_cons (pv 1) (pa_cons (pv 2) pa_nil))) (pg_tup rfl (pgs_cons (pg_name (i := 4) sc_law_told.nd rfl (Or.inl rfl)) (pgs_cons (pg_name (i := 5) sc_law_told.nd rfl (Or.inl rfl)) pgs_nil))))
  (pss_cons (ps_cut (ps_if (pt_cmpR op_notN (pv 5) pe_non (nomark _)) (pss_one (ps_expr (pe_fn F_law_fail (hr.mono (by omega)) (pa_cons (pv 0) (pa_cons (pv 5) pa_nil))))) pss_nil))
  (pss_one (ps_ret (pv 4))))), ?_⟩
    refine ⟨_, rfl, hF, _, rfl, _, rfl, a, ws, i, rfl, ha, wk, hi, wl, fun v H1 g1 res => ?_⟩
    have hd1 := g1 _ _ hd
    cases q1 : rd ws i with
    | error e =>
      rw [q1] at res q
      obtain ⟨t, x, dd, rfl, st, dx, _⟩ := res
      refine ⟨t, _, rfl, st, rfl, _, _, rfl, _, _, rfl, rfl, ?_⟩
      refine ⟨fun σ' H' => σ' = [some (.ref d), some (.ref a), some (.int i), some fv, some x, some (.int e)] ∧ ∃ b, GrBut d H H' ∧ H' d = some (.dK (stK r (.int N) m b)) ∧ ToldOk K H' N b0 b x (.error e), ?_, fun σ' H' hv => ?_⟩
      · refine ⟨_, rfl, rfl, _, rfl, iteT rfl ?_⟩
        refine ⟨_, rfl, _, rfl, d, r, m, b0, N, e, rfl, hd1, fun h => ?_, fun h t2 H2 g2 h2 s2 => ?_⟩
        · exact ⟨rfl, b0, g1.but, hd1, fun _ => rfl, fun z => absurd z h⟩
        · exact ⟨rfl, .ref t2, g1.but.trans g2, h2, fun z => absurd h z, fun _ => ⟨t2, rfl, s2⟩⟩
      · obtain ⟨rfl, b, g, h1, tk⟩ := hv
        exact ⟨_, rfl, q _ _ _ g h1 tk⟩
    | ok y =>
      rw [q1] at res q
      obtain ⟨t, p, rfl, st, dp⟩ := res
      refine ⟨t, _, rfl, st, rfl, _, _, rfl, _, _, rfl, rfl, ?_⟩
      refine ⟨fun σ' H' => σ' = [some (.ref d), some (.ref a), some (.int i), some fv, some p, some .non] ∧ H' = H1, ?_, fun σ' H' hv => ?_⟩
      · exact ⟨_, rfl, rfl, _, rfl, iteF rfl ⟨rfl, rfl⟩⟩
      · obtain ⟨rfl, rfl⟩ := hv
        exact ⟨_, rfl, q _ b0 _ g1.but hd1 ⟨fun _ => rfl, fun z => ⟨dp, z⟩⟩⟩
end
end K86
set_option Elab.async false
set_option linter.all false
set_option maxRecDepth 100000
set_option maxHeartbeats 4000000
/-! pairs, read by the law -/
namespace K86
open PySem PySem.Spec PyProof.Rows L2
section
variable {P : Program} {w : World} {K : PySem.W.Frag} {mg : Str → Option Value} {base : Heap}
def PairsOk (K : PySem.W.Frag) (H : Hp) (A : Nat) (b v : V) : RdR (List (Str × PyData) × Nat) → Prop
  | .ok (l, i) => b = .non ∧ A = i ∧ Dp K H v (pairsD l)
  | .error (i, e) => BadAt K H b i e
theorem nextW_lt {rows : List Str} {i : Nat} {x : List Str × Str} (h : nextW rows i = .ok x) : i < rows.length := by
  unfold nextW at h
  cases q : rows[i]? with
  | none => rw [q] at h; cases h
  | some z => exact (List.getElem?_eq_some_iff.mp q).1
theorem pairsR_err {rows : List Str} {last : Str} {most : Nat} {rd : List Str → Nat → Except Nat PyData} {acc : List (Str × PyData)} {i e : Nat} (h : nextW rows i = .error e) : pairsR rows last most rd (rows.length + 1 - i) acc i = .error (i + 1, e) := by
  by_cases hi : i < rows.length
  · rw [show rows.length + 1 - i = (rows.length - i) + 1 by omega, pairsR, h]
  · have e1 : e = 1 := by
      unfold nextW at h
      rw [List.getElem?_eq_none (by omega)] at h
      cases h
      rfl
    subst e1
    cases q : rows.length + 1 - i with
    | zero => rw [pairsR]
    | succ n => rw [pairsR, h]
theorem pairsR_ok {rows : List Str} {last : Str} {most : Nat} {rd : List Str → Nat → Except Nat PyData} {acc : List (Str × PyData)} {i : Nat} {ws : List Str} {h : Str} (hn : nextW rows i = .ok (ws, h)) : pairsR rows last most rd (rows.length + 1 - i) acc i =
    if h = Str.empty then
        (if (decide (acc.length < most) && behind acc (ws.headD Str.empty)) = true then match rd ws 2 with
          | .error e => .error (i + 1, e)
          | .ok d => pairsR rows last most rd (rows.length + 1 - (i + 1)) (acc ++ [(ws.headD Str.empty, d)]) (i + 1)
        else .error (i + 1, 1))
      else if h = last ∧ acc.length ≠ 0 then (if ws.length = 1 then .ok (acc, i + 1) else .error (i + 1, 2)) else .error (i + 1, 1) := by
  have hi := nextW_lt hn
  rw [show rows.length + 1 - i = (rows.length - i) + 1 by omega, pairsR, hn, show rows.length + 1 - (i + 1) = rows.length - i by omega] <;> rfl
/-- a reader that may be told -/
structure RdOk (rd : List Str → Nat → Except Nat PyData) : Prop where
  nl : ∀ ws i x, rd ws i = .ok x → K86.nl x = true
def prD (x : Str × PyData) : PyData := .tuple [.str x.1, x.2]
def sp_law_pairs (P : Program) (w : World) (mg : Str → Option Value) (base : Heap) (K : PySem.W.Frag) : Sp := fun vs H Q _ => ∃ (d r : Addr) (rows : List Str) (a most : Nat) (last : Str) (fv m : V) (rd : List Str → Nat → Except Nat PyData), vs = [.ref d, .str last, .int most, fv] ∧
  IsFn P w K mg base CX0 5 ["_law_words", "_law_at"] (sp_rd K rd) fv ∧ RdOk rd ∧ most ≤ 100 ∧ H d = some (.dK (stK (.ref r) (.int a) m .non)) ∧ H r = some (.lst (rows.map V.str)) ∧ RowsOk rows ∧
  ∀ v b A H', GrBut d H H' → H' d = some (.dK (stK (.ref r) (.int (A : Nat)) m b)) → PairsOk K H' A b v (pairsR rows last most rd (rows.length + 1 - a) [] a) → Q v H'
theorem sc_law_pairs : FnScope ["_law_state", "_law_last", "_law_most", "_law_reader", "_law_found", "_law_words", "_law_head"] ["_law_state", "_law_last", "_law_most", "_law_reader"] (defScope s_law_pairs) := ⟨rfl, rfl, rfl, by decide +kernel, rfl, by decide +kernel, by decide +kernel⟩
/-- where the loop of pairs stands -/
def PairsAt (K : PySem.W.Frag) (H : Hp) (rows : List Str) (last : Str) (most : Nat) (rd : List Str → Nat → Except Nat PyData) (f p : Addr) (hd : Str) (A : Nat) (b : V) (R : RdR (List (Str × PyData) × Nat)) (n : Nat) : Prop :=
  (∃ xs, H f = some (.lst xs)) ∧ ∃ ws, H p = some (.lst (ws.map V.str)) ∧ WsOk ws ∧
    ((∃ i e, BadAt K H b i e ∧ R = .error (i, e)) ∨
     (b = .non ∧ ∃ i acc xs, A = i + 1 ∧ n = rows.length + 1 - A ∧ nextW rows i = .ok (ws, hd) ∧ R = pairsR rows last most rd (rows.length + 1 - i) acc i ∧ acc.length ≤ most ∧ H f = some (.lst xs) ∧ DpAll K H xs (acc.map prD) ∧ ∀ x ∈ acc, nl x.2 = true))
theorem at_next {H : Hp} {rows : List Str} {last : Str} {most : Nat} {rd : List Str → Nat → Except Nat PyData} {f p : Addr} {ws : List Str} {hd : Str} {i : Nat} {b : V} {R : RdR (List (Str × PyData) × Nat)} {xs : List V} {acc : List (Str × PyData)} (ok : NextOk K H ws hd b (i + 1) (nextW rows i)) (hp : H p = some (.lst (ws.map V.str))) (wok : WsOk ws) (hf : H f = some (.lst xs)) (dx : DpAll K H xs (acc.map prD)) (hnl : ∀ x ∈ acc, nl x.2 = true) (hl : acc.length ≤ most)
    (eR : R = pairsR rows last most rd (rows.length + 1 - i) acc i) : PairsAt K H rows last most rd f p hd (i + 1) b R (rows.length + 1 - (i + 1)) := by
  refine ⟨⟨_, hf⟩, ws, hp, wok, ?_⟩
  cases q : nextW rows i with
  | error e =>
    rw [q] at ok
    exact .inl ⟨_, _, ok, by rw [eR, pairsR_err q]⟩
  | ok x =>
    obtain ⟨x1, x2⟩ := x
    rw [q] at ok
    obtain ⟨rfl, rfl, rfl⟩ := ok
    exact .inr ⟨rfl, i, acc, xs, rfl, rfl, q, eR, hl, hf, dx, hnl⟩
theorem BadAt.kt {H H' : Hp} {b : V} {i e : Nat} (h : BadAt K H b i e) (g : Kt H H') : BadAt K H' b i e := by
  obtain ⟨t, e1, e2⟩ := h
  exact ⟨t, e1, g.st e2⟩
theorem nl_pairs {acc : List (Str × PyData)} (h : ∀ x ∈ acc, nl x.2 = true) : nlAll (acc.map prD) = true := nlAll_of _ fun d hd => by
  obtain ⟨x, hx, rfl⟩ := List.mem_map.mp hd
  simp [prD, nl, nlAll, h x hx]
theorem last_pair {H : Hp} {xs : List V} {acc : List (Str × PyData)} (dx : DpAll K H xs (acc.map prD)) (hne : xs ≠ []) : ∃ xs' t k v, xs = xs' ++ [.ref t] ∧ SqT K H t [.str k, v] ∧ ∀ y, behind acc y = decide (k.cps.toList < y.cps.toList) := by
  have hl := DpAll.length dx
  rw [List.length_map] at hl
  have e1 : xs[xs.length - 1]? = some (xs.getLast hne) := by
    rw [← List.getLast?_eq_getElem?, List.getLast?_eq_some_getLast hne]
  obtain ⟨dd, hd, dp⟩ := DpAll.get _ dx e1
  rw [List.getElem?_map] at hd
  cases ha : acc[xs.length - 1]? with
  | none => rw [ha] at hd; cases hd
  | some z =>
    rw [ha] at hd
    cases hd
    obtain ⟨t, k, v, e, st, dk, dv⟩ := dp_two dp
    cases dk
    refine ⟨xs.dropLast, t, z.1, v, ?_, st, fun y => ?_⟩
    · rw [← e]
      exact (List.dropLast_concat_getLast hne).symm
    · unfold behind
      rw [List.getLast?_eq_getElem?, ← hl, ha]
theorem nextW_set {rows : List Str} {i : Nat} {ws : List Str} (h : nextW rows i = .ok (ws, Str.empty)) : 2 ≤ ws.length := by
  unfold nextW at h
  cases q : rows[i]? with
  | none => rw [q] at h; cases h
  | some z =>
    rw [q] at h
    dsimp only at h
    split at h
    · cases h
    · split at h
      · rename_i h2
        split at h
        · cases h
          have := congrArg List.length h2
          rw [List.length_take, List.length_drop] at this
          simp at this
          omega
        · cases h
      · split at h
        · rename_i h3
          have e2 := congrArg (fun x => x.2) (Except.ok.inj h)
          dsimp only at e2
          rw [e2] at h3
          exact absurd h3 (by decide +kernel)
        · cases h
theorem nextW_head {rows : List Str} {i : Nat} {ws : List Str} {hd : Str} (h : nextW rows i = .ok (ws, hd)) : hd = Str.empty ∨ hd ∈ headsW := by
  unfold nextW at h
  cases q : rows[i]? with
  | none => rw [q] at h; cases h
  | some z =>
    rw [q] at h
    dsimp only at h
    split at h
    · cases h
    · split at h
      · split at h
        · cases h
          exact .inl rfl
        · cases h
      · split at h
        · rename_i h3
          cases h
          exact .inr h3
        · cases h
theorem decS (x y : Str) : decide (V.str x = V.str y) = decide (x = y) := decide_eq_decide.mpr ⟨fun h => V.str.inj h, fun h => by rw [h]⟩
theorem ne_kind {H : Hp} {a b : Addr} {o u : HO} (h : H a = some o) (g : H b = some u) (n : o ≠ u) : a ≠ b := fun e => by
  rw [e, g] at h
  exact n (Option.some.inj h).symm
theorem ok_law_pairs (T : Tx K mg) (F_law_fail : Fn P w K mg base CX0 1 "_law_fail" ["_law_state", "_law_word"] (sp_law_fail K)) (F_law_next : Fn P w K mg base CX0 2 "_law_next" ["_law_state"] (sp_law_next K))
    (F_law_told : Fn P w K mg base CX0 6 "_law_told" ["_law_state", "_law_words", "_law_at", "_law_reader"] (sp_law_told P w mg base K)) : Fn P w K mg base CX0 7 "_law_pairs" ["_law_state", "_law_last", "_law_most", "_law_reader"] (sp_law_pairs P w mg base K) := by
  refine Fn.of T.f_law_pairs sc_law_pairs (fun _ _ _ _ _ _ us hl => match us, hl with | [_, _, _, _], _ => rfl) (fun vs H Q E h => ?_) (fun f cdv A outer s H vs Q E hr h => ⟨_, PSs.nox (pss_cons (ps_set (i := 4) sc_law_pairs.nd rfl (Or.inl rfl) (pe_lst pa_nil))
  (pss_cons (ps_asg (pe_fn F_law_next (hr.mono (by omega)) (pa_cons (pv 0) pa_nil)) (pg_tup rfl (pgs_cons (pg_name (i := 5) sc_law_pairs.nd rfl (Or.inl rfl)) (pgs_cons (pg_name (i := 6) sc_law_pairs.nd rfl (Or.inl rfl)) pgs_nil))))
  (pss_cons (ps_while PassesOwn.never (pt_cut (PW.pt (pw_and (pt_cmpR op_isN (pe_dget (hu_of hr) (pv 0) pe_str (fun _ _ => rfl)) pe_non (nomark _)) (pw_and1 (pt_cmpR op_eq (pv 6) pe_str (nomark _)))))) (pss_cons (ps_cut (ps_if (pt_cut (PW.pt (pw_or (pt_cmpR op_eq (pe_callB call_len_seq (by rfl) T.b_len (by decide +kernel) (pa_cons (pv 4) pa_nil)) (pv 2) (nomark _)) (pw_or1 (PW.pt (pw_and (pt_cmpR (op_neNil hr.units) (pv 4) (pe_lst pa_nil) (nomark _)) (pw_and1 (pt_cmpR op_ge_str (pe_ix ix_tup (pe_ix ix_list (pv 4) (pe_un un_neg pe_int) (fun _ _ => rfl)) pe_int (fun _ _ => rfl)) (pe_ix ix_list (pv 5) pe_int (fun _ _ => rfl)) (nomark _))))))))) (pss_one (ps_expr (pe_fn F_law_fail (hr.mono (by omega)) (pa_cons (pv 0) (pa_cons pe_int pa_nil))))) pss_nil))
  (pss_cons (ps_expr (pe_bm PySem.F.plainAttrs_list PySem.F.slot_list_append PySem.F.type_list_append mt_append (pv 4) (pa_cons (pe_tup (pa_cons (pe_ix ix_list (pv 5) pe_int (fun _ _ => rfl)) (pa_cons (pe_fn F_law_told (hr.mono (by omega)) (pa_cons (pv 0) (pa_cons (pv 5) (pa_cons pe_int (pa_cons (pv 3) pa_nil))))) pa_nil))) pa_nil)))
  (pss_one (ps_asg (pe_cut (pe_ifExp (pt_cmpR op_isN (pe_dget (hu_of hr) (pv 0) pe_str (fun _ _ => rfl)) pe_non (nomark _)) (pe_fn F_law_next (hr.mono (by omega)) (pa_cons (pv 0) pa_nil)) (pe_tup (pa_cons (pv 5) (pa_cons (pv 6) pa_nil))))) (pg_tup rfl (pgs_cons (pg_name (i := 5) sc_law_pairs.nd rfl (Or.inl rfl)) (pgs_cons (pg_name (i := 6) sc_law_pairs.nd rfl (Or.inl rfl)) pgs_nil))))))))
  (pss_cons (ps_cut (ps_if (pt_cut (PW.pt (pw_or (pt_cmpR op_ne (pv 6) (pv 1) (nomark _)) (pw_or1 (pt_cmpR (op_eqNil hr.units) (pv 4) (pe_lst pa_nil) (nomark _)))))) (pss_one (ps_expr (pe_fn F_law_fail (hr.mono (by omega)) (pa_cons (pv 0) (pa_cons pe_int pa_nil))))) pss_nil))
  (pss_cons (ps_cut (ps_if (pt_cmpR op_gt (pe_callB call_len_seq (by rfl) T.b_len (by decide +kernel) (pa_cons (pv 5) pa_nil)) pe_int (nomark _)) (pss_one (ps_expr (pe_fn F_law_fail (hr.mono (by omega)) (pa_cons (pv 0) (pa_cons pe_int pa_nil))))) pss_nil))
  (pss_one (ps_ret (pe_callTy call_tuple_of (by rfl) T.b_tuple (by decide +kernel) (pa_cons (pv 4) pa_nil))))))))), ?_⟩)
  · obtain ⟨d, r, rows, a, most, last, fv, m, rd, rfl, _⟩ := h
    rfl
  · obtain ⟨d, r, rows, a, most, last, fv, m, rd, rfl, hF, hrd, hmost, hd, hr2, hok, q⟩ := h
    have rnd : r ≠ d := ne_kind hr2 hd (fun e => by cases e)
    generalize eR : pairsR rows last most rd (rows.length + 1 - a) [] a = R at q
    refine ⟨by show 0 ≤ sizeLine; decide, fun f hfn => ?_⟩
    have g0 := Gr.new (o := .lst []) hfn
    have hf0 : (upd H f (.lst [])) f = some (.lst []) := upd_same
    have hd0 := g0 _ _ hd
    have hr0 := g0 _ _ hr2
    generalize upd H f (.lst []) = H0 at g0 hf0 hd0 hr0
    have fd : f ≠ d := ne_kind hf0 hd0 (fun e => by cases e)
    refine ⟨_, rfl, d, r, rows, a, m, rfl, hd0, hr0, hok, fun t p ws hd b H1 g1 h1 hp _ st wn wl wk ok => ?_⟩
    refine ⟨t, _, rfl, st, rfl, _, _, rfl, _, _, rfl, rfl, ?_⟩
    refine while_m (fun n σ Hh => ∃ p hd A b, σ = [some (.ref d), some (.str last), some (.int most), some fv, some (.ref f), some (.ref p), some (.str hd)] ∧ GrBut d H Hh ∧ Hh d = some (.dK (stK (.ref r) (.int (A : Nat)) m b)) ∧ PairsAt K Hh rows last most rd f p hd A b R n) (rows.length + 1 - (a + 1)) ?_ (fun n σ Hh pv C h1 h2 => ?_)
    · exact ⟨p, hd, a + 1, b, rfl, g0.but.trans g1, h1, at_next ok hp ⟨wn, wl, wk⟩ (g1 _ _ hf0 fd) .nil (fun x hx => by cases hx) (Nat.zero_le _) eR.symm⟩
    · obtain ⟨p, hd, A, b, rfl, gh, hdh, ⟨xs0, hf0⟩, ws, hp, wok, alt⟩ := pv
      have hrh := gh _ _ hr2 rnd
      obtain ⟨w0, wr, ew⟩ : ∃ x y, ws = x :: y := by
        cases hw : ws with
        | nil => exact absurd hw wok.1
        | cons x y => exact ⟨x, y, rfl⟩
      have e0 : ws.headD Str.empty = w0 := by rw [ew] <;> rfl
      refine ⟨fun z H' => H' = Hh ∧ z = (decide (b = .non) && decide (hd = Str.empty)), ?_, fun z H' hz => ?_⟩
      · refine ⟨_, rfl, d, b, rfl, st_bad hdh, rfl, _, rfl, ?_⟩
        refine ite2 (fun c => ?_) (fun c => ?_)
        · refine ⟨_, rfl, rfl, _, rfl, rfl, ?_⟩
          rw [dT c]
          rw [decide_eq_true (rfl : V.non = V.non), Bool.true_and]
          exact decS _ _
        · refine ⟨rfl, ?_⟩
          rw [decide_eq_false (dF c)] <;> rfl
      · obtain ⟨eH, rfl⟩ := hz
        rw [eH]
        refine wayB (fun c => h1 _ ?_) (fun c => h2 _ ?_)
        · have c' := Bool.and_eq_true_iff.mp c
          have eb := of_decide_eq_true c'.1
          have eh := of_decide_eq_true c'.2
          subst eb
          subst eh
          rcases alt with ⟨i, e, ⟨t, et, _⟩, _⟩ | ⟨_, i, acc, xs, rfl, rfl, hn, hR, hl, hf, dx, hnl⟩
          · cases et
          have hi := nextW_lt hn
          have lx : xs.length = acc.length := by rw [DpAll.length dx, List.length_map]
          have sz100 : 100 < sizeLine := by decide
          rw [pairsR_ok hn, if_pos rfl, e0] at hR
          have good : ∀ bb : Bool, bb = (decide (acc.length < most) && behind acc w0) → bb = (decide (acc.length < most) && behind acc w0) := fun _ h => h
          refine ⟨fun σ' H' => σ' = [some (.ref d), some (.str last), some (.int most), some fv, some (.ref f), some (.ref p), some (.str Str.empty)] ∧ ∃ b, GrBut d Hh H' ∧ H' d = some (.dK (stK (.ref r) (.int (i + 1 : Nat)) m b)) ∧
            (((decide (acc.length < most) && behind acc w0) = true ∧ b = .non) ∨ ((decide (acc.length < most) && behind acc w0) = false ∧ BadAt K H' b (i + 1) 1)), ?_, fun σ' H' hv => ?_⟩
          · refine ⟨fun z H' => Gr Hh H' ∧ z = !(decide (acc.length < most) && behind acc w0), ?_, fun z H' hz => ?_⟩
            · refine ⟨_, rfl, f, xs, rfl, .inl (sl_of hf), _, rfl, rfl, _, rfl, ite2 (fun c => ?_) (fun c => ?_)⟩
              · refine ⟨Gr.rfl' _, ?_⟩
                have := V.int.inj (dT c)
                rw [decide_eq_false (by omega : ¬ acc.length < most)] <;> rfl
              · have c1 : acc.length < most := by
                  have : ¬ ((xs.length : Nat) : Int) = (most : Int) := fun e => dF c (by rw [e])
                  omega
                rw [decide_eq_true c1, Bool.true_and]
                refine ⟨_, rfl, by show 0 ≤ sizeLine; decide, fun u hu => ?_⟩
                have gu := Gr.new (o := .lst []) hu
                have hf1 := gu _ _ hf
                have hp1 := gu _ _ hp
                have dx1 := DpAll.gr gu _ _ dx
                have hu1 : (upd Hh u (.lst [])) u = some (.lst []) := upd_same
                generalize upd Hh u (.lst []) = H1 at gu hf1 hp1 dx1 hu1
                refine ⟨f, u, xs, rfl, rfl, sl_of hf1, sl_of hu1, _, rfl, ite2 (fun c2 => ?_) (fun c2 => ?_)⟩
                · have hne : xs ≠ [] := fun e => by
                    rw [e] at c2
                    cases c2
                  obtain ⟨xs', t, k, v, ex, st, hb⟩ := last_pair dx1 hne
                  refine ⟨_, rfl, _, rfl, f, xs, _, _, rfl, rfl, sl_of hf1, by rw [ex]; exact atI_last _ _, t, _, 0, _, rfl, rfl, st, at0, _, rfl, p, _, 0, _, rfl, rfl, sl_of hp1, by rw [ew]; exact at0, k, w0, rfl, rfl, _, rfl, gu, ?_⟩
                  rw [hb]
                · have hne : xs = [] := by
                    cases hx : xs with
                    | nil => rfl
                    | cons a r => rw [hx] at c2; cases c2
                  refine ⟨gu, ?_⟩
                  have : acc = [] := List.eq_nil_of_length_eq_zero (by rw [← lx, hne] <;> rfl)
                  rw [this] <;> rfl
            · obtain ⟨g, rfl⟩ := hz
              refine ite2 (fun c => ?_) (fun c => ?_)
              · refine ⟨_, rfl, d, _, m, .non, _, 1, rfl, g _ _ hdh, fun h => absurd rfl h, fun _ t H' g1 h1 st => ?_⟩
                exact ⟨rfl, _, g.but.trans g1, h1, .inr ⟨by rw [Bool.not_eq_true'] at c; exact c, t, rfl, st⟩⟩
              · exact ⟨rfl, _, g.but, g _ _ hdh, .inl ⟨(by cases hgd : (decide (acc.length < most) && behind acc w0) with | true => rfl | false => rw [hgd] at c; cases c), rfl⟩⟩
          · obtain ⟨rfl, b1, g1, h1d, alt⟩ := hv
            have h1p := g1 _ _ hp (ne_kind hp hdh (fun e => by cases e))
            have h1f := g1 _ _ hf fd
            refine ⟨_, rfl, .inl ⟨rfl, _, sl_of h1f⟩, _, rfl, p, _, 0, _, rfl, rfl, sl_of h1p, by rw [ew]; exact at0, _, rfl, _, rfl, _, rfl, d, p, ws, 2, i + 1, fv, .ref r, m, b1, rd, rfl, hF, h1d, h1p, wok, nextW_set hn, fun v b2 H3 g3 h3d tok => ?_⟩
            refine ⟨by show 2 ≤ sizeLine; decide, fun t ht => ?_⟩
            have h3f := g3 _ _ h1f fd
            have h3p := g3 _ _ h1p (ne_kind hp hdh (fun e => by cases e))
            have ft : f ≠ t := ne_of_none h3f ht
            have pf : p ≠ f := fun e => by
              rw [e, hf] at hp
              have e2 : xs = ws.map V.str := HO.lst.inj (Option.some.inj hp)
              have hne : xs ≠ [] := by rw [e2, ew]; exact fun z => by cases z
              obtain ⟨xs', t', k, v', ex, _⟩ := last_pair dx hne
              have hm : V.ref t' ∈ ws.map V.str := by rw [← e2, ex]; simp
              obtain ⟨y, _, ey⟩ := List.mem_map.mp hm
              cases ey
            have gt := Gr.new (o := .tup [.str w0, v]) ht
            have h4f := gt _ _ h3f
            have h4d := gt _ _ h3d
            have h4p := gt _ _ h3p
            have h4t : (upd H3 t (.tup [.str w0, v])) t = some (.tup [.str w0, v]) := upd_same
            refine ⟨f, xs, .ref t, rfl, rfl, h4f, by omega, ?_⟩
            generalize upd H3 t (.tup [.str w0, v]) = H4 at gt h4f h4d h4p h4t
            have h5f : (upd H4 f (.lst (xs ++ [.ref t]))) f = some (.lst (xs ++ [.ref t])) := upd_same
            have h5d : (upd H4 f (.lst (xs ++ [.ref t]))) d = some (.dK (stK (.ref r) (.int (i + 1 : Nat)) m b2)) := by rw [upd_ne (Ne.symm fd)]; exact h4d
            have h5p : (upd H4 f (.lst (xs ++ [.ref t]))) p = some (.lst (ws.map V.str)) := by rw [upd_ne pf]; exact h4p
            have g5 : GrBut d H (upd H4 f (.lst (xs ++ [.ref t]))) := (((gh.trans g1).trans g3).trans gt.but).mut hfn
            have k01 : Kt Hh H3 := (g1.trans g3).kt (by rw [hdh]; exact True.intro)
            have k45 : Kt H4 (upd H4 f (.lst (xs ++ [.ref t]))) := Kt.put (by rw [h4f]; exact True.intro)
            have k5 : Kt Hh (upd H4 f (.lst (xs ++ [.ref t]))) := (k01.trans gt.kt).trans k45
            have s5 : SqT K (upd H4 f (.lst (xs ++ [.ref t]))) t [.str w0, v] := k45.st (st_of h4t)
            have k35 : Kt H3 (upd H4 f (.lst (xs ++ [.ref t]))) := gt.kt.trans k45
            have k15 : Kt _ (upd H4 f (.lst (xs ++ [.ref t]))) := (g3.kt (by rw [h1d]; exact True.intro)).trans k35
            generalize upd H4 f (.lst (xs ++ [.ref t])) = H5 at h5f h5d h5p g5 k45 k5 s5 k35 k15
            have h5r := g5 _ _ hr2 rnd
            refine ⟨_, ?_, fun _ _ h => h⟩
            refine ⟨_, rfl, d, b2, rfl, st_bad h5d, rfl, _, rfl, ite2 (fun c => ?_) (fun c => ?_)⟩
            · have eb := dT c
              have alt' : (decide (acc.length < most) && behind acc w0) = true ∧ b1 = .non := by
                rcases alt with h | ⟨_, t', e1, _⟩
                · exact h
                · have := tok.1 (by rw [e1]; exact fun z => by cases z)
                  rw [eb, e1] at this
                  cases this
              have tk2 := tok.2 alt'.2
              rw [if_pos alt'.1] at hR
              cases hrr : rd ws 2 with
              | error e =>
                rw [hrr] at tk2
                obtain ⟨t', e1, _⟩ := tk2
                rw [eb] at e1
                cases e1
              | ok x =>
                rw [hrr] at tk2 hR
                refine ⟨_, rfl, d, r, rows, i + 1, m, rfl, by rw [h5d, eb], h5r, hok, fun t6 p6 ws6 hd6 b6 H6 g6 h6d h6p _ st6 wn wl wk ok6 => ?_⟩
                refine ⟨t6, _, rfl, st6, rfl, _, _, rfl, _, _, rfl, rfl, ?_⟩
                have h6f := g6 _ _ h5f fd
                have k6 : Kt H5 H6 := g6.kt (by rw [h5d]; exact True.intro)
                refine ⟨rows.length + 1 - (i + 1 + 1), by omega, p6, hd6, i + 1 + 1, b6, rfl, g5.trans g6, h6d, at_next (acc := acc ++ [(w0, x)]) ok6 h6p ⟨wn, wl, wk⟩ h6f ?_ ?_ ?_ hR⟩
                · rw [List.map_append]
                  have nx := hrd.nl _ _ _ hrr
                  refine DpAll.append (DpAll.kt (k5.trans k6) _ _ (nl_pairs hnl) dx) (.cons (.tup (k6.st s5) (.cons (.str _) (.cons (Dp.kt (k35.trans k6) _ _ nx tk2.1) .nil))) .nil)
                · intro y hy
                  rcases List.mem_append.mp hy with hy | hy
                  · exact hnl y hy
                  · rw [List.mem_singleton.mp hy]
                    exact hrd.nl _ _ _ hrr
                · have := (Bool.and_eq_true_iff.mp alt'.1).1
                  have := of_decide_eq_true this
                  rw [List.length_append]
                  simp
                  omega
            · have nb : b2 ≠ .non := dF c
              refine ⟨_, rfl, _, rfl, by show 2 ≤ sizeLine; decide, fun t2 ht2 => ?_⟩
              have g6 := Gr.new (o := .tup [.ref p, .str Str.empty]) ht2
              refine ⟨t2, _, rfl, st_of upd_same, rfl, _, _, rfl, _, _, rfl, rfl, ?_⟩
              refine ⟨rows.length + 1 - (i + 1 + 1), by omega, p, Str.empty, i + 1, b2, rfl, g5.trans g6.but, g6 _ _ h5d, ⟨_, g6 _ _ h5f⟩, ws, g6 _ _ h5p, wok, .inl ?_⟩
              rcases alt with ⟨hg, eb⟩ | ⟨hg, ba⟩
              · have tk2 := tok.2 eb
                rw [if_pos hg] at hR
                cases hrr : rd ws 2 with
                | error e =>
                  rw [hrr] at tk2 hR
                  exact ⟨i + 1, e, (tk2.kt k35).kt g6.kt, hR⟩
                | ok x =>
                  rw [hrr] at tk2
                  exact absurd tk2.2 nb
              · have e12 := tok.1 (by obtain ⟨t', e1, _⟩ := ba; rw [e1]; exact fun z => by cases z)
                rw [if_neg (by rw [hg]; exact Bool.false_ne_true)] at hR
                rw [e12]
                exact ⟨i + 1, 1, (ba.kt k15).kt g6.kt, hR⟩
        · -- behind the loop
          have hdA := hdh
          have l1 : 1 ≤ ws.length := by rw [ew]; simp
          refine ⟨fun σ' H' => σ' = [some (.ref d), some (.str last), some (.int most), some fv, some (.ref f), some (.ref p), some (.str hd)] ∧ ∃ b1, GrBut d Hh H' ∧ H' d = some (.dK (stK (.ref r) (.int (A : Nat)) m b1)) ∧
            ((∃ ri e, BadAt K H' b1 ri e ∧ R = .error (ri, e)) ∨ (b1 = .non ∧ ∃ acc xs, R = (if ws.length = 1 then .ok (acc, A) else .error (A, 2)) ∧ Hh f = some (.lst xs) ∧ DpAll K Hh xs (acc.map prD) ∧ ∀ x ∈ acc, nl x.2 = true)), ?_, fun σ' H' hv => ?_⟩
          · refine ⟨fun z H' => Gr Hh H' ∧ z = (!decide (hd = last) || xs0.isEmpty), ?_, fun z H' hz => ?_⟩
            · refine ⟨_, rfl, _, rfl, rfl, _, rfl, ite2 (fun c1 => ?_) (fun c1 => ?_)⟩
              · refine ⟨Gr.rfl' _, ?_⟩
                rw [decS] at c1
                rw [c1] <;> rfl
              · rw [decS] at c1
                rw [c1, Bool.false_or]
                refine ⟨_, rfl, by show 0 ≤ sizeLine; decide, fun u hu => ?_⟩
                have gu := Gr.new (o := .lst []) hu
                refine ⟨f, u, xs0, rfl, rfl, sl_of (gu _ _ hf0), sl_of upd_same, _, rfl, gu, rfl⟩
            · obtain ⟨g, rfl⟩ := hz
              have hd1 := g _ _ hdh
              rcases alt with ⟨i, e, ba, hR⟩ | ⟨rfl, i, acc, xs, rfl, _, hn, hR, hl, hf, dx, hnl⟩
              · have nb : b ≠ .non := by
                  obtain ⟨t', e1, _⟩ := ba
                  rw [e1]
                  exact fun z => by cases z
                refine ite2 (fun c1 => ?_) (fun c1 => ?_)
                · exact ⟨_, rfl, d, _, m, b, _, 1, rfl, hd1, fun _ => ⟨rfl, b, g.but, hd1, .inl ⟨i, e, ba.kt g.kt, hR⟩⟩, fun z => absurd z nb⟩
                · exact ⟨rfl, b, g.but, hd1, .inl ⟨i, e, ba.kt g.kt, hR⟩⟩
              · have hdn : hd ≠ Str.empty := fun e => by
                  rw [e] at c
                  cases c
                rw [pairsR_ok hn, if_neg hdn] at hR
                rw [hf] at hf0
                have exs : xs = xs0 := HO.lst.inj (Option.some.inj hf0)
                subst exs
                have lx : xs.length = acc.length := by rw [DpAll.length dx, List.length_map]
                have ee : xs.isEmpty = true ↔ acc.length = 0 := by
                  rw [List.isEmpty_iff_length_eq_zero, lx]
                refine ite2 (fun c1 => ?_) (fun c1 => ?_)
                · have hno : ¬ (hd = last ∧ acc.length ≠ 0) := fun z => by
                    rw [decide_eq_true z.1, Bool.not_true, Bool.false_or] at c1
                    exact z.2 (ee.mp c1)
                  rw [if_neg hno] at hR
                  exact ⟨_, rfl, d, _, m, .non, _, 1, rfl, hd1, fun z => absurd rfl z, fun _ t H' g1 h1 st => ⟨rfl, _, g.but.trans g1, h1, .inl ⟨i + 1, 1, ⟨t, rfl, st⟩, hR⟩⟩⟩
                · have hyes : hd = last ∧ acc.length ≠ 0 := by
                    rw [Bool.or_eq_false_iff] at c1
                    refine ⟨by simpa using c1.1, fun z => ?_⟩
                    rw [ee.mpr z] at c1
                    cases c1.2
                  rw [if_pos hyes] at hR
                  exact ⟨rfl, .non, g.but, hd1, .inr ⟨rfl, acc, xs, hR, hf, dx, hnl⟩⟩
          · obtain ⟨rfl, b1, g1, h1d, alt1⟩ := hv
            have h1p := g1 _ _ hp (ne_kind hp hdh (fun e => by cases e))
            have h1f := g1 _ _ hf0 fd
            refine ⟨fun σ' H' => σ' = [some (.ref d), some (.str last), some (.int most), some fv, some (.ref f), some (.ref p), some (.str hd)] ∧ ∃ b1, GrBut d Hh H' ∧ H' d = some (.dK (stK (.ref r) (.int (A : Nat)) m b1)) ∧
              ((∃ ri e, BadAt K H' b1 ri e ∧ R = .error (ri, e)) ∨ (b1 = .non ∧ ∃ acc xs, R = .ok (acc, A) ∧ Hh f = some (.lst xs) ∧ DpAll K Hh xs (acc.map prD) ∧ ∀ x ∈ acc, nl x.2 = true)), ?_, fun σ' H' hv => ?_⟩
            · refine ⟨_, rfl, p, _, rfl, .inl (sl_of h1p), _, _, rfl, rfl, _, rfl, ?_⟩
              rw [List.length_map]
              refine ite2 (fun c1 => ?_) (fun c1 => ?_)
              · have l2 : ¬ ws.length = 1 := by have := dT c1; omega
                rcases alt1 with ⟨ri, e, ba, hR⟩ | ⟨rfl, acc, xs, hR, hf, dx, hnl⟩
                · have nb : b1 ≠ .non := by
                    obtain ⟨t', e1, _⟩ := ba
                    rw [e1]
                    exact fun z => by cases z
                  exact ⟨_, rfl, d, _, m, b1, _, 2, rfl, h1d, fun _ => ⟨rfl, b1, g1, h1d, .inl ⟨ri, e, ba, hR⟩⟩, fun z => absurd z nb⟩
                · rw [if_neg l2] at hR
                  exact ⟨_, rfl, d, _, m, .non, _, 2, rfl, h1d, fun z => absurd rfl z, fun _ t H' g2 h2 st => ⟨rfl, _, g1.trans g2, h2, .inl ⟨A, 2, ⟨t, rfl, st⟩, hR⟩⟩⟩
              · have l2 : ws.length = 1 := by have := dF c1; omega
                refine ⟨rfl, b1, g1, h1d, ?_⟩
                rcases alt1 with h | ⟨e, acc, xs, hR, hf, dx, hnl⟩
                · exact .inl h
                · rw [if_pos l2] at hR
                  exact .inr ⟨e, acc, xs, hR, hf, dx, hnl⟩
            · obtain ⟨rfl, b2, g2, h2d, alt2⟩ := hv
              have h2f := g2 _ _ hf0 fd
              refine ⟨_, rfl, f, xs0, rfl, .inl ⟨sl_of h2f, fun l hl => ?_⟩⟩
              have gl := Gr.new (o := .tup xs0) hl
              refine q (.ref l) b2 A _ ((gh.trans g2).trans gl.but) (gl _ _ h2d) ?_
              rcases alt2 with ⟨ri, e, ba, hR⟩ | ⟨rfl, acc, xs, hR, hf, dx, hnl⟩
              · rw [hR]
                exact ba.kt gl.kt
              · rw [hR]
                rw [hf] at hf0
                have exs : xs = xs0 := HO.lst.inj (Option.some.inj hf0)
                subst exs
                exact ⟨rfl, rfl, .tup (st_of upd_same) (DpAll.kt ((g2.kt (by rw [hdh]; exact True.intro)).trans gl.kt) _ _ (nl_pairs hnl) dx)⟩
end
end K86
set_option Elab.async false
set_option linter.all false
set_option maxRecDepth 100000
set_option maxHeartbeats 4000000
/-! the program of a row, read by the law -/
namespace K86
open PySem PySem.Spec PyProof.Rows L2
theorem pairsR_lt {rows : List Str} {last : Str} {most : Nat} {rd : List Str → Nat → Except Nat PyData} : ∀ (n : Nat) {acc : List (Str × PyData)} {i i' : Nat} {l : List (Str × PyData)}, pairsR rows last most rd n acc i = .ok (l, i') → i < i'
  | 0, acc, i, i', l, h => by
    rw [pairsR] at h
    cases h
  | n + 1, acc, i, i', l, h => by
    rw [pairsR] at h
    split at h
    · cases h
    · split at h
      · split at h
        · split at h
          · cases h
          · have := pairsR_lt n h
            omega
        · cases h
      · split at h
        · split at h
          · cases h
            omega
          · cases h
        · cases h
mutual
theorem rowR_le {rows : List Str} : ∀ (n : Nat) {ws : List Str} {h : Str} {deep i m : Nat} {x : PyData} {a : At}, rowR rows n ws h deep i m = .ok (x, a) → i ≤ a.1
  | 0, _, _, _, _, _, _, _, e => by
    rw [rowR] at e
    cases e
  | n + 1, ws, h, deep, i, m, x, a, e => by
    rw [rowR] at e
    split at e
    · cases e
    · split at e
      · split at e
        · cases e
        · cases e
          exact Nat.le_refl _
      · split at e
        · split at e
          · split at e
            · cases e
            · rename_i l i' q
              cases e
              exact Nat.le_of_lt (pairsR_lt _ q)
          · cases e
        · split at e
          · cases e
          · split at e
            · cases e
            · split at e
              · split at e
                · cases e
                · rename_i q
                  cases e
                  exact withinR_le n q
              · split at e
                · cases e
                · rename_i q0
                  split at e
                  · cases e
                  · rename_i q
                    cases e
                    exact Nat.le_trans (Nat.le_of_lt (pairsR_lt _ q0)) (withinR_le n q)
theorem withinR_le {rows : List Str} : ∀ (n : Nat) {deep : Nat} {acc : List PyData} {i m : Nat} {l : List PyData} {a : At}, withinR rows n deep acc i m = .ok (l, a) → i ≤ a.1
  | 0, _, _, _, _, _, _, e => by
    rw [withinR] at e
    cases e
  | n + 1, deep, acc, i, m, l, a, e => by
    rw [withinR] at e
    split at e
    · cases e
    · split at e
      · split at e
        · split at e
          · cases e
            exact Nat.le_succ _
          · cases e
        · cases e
      · split at e
        · split at e
          · cases e
          · rename_i q
            have h1 := rowR_le n q
            have h2 := withinR_le n e
            dsimp only at h1
            omega
        · cases e
end
section
variable {P : Program} {w : World} {K : PySem.W.Frag} {mg : Str → Option Value} {base : Heap}
def RowOk (K : PySem.W.Frag) (H : Hp) (A M : Nat) (b v : V) : RdR (PyData × At) → Prop
  | .ok (x, i, m) => b = .non ∧ A = i ∧ M = m ∧ Dp K H v x ∧ nl x = true
  | .error (i, e) => BadAt K H b i e
def WithinOk (K : PySem.W.Frag) (H : Hp) (A M : Nat) (b v : V) : RdR (List PyData × At) → Prop
  | .ok (l, i, m) => b = .non ∧ A = i ∧ M = m ∧ Dp K H v (.tuple l) ∧ nlAll l = true
  | .error (i, e) => BadAt K H b i e
def HdOk (ws : List Str) (h : Str) : Prop := (h = Str.empty ∨ h ∈ headsW) ∧ (h = Str.empty → 2 ≤ ws.length)
def sp_law_one (K : PySem.W.Frag) (D0 : Nat) : Sp := fun vs H Q _ => ∃ (d r p : Addr) (rows ws : List Str) (h : Str) (i m D n : Nat), D ≤ D0 ∧ vs = [.ref d, .ref p, .str h, .int D] ∧ H d = some (.dK (stK (.ref r) (.int i) (.int m) .non)) ∧ H r = some (.lst (rows.map V.str)) ∧ RowsOk rows ∧
  H p = some (.lst (ws.map V.str)) ∧ WsOk ws ∧ HdOk ws h ∧ 2 * (rows.length - i) + 2 ≤ n ∧
  ∀ v b A M H', GrBut d H H' → H' d = some (.dK (stK (.ref r) (.int (A : Nat)) (.int (M : Nat)) b)) → RowOk K H' A M b v (rowR rows n ws h D i m) → Q v H'
def sp_law_within (K : PySem.W.Frag) (D0 : Nat) : Sp := fun vs H Q _ => ∃ (d r : Addr) (rows : List Str) (i m D n : Nat), D < D0 ∧ vs = [.ref d, .int D] ∧ H d = some (.dK (stK (.ref r) (.int i) (.int m) .non)) ∧ H r = some (.lst (rows.map V.str)) ∧ RowsOk rows ∧
  2 * (rows.length - i) + 1 ≤ n ∧
  ∀ v b A M H', GrBut d H H' → H' d = some (.dK (stK (.ref r) (.int (A : Nat)) (.int (M : Nat)) b)) → WithinOk K H' A M b v (withinR rows n D [] i m) → Q v H'
/-- where the loop of rows stands -/
def WithAt (K : PySem.W.Frag) (H : Hp) (rows : List Str) (D : Nat) (f p : Addr) (hd : Str) (A M : Nat) (b : V) (R : RdR (List PyData × At)) (k : Nat) : Prop :=
  (∃ xs, H f = some (.lst xs)) ∧ ∃ ws, H p = some (.lst (ws.map V.str)) ∧ WsOk ws ∧
    ((∃ i e, BadAt K H b i e ∧ R = .error (i, e)) ∨
     (b = .non ∧ ∃ i n acc xs, A = i + 1 ∧ k = rows.length + 1 - A ∧ nextW rows i = .ok (ws, hd) ∧ R = withinR rows (n + 1) D acc i M ∧ 2 * (rows.length - i) ≤ n ∧ acc.length ≤ 12 ∧ H f = some (.lst xs) ∧ p ≠ f ∧ DpAll K H xs acc ∧ nlAll acc = true))
theorem at_next2 {H : Hp} {rows : List Str} {D n : Nat} {f p : Addr} {ws : List Str} {hd : Str} {i M : Nat} {b : V} {R : RdR (List PyData × At)} {xs : List V} {acc : List PyData} (ok : NextOk K H ws hd b (i + 1) (nextW rows i)) (hp : H p = some (.lst (ws.map V.str))) (wok : WsOk ws) (hf : H f = some (.lst xs)) (pf : p ≠ f) (dx : DpAll K H xs acc) (hnl : nlAll acc = true) (hl : acc.length ≤ 12)
    (hn : 2 * (rows.length - i) + 1 ≤ n) (eR : R = withinR rows n D acc i M) : WithAt K H rows D f p hd (i + 1) M b R (rows.length + 1 - (i + 1)) := by
  refine ⟨⟨_, hf⟩, ws, hp, wok, ?_⟩
  obtain ⟨n, rfl⟩ : ∃ n', n = n' + 1 := ⟨n - 1, by omega⟩
  cases q : nextW rows i with
  | error e =>
    rw [q] at ok
    exact .inl ⟨_, _, ok, by rw [eR, withinR, q]⟩
  | ok x =>
    obtain ⟨x1, x2⟩ := x
    rw [q] at ok
    obtain ⟨rfl, rfl, rfl⟩ := ok
    exact .inr ⟨rfl, i, n, acc, xs, rfl, rfl, q, eR, by omega, hl, hf, pf, dx, hnl⟩
theorem nlAll_snoc {acc : List PyData} {x : PyData} (h : nlAll acc = true) (g : nl x = true) : nlAll (acc ++ [x]) = true := nlAll_append _ _ h (by simp [nlAll, g])
theorem sc_law_within : FnScope ["_law_state", "_law_deep", "_law_found", "_law_words", "_law_head"] ["_law_state", "_law_deep"] (defScope s_law_within) := ⟨rfl, rfl, rfl, by decide +kernel, rfl, by decide +kernel, by decide +kernel⟩
theorem ok_law_within (T : Tx K mg) (D0 : Nat) (F_law_fail : Fn P w K mg base CX0 1 "_law_fail" ["_law_state", "_law_word"] (sp_law_fail K)) (F_law_next : Fn P w K mg base CX0 2 "_law_next" ["_law_state"] (sp_law_next K))
    (F_law_one : Fn P w K mg base CX0 (9 + 2 * D0) "_law_one" ["_law_state", "_law_words", "_law_head", "_law_deep"] (sp_law_one K D0)) : Fn P w K mg base CX0 (8 + 2 * (D0 + 1)) "_law_within" ["_law_state", "_law_deep"] (sp_law_within K (D0 + 1)) := by
  refine Fn.mono (j := 9 + 2 * D0 + 1) (Fn.of T.f_law_within sc_law_within (fun _ _ _ _ _ _ us hl => match us, hl with | [_, _], _ => rfl) (fun vs H Q E h => ?_) (fun f cdv A outer s H vs Q E hr h => ⟨_, PSs.nox (pss_cons (ps_set (i := 2) sc_law_within.nd rfl (Or.inl rfl) (pe_lst pa_nil))
  (pss_cons (ps_asg (pe_fn F_law_next (hr.mono (by omega)) (pa_cons (pv 0) pa_nil)) (pg_tup rfl (pgs_cons (pg_name (i := 3) sc_law_within.nd rfl (Or.inl rfl)) (pgs_cons (pg_name (i := 4) sc_law_within.nd rfl (Or.inl rfl)) pgs_nil))))
  (pss_cons (ps_while PassesOwn.never (pt_cut (PW.pt (pw_and (pt_cmpR op_isN (pe_dget (hu_of hr) (pv 0) pe_str (fun _ _ => rfl)) pe_non (nomark _)) (pw_and1 (pt_cmpR op_ne (pv 4) pe_str (nomark _)))))) (pss_cons (ps_cut (ps_if (pt_cmpR op_eq (pe_callB call_len_seq (by rfl) T.b_len (by decide +kernel) (pa_cons (pv 2) pa_nil)) pe_int (nomark _)) (pss_one (ps_expr (pe_fn F_law_fail (hr.mono (by omega)) (pa_cons (pv 0) (pa_cons pe_int pa_nil))))) pss_nil))
  (pss_cons (ps_expr (pe_bm PySem.F.plainAttrs_list PySem.F.slot_list_append PySem.F.type_list_append mt_append (pv 2) (pa_cons (pe_cut (pe_ifExp (pt_cmpR op_isN (pe_dget (hu_of hr) (pv 0) pe_str (fun _ _ => rfl)) pe_non (nomark _)) (pe_fn F_law_one (hr.mono (by omega)) (pa_cons (pv 0) (pa_cons (pv 3) (pa_cons (pv 4) (pa_cons (pv 1) pa_nil))))) pe_non)) pa_nil)))
  (pss_one (ps_asg (pe_cut (pe_ifExp (pt_cmpR op_isN (pe_dget (hu_of hr) (pv 0) pe_str (fun _ _ => rfl)) pe_non (nomark _)) (pe_fn F_law_next (hr.mono (by omega)) (pa_cons (pv 0) pa_nil)) (pe_tup (pa_cons (pv 3) (pa_cons (pv 4) pa_nil))))) (pg_tup rfl (pgs_cons (pg_name (i := 3) sc_law_within.nd rfl (Or.inl rfl)) (pgs_cons (pg_name (i := 4) sc_law_within.nd rfl (Or.inl rfl)) pgs_nil))))))))
  (pss_cons (ps_cut (ps_if (pt_cmpR (op_eqNil hr.units) (pv 2) (pe_lst pa_nil) (nomark _)) (pss_one (ps_expr (pe_fn F_law_fail (hr.mono (by omega)) (pa_cons (pv 0) (pa_cons pe_int pa_nil))))) pss_nil))
  (pss_cons (ps_cut (ps_if (pt_cmpR op_gt (pe_callB call_len_seq (by rfl) T.b_len (by decide +kernel) (pa_cons (pv 3) pa_nil)) pe_int (nomark _)) (pss_one (ps_expr (pe_fn F_law_fail (hr.mono (by omega)) (pa_cons (pv 0) (pa_cons pe_int pa_nil))))) pss_nil))
  (pss_one (ps_ret (pe_callTy call_tuple_of (by rfl) T.b_tuple (by decide +kernel) (pa_cons (pv 2) pa_nil))))))))), ?_⟩)) (by omega)
  · obtain ⟨d, r, rows, i, m, D, n, _, rfl, _⟩ := h
    rfl
  · obtain ⟨d, r, rows, a, m, D, n0, hD, rfl, hd, hr2, hok, hn0, q⟩ := h
    have rnd : r ≠ d := ne_kind hr2 hd (fun e => by cases e)
    generalize eR : withinR rows n0 D [] a m = R at q
    refine ⟨by show 0 ≤ sizeLine; decide, fun f hfn => ?_⟩
    have g0 := Gr.new (o := .lst []) hfn
    have hf0 : (upd H f (.lst [])) f = some (.lst []) := upd_same
    have hd0 := g0 _ _ hd
    have hr0 := g0 _ _ hr2
    generalize upd H f (.lst []) = H0 at g0 hf0 hd0 hr0
    have fd : f ≠ d := ne_kind hf0 hd0 (fun e => by cases e)
    refine ⟨_, rfl, d, r, rows, a, .int m, rfl, hd0, hr0, hok, fun t p ws hd b H1 g1 h1 hp hpn st wn wl wk ok => ?_⟩
    refine ⟨t, _, rfl, st, rfl, _, _, rfl, _, _, rfl, rfl, ?_⟩
    have pf0 : p ≠ f := fun e => by
      rw [e, hf0] at hpn
      cases hpn
    refine while_m (fun k σ Hh => ∃ p hd A M b, σ = [some (.ref d), some (.int D), some (.ref f), some (.ref p), some (.str hd)] ∧ GrBut d H Hh ∧ Hh d = some (.dK (stK (.ref r) (.int (A : Nat)) (.int (M : Nat)) b)) ∧ WithAt K Hh rows D f p hd A M b R k) (rows.length + 1 - (a + 1)) ?_ (fun k σ Hh pv C h1 h2 => ?_)
    · exact ⟨p, hd, a + 1, m, b, rfl, g0.but.trans g1, h1, at_next2 ok hp ⟨wn, wl, wk⟩ (g1 _ _ hf0 fd) pf0 .nil rfl (Nat.zero_le _) hn0 eR.symm⟩
    · obtain ⟨p, hd, A, M, b, rfl, gh, hdh, ⟨xs0, hf0⟩, ws, hp, wok, alt⟩ := pv
      have hrh := gh _ _ hr2 rnd
      obtain ⟨w0, wr, ew⟩ : ∃ x y, ws = x :: y := by
        cases hw : ws with
        | nil => exact absurd hw wok.1
        | cons x y => exact ⟨x, y, rfl⟩
      refine ⟨fun z H' => H' = Hh ∧ z = (decide (b = .non) && !decide (hd = ("end" : Str))), ?_, fun z H' hz => ?_⟩
      · refine ⟨_, rfl, d, b, rfl, st_bad hdh, rfl, _, rfl, ?_⟩
        refine ite2 (fun c => ?_) (fun c => ?_)
        · refine ⟨_, rfl, rfl, _, rfl, rfl, ?_⟩
          rw [dT c]
          rw [decide_eq_true (rfl : V.non = V.non), Bool.true_and]
          exact congrArg (fun z => !z) (decS _ _)
        · refine ⟨rfl, ?_⟩
          rw [decide_eq_false (dF c)] <;> rfl
      · obtain ⟨eH, rfl⟩ := hz
        rw [eH]
        refine wayB (fun c => h1 _ ?_) (fun c => h2 _ ?_)
        · have c' := Bool.and_eq_true_iff.mp c
          have eb := of_decide_eq_true c'.1
          have hdn : hd ≠ ("end" : Str) := fun e => by
            rw [e] at c'
            cases c'.2
          subst eb
          rcases alt with ⟨i, e, ⟨t, et, _⟩, _⟩ | ⟨_, i, n, acc, xs, rfl, rfl, hn, hR, hfu, hl, hf, pf, dx, hnl⟩
          · cases et
          have hi := nextW_lt hn
          have lx : xs.length = acc.length := DpAll.length dx
          have sz100 : 100 < sizeLine := by decide
          rw [withinR, hn] at hR
          dsimp only at hR
          rw [if_neg hdn] at hR
          refine ⟨fun σ' H' => σ' = [some (.ref d), some (.int D), some (.ref f), some (.ref p), some (.str hd)] ∧ ∃ b, GrBut d Hh H' ∧ H' d = some (.dK (stK (.ref r) (.int (i + 1 : Nat)) (.int M) b)) ∧
            ((acc.length < 12 ∧ b = .non) ∨ (¬ acc.length < 12 ∧ BadAt K H' b (i + 1) 1)), ?_, fun σ' H' hv => ?_⟩
          · refine ⟨_, rfl, f, xs, rfl, .inl (sl_of hf), rfl, _, rfl, ite2 (fun c => ?_) (fun c => ?_)⟩
            · have := V.int.inj (dT c)
              refine ⟨_, rfl, d, _, .int M, .non, _, 1, rfl, hdh, fun h => absurd rfl h, fun _ t H' g1 h1 st => ?_⟩
              exact ⟨rfl, _, g1, h1, .inr ⟨by omega, t, rfl, st⟩⟩
            · have : ¬ ((xs.length : Nat) : Int) = 12 := fun e => dF c (by rw [e])
              exact ⟨rfl, _, GrBut.rfl' _ _, hdh, .inl ⟨by omega, rfl⟩⟩
          · obtain ⟨rfl, b1, g1, h1d, alt⟩ := hv
            have h1p := g1 _ _ hp (ne_kind hp hdh (fun e => by cases e))
            have h1f := g1 _ _ hf fd
            have h1r := g1 _ _ hrh rnd
            refine ⟨_, rfl, .inl ⟨rfl, _, sl_of h1f⟩, fun v H3 => ∃ b2 A2 M2, GrBut d H' H3 ∧ H3 d = some (.dK (stK (.ref r) (.int (A2 : Nat)) (.int (M2 : Nat)) b2)) ∧
              ((∃ ri e, BadAt K H3 b2 ri e ∧ R = .error (ri, e)) ∨ (b2 = .non ∧ ∃ x : PyData, A2 ≥ i + 1 ∧ R = withinR rows n D (acc ++ [x]) A2 M2 ∧ acc.length < 12 ∧ Dp K H3 v x ∧ nl x = true)), ?_, fun v H3 hv => ?_⟩
            · refine ⟨_, rfl, d, b1, rfl, st_bad h1d, rfl, _, rfl, ite2 (fun c => ?_) (fun c => ?_)⟩
              · have eb := dT c
                rcases alt with ⟨l12, _⟩ | ⟨_, t', e1, _⟩
                · rw [if_pos l12] at hR
                  refine ⟨_, rfl, _, rfl, _, rfl, _, rfl, d, r, p, rows, ws, hd, i + 1, M, D, n, by omega, rfl, by rw [h1d, eb], h1r, hok, h1p, wok, ⟨nextW_head hn, fun e => nextW_set (by rw [hn, e])⟩, by omega, fun v b2 A2 M2 H3 g3 h3 rok => ?_⟩
                  refine ⟨b2, A2, M2, g3, h3, ?_⟩
                  cases hrr : rowR rows n ws hd D (i + 1) M with
                  | error e =>
                    obtain ⟨e1, e2⟩ := e
                    rw [hrr] at rok hR
                    exact .inl ⟨e1, e2, rok, hR⟩
                  | ok x =>
                    obtain ⟨x, i', m'⟩ := x
                    have hle := rowR_le _ hrr
                    rw [hrr] at rok hR
                    obtain ⟨rfl, rfl, rfl, dp, hx⟩ := rok
                    exact .inr ⟨rfl, x, hle, hR, l12, dp, hx⟩
                · rw [eb] at e1
                  cases e1
              · have nb := dF c
                rcases alt with ⟨_, e⟩ | ⟨l12, ba⟩
                · exact absurd e nb
                · rw [if_neg l12] at hR
                  exact ⟨b1, i + 1, M, GrBut.rfl' _ _, h1d, .inl ⟨_, _, ba, hR⟩⟩
            · obtain ⟨b2, A2, M2, g3, h3d, alt3⟩ := hv
              have h3f := g3 _ _ h1f fd
              have h3p := g3 _ _ h1p (ne_kind hp hdh (fun e => by cases e))
              have pf2 := pf
              refine ⟨f, xs, v, rfl, rfl, h3f, by omega, ?_⟩
              have h5f : (upd H3 f (.lst (xs ++ [v]))) f = some (.lst (xs ++ [v])) := upd_same
              have h5d : (upd H3 f (.lst (xs ++ [v]))) d = some (.dK (stK (.ref r) (.int (A2 : Nat)) (.int (M2 : Nat)) b2)) := by rw [upd_ne (Ne.symm fd)]; exact h3d
              have h5p : (upd H3 f (.lst (xs ++ [v]))) p = some (.lst (ws.map V.str)) := by rw [upd_ne pf]; exact h3p
              have g5 : GrBut d H (upd H3 f (.lst (xs ++ [v]))) := (((gh.trans g1).trans g3)).mut hfn
              have k01 : Kt Hh H3 := (g1.trans g3).kt (by rw [hdh]; exact True.intro)
              have k35 : Kt H3 (upd H3 f (.lst (xs ++ [v]))) := Kt.put (by rw [h3f]; exact True.intro)
              have k5 := k01.trans k35
              generalize upd H3 f (.lst (xs ++ [v])) = H5 at h5f h5d h5p g5 k5 k35
              have h5r := g5 _ _ hr2 rnd
              refine ⟨_, ?_, fun _ _ h => h⟩
              refine ⟨_, rfl, d, b2, rfl, st_bad h5d, rfl, _, rfl, ite2 (fun c => ?_) (fun c => ?_)⟩
              · have eb := dT c
                rcases alt3 with ⟨ri, e, ⟨t', e1, _⟩, _⟩ | ⟨_, x, hA, hR3, l12, dp, hx⟩
                · rw [eb] at e1
                  cases e1
                · refine ⟨_, rfl, d, r, rows, A2, .int M2, rfl, by rw [h5d, eb], h5r, hok, fun t6 p6 ws6 hd6 b6 H6 g6 h6d h6p hpn st6 wn wl wk ok6 => ?_⟩
                  refine ⟨t6, _, rfl, st6, rfl, _, _, rfl, _, _, rfl, rfl, ?_⟩
                  have h6f := g6 _ _ h5f fd
                  have k6 : Kt H5 H6 := g6.kt (by rw [h5d]; exact True.intro)
                  have pf6 : p6 ≠ f := fun e => by
                    rw [e, h5f] at hpn
                    cases hpn
                  refine ⟨rows.length + 1 - (A2 + 1), by omega, p6, hd6, A2 + 1, M2, b6, rfl, g5.trans g6, h6d, at_next2 (acc := acc ++ [x]) ok6 h6p ⟨wn, wl, wk⟩ h6f pf6 ?_ (nlAll_snoc hnl hx) ?_ (by omega) hR3⟩
                  · exact DpAll.append (DpAll.kt (k5.trans k6) _ _ hnl dx) (.cons (Dp.kt (k35.trans k6) _ _ hx dp) .nil)
                  · rw [List.length_append]
                    simp
                    omega
              · have nb : b2 ≠ .non := dF c
                refine ⟨_, rfl, _, rfl, by show 2 ≤ sizeLine; decide, fun t2 ht2 => ?_⟩
                have g6 := Gr.new (o := .tup [.ref p, .str hd]) ht2
                refine ⟨t2, _, rfl, st_of upd_same, rfl, _, _, rfl, _, _, rfl, rfl, ?_⟩
                refine ⟨rows.length + 1 - (i + 1 + 1), by omega, p, hd, A2, M2, b2, rfl, g5.trans g6.but, g6 _ _ h5d, ⟨_, g6 _ _ h5f⟩, ws, g6 _ _ h5p, wok, .inl ?_⟩
                rcases alt3 with ⟨ri, e, ba, hR3⟩ | ⟨e, _⟩
                · exact ⟨ri, e, (ba.kt k35).kt g6.kt, hR3⟩
                · exact absurd e nb
        · -- behind the loop
          have l1 : 1 ≤ ws.length := by rw [ew]; simp
          refine ⟨fun σ' H' => σ' = [some (.ref d), some (.int D), some (.ref f), some (.ref p), some (.str hd)] ∧ ∃ b1, GrBut d Hh H' ∧ H' d = some (.dK (stK (.ref r) (.int (A : Nat)) (.int (M : Nat)) b1)) ∧
            ((∃ ri e, BadAt K H' b1 ri e ∧ R = .error (ri, e)) ∨ (b1 = .non ∧ ∃ acc xs, R = (if ws.length = 1 then .ok (acc, A, M) else .error (A, 2)) ∧ Hh f = some (.lst xs) ∧ DpAll K Hh xs acc ∧ nlAll acc = true)), ?_, fun σ' H' hv => ?_⟩
          · refine ⟨_, rfl, by show 0 ≤ sizeLine; decide, fun u hu => ?_⟩
            have g := Gr.new (o := .lst []) hu
            refine ⟨f, u, xs0, rfl, rfl, sl_of (g _ _ hf0), sl_of upd_same, _, rfl, ?_⟩
            have hd1 := g _ _ hdh
            generalize upd Hh u (.lst []) = H1 at g hd1
            rcases alt with ⟨i, e, ba, hR⟩ | ⟨rfl, i, n, acc, xs, rfl, _, hn, hR, hfu, hl, hf, pf, dx, hnl⟩
            · have nb : b ≠ .non := by
                obtain ⟨t', e1, _⟩ := ba
                rw [e1]
                exact fun z => by cases z
              refine ite2 (fun c1 => ?_) (fun c1 => ?_)
              · exact ⟨_, rfl, d, _, .int M, b, _, 1, rfl, hd1, fun _ => ⟨rfl, b, g.but, hd1, .inl ⟨i, e, ba.kt g.kt, hR⟩⟩, fun z => absurd z nb⟩
              · exact ⟨rfl, b, g.but, hd1, .inl ⟨i, e, ba.kt g.kt, hR⟩⟩
            · have hdn : hd = ("end" : Str) := by
                cases hq : decide (hd = ("end" : Str)) with
                | true => exact of_decide_eq_true hq
                | false => rw [hq] at c; cases c
              rw [withinR, hn] at hR
              dsimp only at hR
              rw [if_pos hdn] at hR
              rw [hf] at hf0
              have exs : xs = xs0 := HO.lst.inj (Option.some.inj hf0)
              subst exs
              have lx : xs.length = acc.length := DpAll.length dx
              have ee : xs.isEmpty = true ↔ acc.length = 0 := by
                rw [List.isEmpty_iff_length_eq_zero, lx]
              refine ite2 (fun c1 => ?_) (fun c1 => ?_)
              · have hno : ¬ (acc.length ≠ 0) := fun z => z (ee.mp c1)
                rw [if_neg hno] at hR
                exact ⟨_, rfl, d, _, .int M, .non, _, 1, rfl, hd1, fun z => absurd rfl z, fun _ t H' g1 h1 st => ⟨rfl, _, g.but.trans g1, h1, .inl ⟨i + 1, 1, ⟨t, rfl, st⟩, hR⟩⟩⟩
              · have hyes : acc.length ≠ 0 := fun z => by
                  rw [ee.mpr z] at c1
                  cases c1
                rw [if_pos hyes] at hR
                exact ⟨rfl, .non, g.but, hd1, .inr ⟨rfl, acc, xs, hR, hf, dx, hnl⟩⟩
          · obtain ⟨rfl, b1, g1, h1d, alt1⟩ := hv
            have h1p := g1 _ _ hp (ne_kind hp hdh (fun e => by cases e))
            have h1f := g1 _ _ hf0 fd
            refine ⟨fun σ' H' => σ' = [some (.ref d), some (.int D), some (.ref f), some (.ref p), some (.str hd)] ∧ ∃ b1, GrBut d Hh H' ∧ H' d = some (.dK (stK (.ref r) (.int (A : Nat)) (.int (M : Nat)) b1)) ∧
              ((∃ ri e, BadAt K H' b1 ri e ∧ R = .error (ri, e)) ∨ (b1 = .non ∧ ∃ acc xs, R = .ok (acc, A, M) ∧ Hh f = some (.lst xs) ∧ DpAll K Hh xs acc ∧ nlAll acc = true)), ?_, fun σ' H' hv => ?_⟩
            · refine ⟨_, rfl, p, _, rfl, .inl (sl_of h1p), _, _, rfl, rfl, _, rfl, ?_⟩
              rw [List.length_map]
              refine ite2 (fun c1 => ?_) (fun c1 => ?_)
              · have l2 : ¬ ws.length = 1 := by have := dT c1; omega
                rcases alt1 with ⟨ri, e, ba, hR⟩ | ⟨rfl, acc, xs, hR, hf, dx, hnl⟩
                · have nb : b1 ≠ .non := by
                    obtain ⟨t', e1, _⟩ := ba
                    rw [e1]
                    exact fun z => by cases z
                  exact ⟨_, rfl, d, _, .int M, b1, _, 2, rfl, h1d, fun _ => ⟨rfl, b1, g1, h1d, .inl ⟨ri, e, ba, hR⟩⟩, fun z => absurd z nb⟩
                · rw [if_neg l2] at hR
                  exact ⟨_, rfl, d, _, .int M, .non, _, 2, rfl, h1d, fun z => absurd rfl z, fun _ t H' g2 h2 st => ⟨rfl, _, g1.trans g2, h2, .inl ⟨A, 2, ⟨t, rfl, st⟩, hR⟩⟩⟩
              · have l2 : ws.length = 1 := by have := dF c1; omega
                refine ⟨rfl, b1, g1, h1d, ?_⟩
                rcases alt1 with h | ⟨e, acc, xs, hR, hf, dx, hnl⟩
                · exact .inl h
                · rw [if_pos l2] at hR
                  exact .inr ⟨e, acc, xs, hR, hf, dx, hnl⟩
            · obtain ⟨rfl, b2, g2, h2d, alt2⟩ := hv
              have h2f := g2 _ _ hf0 fd
              refine ⟨_, rfl, f, xs0, rfl, .inl ⟨sl_of h2f, fun l hl => ?_⟩⟩
              have gl := Gr.new (o := .tup xs0) hl
              refine q (.ref l) b2 A M _ ((gh.trans g2).trans gl.but) (gl _ _ h2d) ?_
              rcases alt2 with ⟨ri, e, ba, hR⟩ | ⟨rfl, acc, xs, hR, hf, dx, hnl⟩
              · rw [hR]
                exact ba.kt gl.kt
              · rw [hR]
                rw [hf] at hf0
                have exs : xs = xs0 := HO.lst.inj (Option.some.inj hf0)
                subst exs
                exact ⟨rfl, rfl, rfl, .tup (st_of upd_same) (DpAll.kt ((g2.kt (by rw [hdh]; exact True.intro)).trans gl.kt) _ _ hnl dx), hnl⟩
end
end K86
set_option Elab.async false
set_option linter.all false
set_option maxRecDepth 100000
set_option maxHeartbeats 4000000
/-! the row of a program, read by the law -/
namespace K86
open PySem PySem.Spec PyProof.Rows L2
section
variable {P : Program} {w : World} {K : PySem.W.Frag} {mg : Str → Option Value} {base : Heap}
def noRow (h : Str) (D m : Nat) : Bool := decide (60 ≤ m) || (decide (h ∈ (["by", "end"] : List Str)) || (decide (D = 0) && decide (h ∈ (["loop", "jump"] : List Str))))
theorem rowR_no {rows ws : List Str} {h : Str} {D i m n : Nat} (hn : 1 ≤ n) (c : noRow h D m = true) : rowR rows n ws h D i m = .error (i, 1) := by
  obtain ⟨n, rfl⟩ : ∃ n', n = n' + 1 := ⟨n - 1, by omega⟩
  unfold noRow at c
  rw [rowR]
  by_cases h1 : 60 ≤ m ∨ h = "by" ∨ h = "end"
  · rw [if_pos h1]
  · rw [if_neg h1]
    rw [decide_eq_false (fun z => h1 (.inl z)), Bool.false_or, decide_eq_false (fun z => by
      rcases List.mem_cons.mp z with z | z
      · exact h1 (.inr (.inl z))
      · rcases List.mem_cons.mp z with z | z
        · exact h1 (.inr (.inr z))
        · cases z), Bool.false_or, Bool.and_eq_true_iff] at c
    have c1 := of_decide_eq_true c.1
    have c2 := of_decide_eq_true c.2
    have e1 : h ≠ Str.empty := fun e => by
      rw [e] at c2
      exact absurd c2 (by decide +kernel)
    have e2 : h ≠ "both" := fun e => by
      rw [e] at c2
      exact absurd c2 (by decide +kernel)
    rw [if_neg e1, if_neg e2, if_pos c1]
theorem rowR_yes {rows ws : List Str} {h : Str} {D i m n : Nat} (c : noRow h D m = false) : rowR rows (n + 1) ws h D i m =
    if h = Str.empty then (match polyR ws 2 with
      | .error e => .error (i, e)
      | .ok d => .ok (.tuple [.str "set", .str (ws.headD Str.empty), d], i, m + 1))
    else if h = "both" then (if ws.length = 1 then (match pairsR rows "end" 6 polyR (rows.length + 1 - i) [] i with
        | .error e => .error e
        | .ok (l, i') => .ok (.tuple [.str "both", pairsD l], i', m + 1)) else .error (i, 2))
    else if D = 0 then .error (i, 1)
    else match polyR ws 1 with
      | .error e => .error (i, e)
      | .ok c => if h = "loop" then (match withinR rows n (D - 1) [] i (m + 1) with
          | .error e => .error e
          | .ok (l, a) => .ok (.tuple [.str "loop", c, .tuple l], a))
        else match pairsR rows "by" 40 formR (rows.length + 1 - i) [] i with
          | .error e => .error e
          | .ok (p, i') => match withinR rows n (D - 1) [] i' (m + 1) with
            | .error e => .error e
            | .ok (l, a) => .ok (.tuple [.str "jump", c, pairsD p, .tuple l], a) := by
  unfold noRow at c
  rw [Bool.or_eq_false_iff, Bool.or_eq_false_iff] at c
  have c1 := of_decide_eq_false c.1
  have c2 := of_decide_eq_false c.2.1
  have hno : ¬ (60 ≤ m ∨ h = "by" ∨ h = "end") := by
    rintro (z | z | z)
    · exact c1 z
    · exact c2 (by rw [z]; simp)
    · exact c2 (by rw [z]; simp)
  rw [rowR, if_neg hno] <;> rfl
theorem noRow_deep {h : Str} {D m : Nat} (c : noRow h D m = false) (hl : h ∈ headsW) (h2 : h ≠ "both") : (h = "loop" ∨ h = "jump") ∧ D ≠ 0 := by
  unfold noRow at c
  rw [Bool.or_eq_false_iff, Bool.or_eq_false_iff] at c
  have c2 := of_decide_eq_false c.2.1
  have e : h = "loop" ∨ h = "jump" := by
    unfold headsW at hl
    simp only [List.mem_cons, List.not_mem_nil, or_false] at hl c2
    rcases hl with e | e | e | e | e
    · exact absurd e h2
    · exact .inl e
    · exact .inr e
    · exact absurd (.inl e) c2
    · exact absurd (.inr e) c2
  refine ⟨e, fun z => ?_⟩
  have c3 := c.2.2
  rw [decide_eq_true z, Bool.true_and] at c3
  have := of_decide_eq_false c3
  simp only [List.mem_cons, List.not_mem_nil, or_false] at this
  exact this e
theorem pairsR_nl {rows : List Str} {last : Str} {most : Nat} {rd : List Str → Nat → Except Nat PyData} (hrd : RdOk rd) : ∀ (n : Nat) {acc : List (Str × PyData)} {i i' : Nat} {l : List (Str × PyData)}, (∀ x ∈ acc, nl x.2 = true) → pairsR rows last most rd n acc i = .ok (l, i') → ∀ x ∈ l, nl x.2 = true
  | 0, acc, i, i', l, _, h => by
    rw [pairsR] at h
    cases h
  | n + 1, acc, i, i', l, ha, h => by
    rw [pairsR] at h
    split at h
    · cases h
    · split at h
      · split at h
        · split at h
          · cases h
          · rename_i q
            refine pairsR_nl hrd n (fun x hx => ?_) h
            rcases List.mem_append.mp hx with hx | hx
            · exact ha x hx
            · rw [List.mem_singleton.mp hx]
              exact hrd.nl _ _ _ q
        · cases h
      · split at h
        · split at h
          · cases h
            exact ha
          · cases h
        · cases h
theorem nl_pairsD {l : List (Str × PyData)} (h : ∀ x ∈ l, nl x.2 = true) : nl (pairsD l) = true := by
  have := nl_pairs h
  unfold pairsD
  rw [nl]
  exact this
/-- what a row's head and count leave to be read -/
def restR (rows : List Str) (n D : Nat) (ds : List PyData) (i m : Nat) : RdR (PyData × At) := match withinR rows n D [] i m with
  | .error e => .error e
  | .ok (l, a) => .ok (.tuple (ds ++ [.tuple l]), a)
theorem sc_law_one : FnScope ["_law_state", "_law_words", "_law_head", "_law_deep", "_law_found"] ["_law_state", "_law_words", "_law_head", "_law_deep"] (defScope s_law_one) := ⟨rfl, rfl, rfl, by decide +kernel, rfl, by decide +kernel, by decide +kernel⟩
theorem ok_law_one (T : Tx K mg) (D0 : Nat) (F_law_fail : Fn P w K mg base CX0 1 "_law_fail" ["_law_state", "_law_word"] (sp_law_fail K)) (F_law_poly_in : Fn P w K mg base CX0 5 "_law_poly_in" ["_law_words", "_law_at"] (sp_rd K polyR))
    (F_law_form_in : Fn P w K mg base CX0 5 "_law_form_in" ["_law_words", "_law_at"] (sp_rd K formR)) (F_law_told : Fn P w K mg base CX0 6 "_law_told" ["_law_state", "_law_words", "_law_at", "_law_reader"] (sp_law_told P w mg base K))
    (F_law_pairs : Fn P w K mg base CX0 7 "_law_pairs" ["_law_state", "_law_last", "_law_most", "_law_reader"] (sp_law_pairs P w mg base K))
    (F_law_within : Fn P w K mg base CX0 (8 + 2 * D0) "_law_within" ["_law_state", "_law_deep"] (sp_law_within K D0)) : Fn P w K mg base CX0 (9 + 2 * D0) "_law_one" ["_law_state", "_law_words", "_law_head", "_law_deep"] (sp_law_one K D0) := by
  refine Fn.mono (j := 8 + 2 * D0 + 1) (Fn.of T.f_law_one sc_law_one (fun _ _ _ _ _ _ us hl => match us, hl with | [_, _, _, _], _ => rfl) (fun vs H Q E h => ?_) (fun f cdv A outer s H vs Q E hr h => ⟨_, PSs.nox (pss_cons (ps_dput (hu_of hr) (pv 0) pe_str (pe_op op_add (pe_dget (hu_of hr) (pv 0) pe_str (fun _ _ => rfl)) pe_int) rfl)
  (pss_cons (ps_cut (ps_if (pt_cut (PW.pt (pw_or (pt_cmpR op_gt (pe_dget (hu_of hr) (pv 0) pe_str (fun _ _ => rfl)) pe_int (nomark _)) (pw_or (pt_cmpR op_in_seq (pv 2) (pe_tup (pa_cons pe_str (pa_cons pe_str pa_nil))) (by rfl)) (pw_or1 (PW.pt (pw_and (pt_cmpR op_eq (pv 3) pe_int (nomark _)) (pw_and1 (pt_cmpR op_in_seq (pv 2) (pe_tup (pa_cons pe_str (pa_cons pe_str pa_nil))) (by rfl)))))))))) (pss_one (ps_expr (pe_fn F_law_fail (hr.mono (by omega)) (pa_cons (pv 0) (pa_cons pe_int pa_nil))))) pss_nil))
  (pss_cons (ps_if (pt_cmpR op_notN (pe_dget (hu_of hr) (pv 0) pe_str (fun _ _ => rfl)) pe_non (nomark _)) (pss_one (ps_ret pe_non)) pss_nil)
  (pss_cons (ps_if (pt_cmpR op_eq (pv 2) pe_str (nomark _)) (pss_one (ps_ret (pe_tup (pa_cons pe_str (pa_cons (pe_ix ix_list (pv 1) pe_int (fun _ _ => rfl)) (pa_cons (pe_fn F_law_told (hr.mono (by omega)) (pa_cons (pv 0) (pa_cons (pv 1) (pa_cons pe_int (pa_cons (pe_gf F_law_poly_in) pa_nil))))) pa_nil)))))) pss_nil)
  (pss_cons (ps_if (pt_cmpR op_eq (pv 2) pe_str (nomark _)) (pss_cons (ps_cut (ps_if (pt_cmpR op_gt (pe_callB call_len_seq (by rfl) T.b_len (by decide +kernel) (pa_cons (pv 1) pa_nil)) pe_int (nomark _)) (pss_one (ps_expr (pe_fn F_law_fail (hr.mono (by omega)) (pa_cons (pv 0) (pa_cons pe_int pa_nil))))) pss_nil))
  (pss_one (ps_ret (pe_tup (pa_cons pe_str (pa_cons (pe_cut (pe_ifExp (pt_cmpR op_gt (pe_callB call_len_seq (by rfl) T.b_len (by decide +kernel) (pa_cons (pv 1) pa_nil)) pe_int (nomark _)) (pe_tup pa_nil) (pe_fn F_law_pairs (hr.mono (by omega)) (pa_cons (pv 0) (pa_cons pe_str (pa_cons pe_int (pa_cons (pe_gf F_law_poly_in) pa_nil))))))) pa_nil)))))) pss_nil)
  (pss_cons (ps_set (i := 4) sc_law_one.nd rfl (Or.inl rfl) (pe_tup (pa_cons (pv 2) (pa_cons (pe_fn F_law_told (hr.mono (by omega)) (pa_cons (pv 0) (pa_cons (pv 1) (pa_cons pe_int (pa_cons (pe_gf F_law_poly_in) pa_nil))))) pa_nil))))
  (pss_cons (ps_cut (ps_if (pt_cut (PW.pt (pw_and (pt_cmpR op_isN (pe_dget (hu_of hr) (pv 0) pe_str (fun _ _ => rfl)) pe_non (nomark _)) (pw_and1 (pt_cmpR op_eq (pv 2) pe_str (nomark _)))))) (pss_one (ps_set (i := 4) sc_law_one.nd rfl (Or.inl rfl) (pe_op op_catT (pv 4) (pe_tup (pa_cons (pe_fn F_law_pairs (hr.mono (by omega)) (pa_cons (pv 0) (pa_cons pe_str (pa_cons pe_int (pa_cons (pe_gf F_law_form_in) pa_nil))))) pa_nil))))) pss_nil))
  (pss_one (ps_ret (pe_op op_catT (pv 4) (pe_tup (pa_cons (pe_cut (pe_ifExp (pt_cmpR op_isN (pe_dget (hu_of hr) (pv 0) pe_str (fun _ _ => rfl)) pe_non (nomark _)) (pe_fn F_law_within (hr.mono (by omega)) (pa_cons (pv 0) (pa_cons (pe_op op_sub (pv 3) pe_int) pa_nil))) (pe_tup pa_nil))) pa_nil)))))))))))), ?_⟩)) (by omega)
  · obtain ⟨d, r, p, rows, ws, hd, i, m, D, n, _, rfl, _⟩ := h
    rfl
  · obtain ⟨d, r, p, rows, ws, h, i, m, D, n, hD, rfl, hd, hr2, hok, hp, wok, ⟨hh1, hh2⟩, hn, q⟩ := h
    have rnd : r ≠ d := ne_kind hr2 hd (fun e => by cases e)
    have pnd : p ≠ d := ne_kind hp hd (fun e => by cases e)
    obtain ⟨w0, wr, ew⟩ : ∃ x y, ws = x :: y := by
      cases hw : ws with
      | nil => exact absurd hw wok.1
      | cons x y => exact ⟨x, y, rfl⟩
    have e0 : ws.headD Str.empty = w0 := by rw [ew] <;> rfl
    have l1 : 1 ≤ ws.length := by rw [ew]; simp
    generalize eR : rowR rows n ws h D i m = R at q
    refine ⟨_, rfl, d, _, rfl, st_many hd, _, _, rfl, rfl, _, rfl, d, _, rfl, st_putM hd, ?_⟩
    have h1d : (upd H d (.dK (stK (.ref r) (.int i) (.int ((m : Int) + 1)) .non))) d = some (.dK (stK (.ref r) (.int i) (.int (m + 1 : Nat)) .non)) := upd_same
    have g1 : GrBut d H (upd H d (.dK (stK (.ref r) (.int i) (.int ((m : Int) + 1)) .non))) := GrBut.put
    generalize upd H d (.dK (stK (.ref r) (.int i) (.int ((m : Int) + 1)) .non)) = H1 at h1d g1
    refine ⟨fun σ' H' => σ' = [some (.ref d), some (.ref p), some (.str h), some (.int D), none] ∧ ∃ b1, GrBut d H H' ∧ H' d = some (.dK (stK (.ref r) (.int i) (.int (m + 1 : Nat)) b1)) ∧
      ((BadAt K H' b1 i 1 ∧ R = .error (i, 1)) ∨ (b1 = .non ∧ noRow h D m = false)), ?_, fun σ' H' hv => ?_⟩
    · refine ⟨fun z H' => Gr H1 H' ∧ z = noRow h D m, ?_, fun z H' hz => ?_⟩
      · refine ⟨_, rfl, d, _, rfl, st_many h1d, _, _, rfl, rfl, _, rfl, ite2 (fun c => ?_) (fun c => ?_)⟩
        · refine ⟨Gr.rfl' _, ?_⟩
          have := dT c
          unfold noRow
          rw [decide_eq_true (by omega : 60 ≤ m)] <;> rfl
        · have c1 := dF c
          unfold noRow
          rw [decide_eq_false (by omega : ¬ 60 ≤ m), Bool.false_or]
          refine ⟨_, rfl, by show 2 ≤ sizeLine; decide, fun u hu => ?_⟩
          have gu := Gr.new (o := .tup [.str "by", .str "end"]) hu
          refine ⟨u, (["by", "end"] : List Str).map V.str, rfl, .inr (st_of upd_same), rfl, flat_strs _, _, rfl, ?_⟩
          show if (inV (.str h) _) = true then _ else _
          rw [in_strs]
          refine ite2 (fun c2 => ?_) (fun c2 => ?_)
          · refine ⟨gu, ?_⟩
            rw [c2] <;> rfl
          · rw [c2, Bool.false_or]
            refine ⟨_, rfl, rfl, _, rfl, ?_⟩
            rw [dec_V]
            refine ite2 (fun c3 => ?_) (fun c3 => ?_)
            · have d0 : D = 0 := by have := of_decide_eq_true c3; omega
              refine ⟨_, rfl, by show 2 ≤ sizeLine; decide, fun u2 hu2 => ⟨u2, (["loop", "jump"] : List Str).map V.str, rfl, .inr (st_of upd_same), rfl, flat_strs _, _, rfl, gu.trans (Gr.new hu2), ?_⟩⟩
              show inV (.str h) _ = _
              rw [in_strs, decide_eq_true d0, Bool.true_and] <;> rfl
            · have d0 : ¬ D = 0 := by have := of_decide_eq_false c3; omega
              refine ⟨gu, ?_⟩
              rw [decide_eq_false d0] <;> rfl
      · obtain ⟨g, rfl⟩ := hz
        refine ite2 (fun c => ?_) (fun c => ?_)
        · refine ⟨_, rfl, d, _, .int (m + 1 : Nat), .non, _, 1, rfl, g _ _ h1d, fun h => absurd rfl h, fun _ t H' g2 h2 st => ?_⟩
          exact ⟨rfl, _, (g1.trans g.but).trans g2, h2, .inl ⟨⟨t, rfl, st⟩, by rw [← eR, rowR_no (by omega) c]⟩⟩
        · exact ⟨rfl, .non, g1.trans g.but, g _ _ h1d, .inr ⟨rfl, c⟩⟩
    · obtain ⟨rfl, b1, gA, hAd, alt⟩ := hv
      have hAp := gA _ _ hp pnd
      have hAr := gA _ _ hr2 rnd
      refine ⟨_, rfl, d, b1, rfl, st_bad hAd, rfl, _, rfl, ite2 (fun c => ?_) (fun c => ?_)⟩
      · have nb := nT c
        rcases alt with ⟨ba, hR⟩ | ⟨e, _⟩
        · refine q .non b1 i (m + 1) _ gA hAd ?_
          rw [hR]
          exact ba
        · exact absurd e nb
      have eb := nF c
      subst eb
      have hrow : noRow h D m = false := by
        rcases alt with ⟨⟨t', e1, _⟩, _⟩ | ⟨_, e⟩
        · cases e1
        · exact e
      obtain ⟨n, rfl⟩ : ∃ n', n = n' + 1 := ⟨n - 1, by omega⟩
      rw [rowR_yes hrow] at eR
      refine ⟨_, rfl, rfl, _, rfl, ite2 (fun c2 => ?_) (fun c2 => ?_)⟩
      · -- set
        have hh : h = Str.empty := V.str.inj (dT c2)
        rw [if_pos hh] at eR
        refine ⟨_, rfl, p, _, 0, _, rfl, rfl, sl_of hAp, by rw [ew]; exact at0, _, rfl, _, rfl, fun fv hfv => ⟨d, p, ws, 2, i, fv, .ref r, .int (m + 1 : Nat), .non, polyR, rfl, hfv, hAd, hAp, wok, hh2 hh, fun v b2 H3 g3 h3 tok => ⟨by show 3 ≤ sizeLine; decide, fun t ht => ?_⟩⟩⟩
        have gt := Gr.new (o := .tup [.str "set", .str w0, v]) ht
        refine q (.ref t) b2 i (m + 1) _ ((gA.trans g3).trans gt.but) (gt _ _ h3) ?_
        have tk := tok.2 rfl
        cases hrr : polyR ws 2 with
        | error e =>
          rw [hrr] at tk eR
          rw [← eR]
          exact tk.kt gt.kt
        | ok x =>
          rw [hrr] at tk eR
          rw [← eR]
          have nx := nl_polyR hrr
          refine ⟨tk.2, rfl, rfl, ?_, by simp [nl, nlAll, nx]⟩
          rw [e0]
          exact .tup (st_of upd_same) (.cons (.str _) (.cons (.str _) (.cons (Dp.gr gt _ _ tk.1) .nil)))
      · have hne : h ≠ Str.empty := fun e => dF c2 (by rw [e] <;> rfl)
        rw [if_neg hne] at eR
        have hW : h ∈ headsW := hh1.resolve_left hne
        refine ⟨_, rfl, rfl, _, rfl, ite2 (fun c3 => ?_) (fun c3 => ?_)⟩
        · -- both
          have hh : h = "both" := V.str.inj (dT c3)
          rw [if_pos hh] at eR
          refine ⟨fun σ' H' => σ' = [some (.ref d), some (.ref p), some (.str h), some (.int D), none] ∧ ∃ b2, GrBut d H H' ∧ H' d = some (.dK (stK (.ref r) (.int i) (.int (m + 1 : Nat)) b2)) ∧
            ((ws.length = 1 ∧ b2 = .non) ∨ (ws.length ≠ 1 ∧ BadAt K H' b2 i 2)), ?_, fun σ' H' hv => ?_⟩
          · refine ⟨_, rfl, p, _, rfl, .inl (sl_of hAp), _, _, rfl, rfl, _, rfl, ?_⟩
            rw [List.length_map]
            refine ite2 (fun c4 => ?_) (fun c4 => ?_)
            · exact ⟨_, rfl, d, _, .int (m + 1 : Nat), .non, _, 2, rfl, hAd, fun z => absurd rfl z, fun _ t H' g2 h2 st => ⟨rfl, _, gA.trans g2, h2, .inr ⟨by have := dT c4; omega, t, rfl, st⟩⟩⟩
            · exact ⟨rfl, .non, gA, hAd, .inl ⟨by have := dF c4; omega, rfl⟩⟩
          · obtain ⟨rfl, b2, gB, hBd, alt2⟩ := hv
            have hBp := gB _ _ hp pnd
            have hBr := gB _ _ hr2 rnd
            refine ⟨fun v H' => ∃ b3 A3, GrBut d H H' ∧ H' d = some (.dK (stK (.ref r) (.int (A3 : Nat)) (.int (m + 1 : Nat)) b3)) ∧
              ((∃ ri e, BadAt K H' b3 ri e ∧ R = .error (ri, e)) ∨ (b3 = .non ∧ ∃ l, R = .ok (.tuple [.str "both", pairsD l], A3, m + 1) ∧ Dp K H' v (pairsD l) ∧ nl (pairsD l) = true)), ?_, fun v H' hv => ?_⟩
            · refine ⟨_, rfl, p, _, rfl, .inl (sl_of hBp), _, _, rfl, rfl, _, rfl, ?_⟩
              rw [List.length_map]
              refine ite2 (fun c4 => ?_) (fun c4 => ?_)
              · have l2 : ws.length ≠ 1 := by have := dT c4; omega
                rcases alt2 with ⟨e, _⟩ | ⟨_, ba⟩
                · exact absurd e l2
                · rw [if_neg l2] at eR
                  refine ⟨by show 0 ≤ sizeLine; decide, fun u hu => ?_⟩
                  have gu := Gr.new (o := .tup []) hu
                  exact ⟨b2, i, gB.trans gu.but, gu _ _ hBd, .inl ⟨i, 2, ba.kt gu.kt, eR.symm⟩⟩
              · have l2 : ws.length = 1 := by have := dF c4; omega
                rcases alt2 with ⟨_, e⟩ | ⟨e, _⟩
                · subst e
                  rw [if_pos l2] at eR
                  refine ⟨_, rfl, fun fv hfv => ⟨d, r, rows, i, 6, "end", fv, .int (m + 1 : Nat), polyR, rfl, hfv, ⟨fun _ _ _ h => nl_polyR h⟩, by decide, hBd, hBr, hok, fun v b3 A3 H3 g3 h3 pok => ?_⟩⟩
                  refine ⟨b3, A3, gB.trans g3, h3, ?_⟩
                  cases hpp : pairsR rows "end" 6 polyR (rows.length + 1 - i) [] i with
                  | error e =>
                    obtain ⟨e1, e2⟩ := e
                    rw [hpp] at pok eR
                    exact .inl ⟨e1, e2, pok, eR.symm⟩
                  | ok x =>
                    obtain ⟨l, i'⟩ := x
                    rw [hpp] at pok eR
                    obtain ⟨e1, e2, dp⟩ := pok
                    refine .inr ⟨e1, l, ?_, dp, nl_pairsD (pairsR_nl ⟨fun _ _ _ h => nl_polyR h⟩ _ (fun x hx => by cases hx) hpp)⟩
                    rw [e2]
                    exact eR.symm
                · exact absurd l2 e
            · obtain ⟨b3, A3, g3, h3, alt3⟩ := hv
              refine ⟨by show 2 ≤ sizeLine; decide, fun t ht => ?_⟩
              have gt := Gr.new (o := .tup [.str "both", v]) ht
              refine q (.ref t) b3 A3 (m + 1) _ (g3.trans gt.but) (gt _ _ h3) ?_
              rcases alt3 with ⟨ri, e, ba, hR⟩ | ⟨e, l, hR, dp, hx⟩
              · rw [hR]
                exact ba.kt gt.kt
              · rw [hR]
                exact ⟨e, rfl, rfl, .tup (st_of upd_same) (.cons (.str _) (.cons (Dp.gr gt _ _ dp) .nil)), by simp [nl, nlAll, hx]⟩
        · have hnb : h ≠ "both" := fun e => dF c3 (by rw [e])
          rw [if_neg hnb] at eR
          obtain ⟨hlj, hD0⟩ := noRow_deep hrow hW hnb
          rw [if_neg hD0] at eR
          refine ⟨_, rfl, _, rfl, _, rfl, fun fv hfv => ⟨d, p, ws, 1, i, fv, .ref r, .int (m + 1 : Nat), .non, polyR, rfl, hfv, hAd, hAp, wok, l1, fun v b2 H3 g3 h3 tok => ⟨by show 2 ≤ sizeLine; decide, fun t ht => ?_⟩⟩⟩
          have gt := Gr.new (o := .tup [.str h, v]) ht
          have hBd := gt _ _ h3
          have st : SqT K (upd H3 t (.tup [.str h, v])) t [.str h, v] := st_of upd_same
          have gB : GrBut d H (upd H3 t (.tup [.str h, v])) := (gA.trans g3).trans gt.but
          have tk := tok.2 rfl
          have alt : (∃ ri e, BadAt K (upd H3 t (.tup [.str h, v])) b2 ri e ∧ R = .error (ri, e)) ∨ (b2 = .non ∧ ∃ c, polyR ws 1 = .ok c ∧ Dp K (upd H3 t (.tup [.str h, v])) v c ∧ nl c = true) := by
            cases hrr : polyR ws 1 with
            | error e =>
              rw [hrr] at tk eR
              exact .inl ⟨i, e, tk.kt gt.kt, eR.symm⟩
            | ok x =>
              rw [hrr] at tk
              exact .inr ⟨tk.2, x, rfl, Dp.gr gt _ _ tk.1, nl_polyR hrr⟩
          generalize upd H3 t (.tup [.str h, v]) = HB at hBd st gB alt
          have hBr := gB _ _ hr2 rnd
          refine ⟨fun σ' H' => ∃ (t4 : Addr) (xs : List V) (b4 : V) (A : Nat), σ' = [some (.ref d), some (.ref p), some (.str h), some (.int D), some (.ref t4)] ∧ SqT K H' t4 xs ∧ xs ≠ [] ∧ xs.length ≤ 3 ∧ GrBut d H H' ∧ H' d = some (.dK (stK (.ref r) (.int (A : Nat)) (.int (m + 1 : Nat)) b4)) ∧
            ((∃ ri e, BadAt K H' b4 ri e ∧ R = .error (ri, e)) ∨ (b4 = .non ∧ i ≤ A ∧ ∃ ds, DpAll K H' xs ds ∧ nlAll ds = true ∧ R = restR rows n (D - 1) ds A (m + 1))), ?_, fun σ' H' hv => ?_⟩
          · refine ⟨fun z H' => H' = HB ∧ z = (decide (b2 = .non) && decide (h = ("jump" : Str))), ?_, fun z H' hz => ?_⟩
            · refine ⟨_, rfl, d, b2, rfl, st_bad hBd, rfl, _, rfl, ?_⟩
              refine ite2 (fun c => ?_) (fun c => ?_)
              · refine ⟨_, rfl, rfl, _, rfl, rfl, ?_⟩
                rw [dT c]
                rw [decide_eq_true (rfl : V.non = V.non), Bool.true_and]
                exact decS _ _
              · refine ⟨rfl, ?_⟩
                rw [decide_eq_false (dF c)] <;> rfl
            · obtain ⟨rfl, rfl⟩ := hz
              refine ite2 (fun c => ?_) (fun c => ?_)
              · have c' := Bool.and_eq_true_iff.mp c
                have eb := of_decide_eq_true c'.1
                have hj := of_decide_eq_true c'.2
                subst eb
                rcases alt with ⟨ri, e, ⟨t', e1, _⟩, _⟩ | ⟨_, c0, hc0, dc, nc⟩
                · cases e1
                rw [hc0] at eR
                dsimp only at eR
                rw [if_neg (by rw [hj]; decide +kernel)] at eR
                refine ⟨_, rfl, _, rfl, fun fv hfv => ⟨d, r, rows, i, 40, "by", fv, .int (m + 1 : Nat), formR, rfl, hfv, ⟨fun _ _ _ h => nl_formR h⟩, by decide, hBd, hBr, hok, fun v5 b5 A5 H5 g5 h5 pok => ⟨by show 1 ≤ sizeLine; decide, fun t5 ht5 => ?_⟩⟩⟩
                have g6 := Gr.new (o := .tup [v5]) ht5
                have k5 : Kt _ H5 := g5.kt (by rw [hBd]; exact True.intro)
                refine ⟨t, t5, [.str h, v], [v5], rfl, rfl, g6.st (k5.st st), st_of upd_same, (fun z => by cases z), by show 3 ≤ sizeLine; decide, (fun z => by cases z), fun _ t7 ht7 => ?_⟩
                have g7 := Gr.new (o := .tup ([.str h, v] ++ [v5])) ht7
                refine ⟨t7, [.str h, v, v5], b5, A5, rfl, st_of upd_same, (fun z => by cases z), (by show 3 ≤ 3; decide), ((gB.trans g5).trans g6.but).trans g7.but, g7 _ _ (g6 _ _ h5), ?_⟩
                cases hpp : pairsR rows "by" 40 formR (rows.length + 1 - i) [] i with
                | error e =>
                  obtain ⟨e1, e2⟩ := e
                  rw [hpp] at pok eR
                  exact .inl ⟨e1, e2, (pok.kt g6.kt).kt g7.kt, eR.symm⟩
                | ok x =>
                  obtain ⟨l, i'⟩ := x
                  rw [hpp] at pok eR
                  obtain ⟨e1, e2, dp⟩ := pok
                  have nx := nl_pairsD (pairsR_nl ⟨fun _ _ _ h => nl_formR h⟩ _ (fun x hx => by cases hx) hpp)
                  have hlt := pairsR_lt _ hpp
                  refine .inr ⟨e1, by omega, [.str h, c0, pairsD l], .cons (.str _) (.cons (Dp.kt ((k5.trans g6.kt).trans g7.kt) _ _ nc dc) (.cons (Dp.gr g7 _ _ (Dp.gr g6 _ _ dp)) .nil)), by simp [nl, nlAll, nc, nx], ?_⟩
                  rw [← eR, hj, e2] <;> rfl
              · refine ⟨t, [.str h, v], b2, i, rfl, st, (fun z => by cases z), (by show 2 ≤ 3; decide), gB, hBd, ?_⟩
                rcases alt with h | ⟨e, c0, hc0, dc, nc⟩
                · exact .inl h
                · refine .inr ⟨e, Nat.le_refl _, [.str h, c0], .cons (.str _) (.cons dc .nil), by simp [nl, nlAll, nc], ?_⟩
                  have hl : h = "loop" := by
                    rcases hlj with x | x
                    · exact x
                    · rw [e, x] at c
                      cases c
                  rw [hc0] at eR
                  dsimp only at eR
                  rw [if_pos hl] at eR
                  rw [← eR, hl] <;> rfl
          · obtain ⟨t4, xs, b4, A, rfl, st4, xne, xlen, gC, hCd, alt4⟩ := hv
            have hCr := gC _ _ hr2 rnd
            refine ⟨_, rfl, ?_⟩
            refine ⟨fun v H'' => ∃ b6 A6 M6, GrBut d H' H'' ∧ H'' d = some (.dK (stK (.ref r) (.int (A6 : Nat)) (.int (M6 : Nat)) b6)) ∧
              ((∃ ri e, BadAt K H'' b6 ri e ∧ R = .error (ri, e)) ∨ (b6 = .non ∧ ∃ ds l, DpAll K H'' xs ds ∧ nlAll ds = true ∧ R = .ok (.tuple (ds ++ [.tuple l]), A6, M6) ∧ Dp K H'' v (.tuple l) ∧ nlAll l = true)), ?_, fun v H'' hv => ?_⟩
            · refine ⟨_, rfl, d, b4, rfl, st_bad hCd, rfl, _, rfl, ite2 (fun c => ?_) (fun c => ?_)⟩
              · have eb := dT c
                rcases alt4 with ⟨ri, e, ⟨t', e1, _⟩, _⟩ | ⟨_, hA, ds, dds, nds, hR⟩
                · rw [eb] at e1
                  cases e1
                refine ⟨_, rfl, _, rfl, _, _, rfl, rfl, d, r, rows, A, m + 1, D - 1, n, by omega, by show [V.ref d, V.int ((D : Int) - 1)] = _; rw [show ((D : Int) - 1) = ((D - 1 : Nat) : Int) by omega], by rw [hCd, eb], hCr, hok, by omega, fun v b6 A6 M6 H6 g6 h6 wk => ?_⟩
                refine ⟨b6, A6, M6, g6, h6, ?_⟩
                have k6 : Kt H' H6 := g6.kt (by rw [hCd]; exact True.intro)
                unfold restR at hR
                cases hww : withinR rows n (D - 1) [] A (m + 1) with
                | error e =>
                  obtain ⟨e1, e2⟩ := e
                  rw [hww] at wk hR
                  exact .inl ⟨e1, e2, wk, hR⟩
                | ok x =>
                  obtain ⟨l, i', m'⟩ := x
                  rw [hww] at wk hR
                  obtain ⟨e1, rfl, rfl, dp, nx⟩ := wk
                  exact .inr ⟨e1, ds, l, DpAll.kt k6 _ _ nds dds, nds, hR, dp, nx⟩
              · have nb : b4 ≠ .non := dF c
                rcases alt4 with ⟨ri, e, ba, hR⟩ | ⟨e, _⟩
                · refine ⟨by show 0 ≤ sizeLine; decide, fun u hu => ?_⟩
                  have gu := Gr.new (o := .tup []) hu
                  exact ⟨b4, A, m + 1, gu.but, gu _ _ hCd, .inl ⟨ri, e, ba.kt gu.kt, hR⟩⟩
                · exact absurd e nb
            · obtain ⟨b6, A6, M6, g6, h6, alt6⟩ := hv
              have k6 : Kt H' H'' := g6.kt (by rw [hCd]; exact True.intro)
              refine ⟨by show 1 ≤ sizeLine; decide, fun t7 ht7 => ?_⟩
              have g7 := Gr.new (o := .tup [v]) ht7
              have s33 : 3 + 1 ≤ sizeLine := by decide
              refine ⟨t4, t7, xs, [v], rfl, rfl, g7.st (k6.st st4), st_of upd_same, xne, by show xs.length + 1 ≤ sizeLine; omega, (fun z => by cases z), fun _ t8 ht8 => ?_⟩
              have g8 := Gr.new (o := .tup (xs ++ [v])) ht8
              refine q (.ref t8) b6 A6 M6 _ (((gC.trans g6).trans g7.but).trans g8.but) (g8 _ _ (g7 _ _ h6)) ?_
              rcases alt6 with ⟨ri, e, ba, hR⟩ | ⟨e, ds, l, dds, nds, hR, dp, nx⟩
              · rw [hR]
                exact (ba.kt g7.kt).kt g8.kt
              · rw [hR]
                refine ⟨e, rfl, rfl, .tup (st_of upd_same) (DpAll.gr g8 _ _ (DpAll.gr g7 _ _ (DpAll.append dds (.cons dp .nil)))), ?_⟩
                show nlAll (ds ++ [.tuple l]) = true
                exact nlAll_snoc nds (by simp [nl, nx])
theorem ok_law_within0 (T : Tx K mg) : Fn P w K mg base CX0 8 "_law_within" ["_law_state", "_law_deep"] (sp_law_within K 0) := by
  refine Fn.mono (j := 0 + 1) (Fn.of T.f_law_within sc_law_within (fun _ _ _ _ _ _ us hl => match us, hl with | [_, _], _ => rfl) (fun vs H Q E h => ?_) (fun f cdv A outer s H vs Q E hr h => ?_)) (by omega)
  · obtain ⟨d, r, rows, i, m, D, n, hD, _⟩ := h
    exact absurd hD (Nat.not_lt_zero _)
  · obtain ⟨d, r, rows, i, m, D, n, hD, _⟩ := h
    exact absurd hD (Nat.not_lt_zero _)
end
end K86
set_option Elab.async false
set_option linter.all false
set_option maxRecDepth 100000
set_option maxHeartbeats 4000000
/-! the program of a text, read by the law -/
namespace K86
open PySem PySem.Spec PyProof.Rows L2
/-- the rows of a text -/
def rowsOf (z : Str) : List Str := if z = Str.empty then [] else spl 10 z
def badD (i e : Nat) : PyData := .tuple [.str "row", .int i, .int e]
section
variable {P : Program} {w : World} {K : PySem.W.Frag} {mg : Str → Option Value} {base : Heap}
def dueD : RdR (List PyData) → PyData
  | .ok l => .list [.tuple l]
  | .error (i, e) => badD i e
def NotStr (K : PySem.W.Frag) (H : Hp) (x : V) : Prop := ∃ t, TyX K H x t ∧ PySem.W.kitOne K t (.type "str") = some false
def sp_law_due (K : PySem.W.Frag) : Sp := fun vs H Q _ => ∃ x : V, vs = [x] ∧
  ((∃ z : Str, x = .str z ∧ z.length + 2 ≤ sizeLine ∧ RowsOk (rowsOf z) ∧ ∀ v H', Gr H H' → Dp K H' v (dueD (allR (rowsOf z) (rowsOf z).length [] 0 0)) → Q v H') ∨
   (NotStr K H x ∧ ∀ v H', Gr H H' → Dp K H' v (badD 0 0) → Q v H'))
theorem mergeK_st (v : V) : mergeK [] [((.inr "rows" : Key), v), (.inr "at", .int 0), (.inr "many", .int 0), (.inr "bad", .non)] = stK v (.int 0) (.int 0) .non := by
  simp [mergeK, putK, stK, s1, s2, s3, s4, s5, s6, s7, s8, s9, s10, s11, s12]
theorem GrBut.gr {d : Addr} {H H1 H2 : Hp} (g : GrBut d H1 H2) (a : Gr H H1) (n : H d = none) : Gr H H2 := fun b o e => g b o (a b o e) (ne_of_none e n)
/-- where the loop of a program's rows stands -/
def AllAt (K : PySem.W.Frag) (H : Hp) (rows : List Str) (f : Addr) (A M : Nat) (b : V) (R : RdR (List PyData)) (k : Nat) : Prop :=
  (∃ xs, H f = some (.lst xs)) ∧
    ((∃ i e, BadAt K H b i e ∧ R = .error (i, e)) ∨
     (b = .non ∧ ∃ n acc xs, R = allR rows n acc A M ∧ rows.length - A ≤ n ∧ k = rows.length - A ∧ acc.length ≤ 12 ∧ H f = some (.lst xs) ∧ DpAll K H xs acc ∧ nlAll acc = true))
theorem sc_law_due : FnScope ["_law_text", "_law_state", "_law_found", "_law_words", "_law_head"] ["_law_text"] (defScope s_law_due) := ⟨rfl, rfl, rfl, by decide +kernel, rfl, by decide +kernel, by decide +kernel⟩
theorem ok_law_due (T : Tx K mg) (F_law_fail : Fn P w K mg base CX0 1 "_law_fail" ["_law_state", "_law_word"] (sp_law_fail K)) (F_law_next : Fn P w K mg base CX0 2 "_law_next" ["_law_state"] (sp_law_next K))
    (F_law_one : Fn P w K mg base CX0 15 "_law_one" ["_law_state", "_law_words", "_law_head", "_law_deep"] (sp_law_one K 3)) : Fn P w K mg base CX0 16 "_law_due" ["_law_text"] (sp_law_due K) := by
  refine Fn.of T.f_law_due sc_law_due (fun _ _ _ _ _ _ us hl => match us, hl with | [_], _ => rfl) (fun vs H Q E h => ?_) (fun f cdv A outer s H vs Q E hr h => ⟨_, PSs.nox (pss_cons (ps_if (pt_not (pt_val (pe_callB call_isi (by rfl) T.b_isinstance (by decide +kernel) (pa_cons (pv 0) (pa_cons (pe_bltn (by rfl) T.b_str (v := .ty "str") (u := .type "str") (by decide +kernel) (by rfl)) pa_nil))))) (pss_one (ps_ret (pe_tup (pa_cons pe_str (pa_cons pe_int (pa_cons pe_int pa_nil)))))) pss_nil)
  (pss_cons (ps_set (i := 1) sc_law_due.nd rfl (Or.inl rfl) (pe_disp (pps_cons pe_str (pe_cut (pe_ifExp (pt_cmpR op_ne (pv 0) pe_str (nomark _)) (pe_split (pv 0) pe_str) (pe_lst pa_nil))) (pps_cons pe_str pe_int (pps_cons pe_str pe_int (pps_cons pe_str pe_non pps_nil)))) (by rfl) (by rfl) (fun z => by cases z) (by decide)))
  (pss_cons (ps_set (i := 2) sc_law_due.nd rfl (Or.inl rfl) (pe_lst pa_nil))
  (pss_cons (ps_while PassesOwn.never (pt_cut (PW.pt (pw_and (pt_cmpR op_isN (pe_dget (hu_of hr) (pv 1) pe_str (fun _ _ => rfl)) pe_non (nomark _)) (pw_and1 (pt_cmpR op_lt (pe_dget (hu_of hr) (pv 1) pe_str (fun _ _ => rfl)) (pe_callB call_len_seq (by rfl) T.b_len (by decide +kernel) (pa_cons (pe_dget (hu_of hr) (pv 1) pe_str (fun _ _ => rfl)) pa_nil)) (nomark _)))))) (pss_cons (ps_asg (pe_fn F_law_next (hr.mono (by omega)) (pa_cons (pv 1) pa_nil)) (pg_tup rfl (pgs_cons (pg_name (i := 3) sc_law_due.nd rfl (Or.inl rfl)) (pgs_cons (pg_name (i := 4) sc_law_due.nd rfl (Or.inl rfl)) pgs_nil))))
  (pss_cons (ps_cut (ps_if (pt_cmpR op_eq (pe_callB call_len_seq (by rfl) T.b_len (by decide +kernel) (pa_cons (pv 2) pa_nil)) pe_int (nomark _)) (pss_one (ps_expr (pe_fn F_law_fail (hr.mono (by omega)) (pa_cons (pv 1) (pa_cons pe_int pa_nil))))) pss_nil))
  (pss_one (ps_cut (ps_if (pt_cmpR op_isN (pe_dget (hu_of hr) (pv 1) pe_str (fun _ _ => rfl)) pe_non (nomark _)) (pss_one (ps_expr (pe_bm PySem.F.plainAttrs_list PySem.F.slot_list_append PySem.F.type_list_append mt_append (pv 2) (pa_cons (pe_fn F_law_one (hr.mono (by omega)) (pa_cons (pv 1) (pa_cons (pv 3) (pa_cons (pv 4) (pa_cons pe_int pa_nil))))) pa_nil)))) pss_nil))))))
  (pss_one (ps_ret (pe_cut (pe_ifExp (pt_cmpR op_isN (pe_dget (hu_of hr) (pv 1) pe_str (fun _ _ => rfl)) pe_non (nomark _)) (pe_lst (pa_cons (pe_callTy call_tuple_of (by rfl) T.b_tuple (by decide +kernel) (pa_cons (pv 2) pa_nil)) pa_nil)) (pe_dget (hu_of hr) (pv 1) pe_str (fun _ _ => rfl)))))))))), ?_⟩)
  · obtain ⟨x, rfl, _⟩ := h
    rfl
  · obtain ⟨x, rfl, ⟨z, rfl, hz, hok, q⟩ | ⟨⟨ty, htx, hk⟩, q⟩⟩ := h
    · refine ⟨_, rfl, _, _, .type "str", .type "str", true, rfl, .ty "str", .base (.str z), kit_str, true, rfl, ?_⟩
      refine iteF rfl ?_
      intro d hdn
      have gd := Gr.new (o := .dK []) hdn
      have hdH : H d = none := hdn
      have hd0 : (upd H d (.dK [])) d = some (.dK []) := upd_same
      generalize upd H d (.dK []) = H0 at gd hd0
      refine ⟨fun v H' => Gr H0 H' ∧ ∃ r, v = .ref r ∧ H' r = some (.lst ((rowsOf z).map V.str)), ?_, fun v H1 hv => ?_⟩
      · refine ⟨_, rfl, rfl, _, rfl, ite2 (fun c => ?_) (fun c => ?_)⟩
        · have hne : z ≠ Str.empty := fun e => nT c (by rw [e] <;> rfl)
          refine ⟨_, rfl, ⟨_, rfl⟩, _, _, rfl, rfl, rfl, hz, fun p hp => ⟨Gr.new hp, p, rfl, ?_⟩⟩
          have e : rowsOf z = Txt.split z (Str.ofString "\n") := by
            unfold rowsOf
            rw [if_neg hne] <;> rfl
          rw [e]
          exact upd_same
        · have he : z = Str.empty := V.str.inj (nF c)
          refine ⟨by show 0 ≤ sizeLine; decide, fun p hp => ⟨Gr.new hp, p, rfl, ?_⟩⟩
          have e : rowsOf z = [] := by
            unfold rowsOf
            rw [if_pos he] <;> rfl
          rw [e]
          exact upd_same
      · obtain ⟨g1, r, rfl, hr1⟩ := hv
        have hd1 := g1 _ _ hd0
        refine ⟨hd1, [((.inr "rows" : Key), .ref r), (.inr "at", .int 0), (.inr "many", .int 0), (.inr "bad", .non)], rfl, (by show 4 ≤ 15; decide), ?_⟩
        rw [mergeK_st]
        have rd : r ≠ d := ne_kind hr1 hd1 (fun e => by cases e)
        have h2d : (upd H1 d (.dK (stK (.ref r) (.int 0) (.int 0) .non))) d = some (.dK (stK (.ref r) (.int (0 : Nat)) (.int (0 : Nat)) .non)) := upd_same
        have h2r : (upd H1 d (.dK (stK (.ref r) (.int 0) (.int 0) .non))) r = some (.lst ((rowsOf z).map V.str)) := by rw [upd_ne rd]; exact hr1
        have g2 : Gr H (upd H1 d (.dK (stK (.ref r) (.int 0) (.int 0) .non))) := (gd.trans g1).mut hdn
        generalize upd H1 d (.dK (stK (.ref r) (.int 0) (.int 0) .non)) = H2 at h2d h2r g2
        refine ⟨by show 0 ≤ sizeLine; decide, fun f hfn => ?_⟩
        have gf := Gr.new (o := .lst []) hfn
        have hf3 : (upd H2 f (.lst [])) f = some (.lst []) := upd_same
        have h3d := gf _ _ h2d
        have h3r := gf _ _ h2r
        have g3 := g2.trans gf
        have hfH : H f = none := g2.free hfn
        have fd : f ≠ d := (ne_of_none h2d hfn).symm
        have fr : f ≠ r := (ne_of_none h2r hfn).symm
        generalize upd H2 f (.lst []) = H3 at gf hf3 h3d h3r g3
        generalize eR : allR (rowsOf z) (rowsOf z).length [] 0 0 = R at q
        generalize rowsOf z = rows at hok eR h3r
        refine while_m (fun k σ Hh => ∃ A M b z3 z4, σ = [some (.str z), some (.ref d), some (.ref f), z3, z4] ∧ Gr H Hh ∧ Hh r = some (.lst (rows.map V.str)) ∧ Hh d = some (.dK (stK (.ref r) (.int (A : Nat)) (.int (M : Nat)) b)) ∧ AllAt K Hh rows f A M b R k) rows.length ?_ (fun k σ Hh pv C h1 h2 => ?_)
        · exact ⟨0, 0, .non, none, none, rfl, g3, h3r, h3d, ⟨_, hf3⟩, .inr ⟨rfl, _, [], [], eR.symm, Nat.le_refl _, rfl, by decide, hf3, .nil, rfl⟩⟩
        · obtain ⟨A, M, b, z3, z4, rfl, gh, hrh, hdh, ⟨xs0, hf0⟩, alt⟩ := pv
          refine ⟨fun y H' => H' = Hh ∧ y = (decide (b = .non) && decide (A < rows.length)), ?_, fun y H' hy => ?_⟩
          · refine ⟨_, rfl, d, b, rfl, st_bad hdh, rfl, _, rfl, ?_⟩
            refine ite2 (fun c => ?_) (fun c => ?_)
            · refine ⟨_, rfl, d, _, rfl, st_at hdh, _, rfl, d, _, rfl, st_rows hdh, r, _, rfl, .inl (sl_of hrh), _, _, rfl, rfl, _, rfl, rfl, ?_⟩
              rw [dT c, List.length_map]
              rw [decide_eq_true (rfl : V.non = V.non), Bool.true_and]
              exact decide_eq_decide.mpr (by omega)
            · refine ⟨rfl, ?_⟩
              rw [decide_eq_false (dF c)] <;> rfl
          · obtain ⟨eH, rfl⟩ := hy
            rw [eH]
            refine wayB (fun c => h1 _ ?_) (fun c => h2 _ ?_)
            · have c' := Bool.and_eq_true_iff.mp c
              have eb := of_decide_eq_true c'.1
              have hA := of_decide_eq_true c'.2
              subst eb
              rcases alt with ⟨i, e, ⟨t, et, _⟩, _⟩ | ⟨_, n, acc, xs, hR, hn, hk, hl, hf, dx, hnl⟩
              · cases et
              obtain ⟨n, rfl⟩ : ∃ n', n = n' + 1 := ⟨n - 1, by omega⟩
              have lx : xs.length = acc.length := DpAll.length dx
              have sz100 : 100 < sizeLine := by decide
              rw [allR, if_pos hA] at hR
              refine ⟨_, rfl, d, r, rows, A, .int M, rfl, hdh, hrh, hok, fun t p ws hd b1 H4 g4 h4d hp hpn st wn wl wk ok => ?_⟩
              refine ⟨t, _, rfl, st, rfl, _, _, rfl, _, _, rfl, rfl, ?_⟩
              have h4f := g4 _ _ hf fd
              have h4r := g4 _ _ hrh rd
              have gH4 : Gr H H4 := GrBut.gr g4 gh hdH
              refine ⟨fun σ' H' => σ' = [some (.str z), some (.ref d), some (.ref f), some (.ref p), some (.str hd)] ∧ ∃ b2, GrBut d H4 H' ∧ H' d = some (.dK (stK (.ref r) (.int (A + 1 : Nat)) (.int M) b2)) ∧
                ((∃ ri e, BadAt K H' b2 ri e ∧ R = .error (ri, e)) ∨ (b2 = .non ∧ acc.length < 12 ∧ nextW rows A = .ok (ws, hd))), ?_, fun σ' H' hv => ?_⟩
              · refine ⟨_, rfl, f, xs, rfl, .inl (sl_of h4f), rfl, _, rfl, ?_⟩
                cases hq : nextW rows A with
                | error e =>
                  rw [hq] at ok hR
                  have ok' : BadAt K H4 b1 (A + 1) e := ok
                  have nb : b1 ≠ .non := by
                    obtain ⟨t', e1, _⟩ := ok'
                    rw [e1]
                    exact fun z => by cases z
                  refine ite2 (fun c1 => ?_) (fun c1 => ?_)
                  · exact ⟨_, rfl, d, _, .int M, b1, _, 1, rfl, h4d, fun _ => ⟨rfl, b1, GrBut.rfl' _ _, h4d, .inl ⟨A + 1, e, ok', hR⟩⟩, fun z => absurd z nb⟩
                  · exact ⟨rfl, b1, GrBut.rfl' _ _, h4d, .inl ⟨A + 1, e, ok', hR⟩⟩
                | ok x =>
                  obtain ⟨x1, x2⟩ := x
                  rw [hq] at ok hR
                  obtain ⟨rfl, rfl, rfl⟩ := ok
                  refine ite2 (fun c1 => ?_) (fun c1 => ?_)
                  · have := V.int.inj (dT c1)
                    dsimp only at hR
                    rw [if_neg (by omega)] at hR
                    exact ⟨_, rfl, d, _, .int M, .non, _, 1, rfl, h4d, fun h => absurd rfl h, fun _ t H' g1 h1 st => ⟨rfl, _, g1, h1, .inl ⟨A + 1, 1, ⟨t, rfl, st⟩, hR⟩⟩⟩
                  · have : ¬ ((xs.length : Nat) : Int) = 12 := fun e => dF c1 (by rw [e])
                    exact ⟨rfl, _, GrBut.rfl' _ _, h4d, .inr ⟨rfl, by omega, rfl⟩⟩
              · obtain ⟨rfl, b2, g5, h5d, alt2⟩ := hv
                have h5f := g5 _ _ h4f fd
                have h5r := g5 _ _ h4r rd
                have h5p := g5 _ _ hp (ne_kind hp h4d (fun e => by cases e))
                have gH5 : Gr H H' := GrBut.gr g5 gH4 hdH
                refine ⟨_, ?_, fun _ _ h => h⟩
                refine ⟨_, rfl, d, b2, rfl, st_bad h5d, rfl, _, rfl, ite2 (fun c1 => ?_) (fun c1 => ?_)⟩
                · have eb := dT c1
                  rcases alt2 with ⟨ri, e, ⟨t', e1, _⟩, _⟩ | ⟨_, l12, hq⟩
                  · rw [eb] at e1
                    cases e1
                  rw [hq] at hR
                  dsimp only at hR
                  rw [if_pos l12] at hR
                  refine ⟨_, rfl, .inl ⟨rfl, _, sl_of h5f⟩, _, rfl, _, rfl, _, rfl, d, r, p, rows, ws, hd, A + 1, M, 3, 2 * rows.length + 2, Nat.le_refl _, rfl, by rw [h5d, eb], h5r, hok, h5p, ⟨wn, wl, wk⟩, ⟨nextW_head hq, fun e => nextW_set (by rw [hq, e])⟩, by omega, fun v b6 A6 M6 H6 g6 h6d rok => ?_⟩
                  have h6f := g6 _ _ h5f fd
                  have h6r := g6 _ _ h5r rd
                  have k06 : Kt Hh H6 := ((g4.trans g5).trans g6).kt (by rw [hdh]; exact True.intro)
                  refine ⟨f, xs, v, rfl, rfl, h6f, by omega, ?_⟩
                  have gH6 : Gr H H6 := GrBut.gr g6 gH5 hdH
                  have k7 : Kt H6 (upd H6 f (.lst (xs ++ [v]))) := Kt.put (by rw [h6f]; exact True.intro)
                  cases hrr : rowR rows (2 * rows.length + 2) ws hd 3 (A + 1) M with
                  | error e =>
                    obtain ⟨e1, e2⟩ := e
                    rw [hrr] at rok hR
                    have rok' : BadAt K H6 b6 e1 e2 := rok
                    exact ⟨0, by omega, A6, M6, b6, _, _, rfl, gH6.mut hfH, by rw [upd_ne fr.symm]; exact h6r, by rw [upd_ne fd.symm]; exact h6d, ⟨_, upd_same⟩, .inl ⟨e1, e2, rok'.kt k7, hR⟩⟩
                  | ok x =>
                    obtain ⟨x, i', m'⟩ := x
                    have hle := rowR_le _ hrr
                    dsimp only at hle
                    rw [hrr] at rok hR
                    obtain ⟨e6, rfl, rfl, dp, hx⟩ := rok
                    refine ⟨rows.length - A6, by omega, A6, M6, b6, _, _, rfl, gH6.mut hfH, by rw [upd_ne fr.symm]; exact h6r, by rw [upd_ne fd.symm]; exact h6d, ⟨_, upd_same⟩, .inr ⟨e6, n, acc ++ [x], xs ++ [v], hR, by omega, rfl, ?_, upd_same, ?_, nlAll_snoc hnl hx⟩⟩
                    · rw [List.length_append]
                      simp
                      omega
                    · exact DpAll.append (DpAll.kt (k06.trans k7) _ _ hnl dx) (.cons (Dp.kt k7 _ _ hx dp) .nil)
                · have nb : b2 ≠ .non := dF c1
                  rcases alt2 with ⟨ri, e, ba, hR2⟩ | ⟨e, _⟩
                  · exact ⟨0, by omega, A + 1, M, b2, _, _, rfl, gH5, h5r, h5d, ⟨_, h5f⟩, .inl ⟨ri, e, ba, hR2⟩⟩
                  · exact absurd e nb
            · refine ⟨fun v H' => Gr Hh H' ∧ Dp K H' v (dueD R), ?_, fun v H' hv => q _ _ (gh.trans hv.1) hv.2⟩
              refine ⟨_, rfl, d, b, rfl, st_bad hdh, rfl, _, rfl, ite2 (fun c1 => ?_) (fun c1 => ?_)⟩
              · have eb := dT c1
                rcases alt with ⟨i, e, ⟨t, et, _⟩, _⟩ | ⟨_, n, acc, xs, hR, hn, hk, hl, hf, dx, hnl⟩
                · rw [eb] at et
                  cases et
                have hA : ¬ A < rows.length := fun z => by
                  rw [decide_eq_true eb, decide_eq_true z] at c
                  cases c
                have hR2 : R = .ok acc := by
                  rw [hR]
                  cases n with
                  | zero => rw [allR]
                  | succ n => rw [allR, if_neg hA]
                refine ⟨_, rfl, f, xs, rfl, .inl ⟨sl_of hf, fun l hl => ?_⟩⟩
                have gl := Gr.new (o := .tup xs) hl
                refine ⟨by show 1 ≤ sizeLine; decide, fun u hu => ?_⟩
                have gu := Gr.new (o := .lst [.ref l]) hu
                refine ⟨gl.trans gu, ?_⟩
                rw [hR2]
                exact .lst (sl_of upd_same) (.cons (.tup (gu.st (st_of upd_same)) (DpAll.gr gu _ _ (DpAll.gr gl _ _ dx))) .nil)
              · have nb : b ≠ .non := dF c1
                rcases alt with ⟨i, e, ⟨t, et, st⟩, hR⟩ | ⟨e, _⟩
                · refine ⟨_, rfl, d, b, rfl, st_bad hdh, Gr.rfl' _, ?_⟩
                  rw [hR, et]
                  exact .tup st (.cons (.str _) (.cons (.int _) (.cons (.int _) .nil)))
                · exact absurd e nb
    · refine ⟨_, rfl, _, _, ty, .type "str", false, rfl, .ty "str", htx, hk, false, rfl, ?_⟩
      refine iteT rfl ⟨by show 3 ≤ sizeLine; decide, fun t ht => ?_⟩
      have gt := Gr.new (o := .tup [.str "row", .int 0, .int 0]) ht
      exact q _ _ gt (.tup (st_of upd_same) (.cons (.str _) (.cons (.int _) (.cons (.int _) .nil))))
end
end K86
set_option Elab.async false
set_option linter.all false
set_option maxRecDepth 100000
set_option maxHeartbeats 4000000
/-! the refusal of a row: made and raised -/
namespace K86
open PySem PySem.Spec PyProof.Rows L2
theorem oexB_ok {K : PySem.W.Frag} {C : Addr} (h : oexB K C = true) : ∃ nm q N bs bm sn sub ab col dd k0 k1 k2 k3 k5, K.lookup C = some (excClassObj nm q C N bs bm true sn sub ab col dd k0 k1 k2 k3 k5 "ValueError.__new__") ∧ PySem.HandSPX.refsVE bm = true := by
  unfold oexB at h
  split at h
  · rename_i t dd cd sl e
    split at h
    · rename_i c bm k0 k1 k2 k3 n k5 em es
      simp only [Bool.and_eq_true, decide_eq_true_eq, Bool.not_eq_true'] at h
      obtain ⟨rfl, rfl, rfl, hdel, hdict, hb⟩ := h
      obtain ⟨nm, bs, mro, ns, q, hd, sn, sub, ab, col, del⟩ := cd
      dsimp only at em hdel hdict
      subst em
      subst hdel
      subst hdict
      obtain ⟨sl⟩ := sl
      dsimp only at es
      subst es
      exact ⟨nm, q, ns, bs, bm, sn, sub, ab, col, dd, k0, k1, k2, k3, k5, e, hb⟩
    · cases h
  · cases h
section
variable {K : PySem.W.Frag} {mg : Str → Option Value}
theorem Tx.oex (T : Tx K mg) : OexC K (He.ga K "BadRow") := by
  have h := T.exc.1
  unfold excB at h
  simp only [Bool.and_eq_true, decide_eq_true_eq] at h
  obtain ⟨h1, h2, h3, h4, h5, h6⟩ := h
  exact ⟨oexB_ok h1, h2, h3, h4, T.kBad⟩
theorem Tx.bad_init (T : Tx K mg) : PySem.W.findIn K (.ref (He.ga K "BadRow")) "__init__" = some (some (.ref (He.ma K (He.ga K "BadRow") "__init__"))) ∧ PySem.W.typeIn K (.ref (He.ma K (He.ga K "BadRow") "__init__")) = some (.type "function") := by
  have h := T.exc.1
  unfold excB at h
  simp only [Bool.and_eq_true, decide_eq_true_eq] at h
  exact h.2.2.2.2
theorem Tx.le (T : Tx K mg) : PySem.W.findCls K (.ref (He.ga K "LoopError")) (.type "type") "__init__" = some (.val (.builtin "ValueError.__init__")) ∧ PySem.W.readsIn K (He.ga K "LoopError") (.type "type") = true := by
  have h := T.exc.2
  unfold excB2 at h
  simp only [Bool.and_eq_true, decide_eq_true_eq] at h
  obtain ⟨_, _, _, _, _, h6, h7, _⟩ := h
  refine ⟨?_, h7⟩
  split at h6
  · rename_i s e
    rw [e, of_decide_eq_true h6]
  · cases h6
end
section
variable {prog : Program} {w : World} {A : Around} {E : Value → Shared → Prop} {s : Shared}
theorem method_own {K : PySem.W.Frag} {C : Addr} {name : Str} {v : Value} {pl : Sem Bool} {Q : Value × List Value → Shared → Prop} (X : K.In s.heap) (hr : PySem.W.readsIn K C (.type "type") = true) (e : PySem.W.findCls K (.ref C) (.type "type") name = some (.val v))
    (hh : PySem.W.handedIn v = true) (h : Q (v, []) { s with toks := s.toks + 1 }) : wpAny (model prog w) A (getMethod (.ref C) name pl) Q E s := by
  have ht : PySem.W.typeIn K (.ref C) = some (.type "type") := by
    have hr2 := hr
    simp only [PySem.W.readsIn, Bool.and_eq_true, beq_iff_eq] at hr2
    exact hr2.1.1.1.2
  have L0 := PySem.W.looks_typeIn (M := model prog w) X ht
  have hg : PySem.W.findIn K (.type "type") "__getattribute__" = some (some (.builtin "type.__getattribute__")) := PySem.W.type_tga
  unfold getMethod specialOf
  refine wpAny_bind (wpAny_bind (L0.here ((PySem.W.looks_findIn X hg).here ?_)))
  dsimp only
  rw [if_pos PySem.W.canon_tga]
  refine wpAny_bind (wpAny_mono (Q := fun v => Q (v, [])) (E := E) ?_ (fun _ _ z => wpAny_pure z) fun _ _ z => z)
  exact PySem.W.cls_value X hr e hh h
end
section
variable {X : Cx} {e : Expr} {es : List Expr} {ta : TA} {p p1 p2 pos : Pos}
/-- LoopError.__init__(self, ..) -/
theorem pe_leinit {L : Addr} {pl : Sem Bool} (hg : Gl X "LoopError") (hm : X.mg "LoopError" = some (.ref L)) (hr : PySem.W.readsIn X.K L (.type "type") = true) (vV : PySem.W.findCls X.K (.ref L) (.type "type") "__init__" = some (.val (.builtin "ValueError.__init__"))) (ha : PA X (e :: es) ta)
    (hc : eval (.Call (.Attribute (.Name "LoopError" p1) "__init__" p2) (e :: es) [] pos) X.env = (do
      let ov ← eval (.Name "LoopError" p1) X.env
      standAt p2.atName
      let (f, first) ← holding [ov] (getMethod ov "__init__" pl)
      callWith pos f first (backTo pos (starEach (e :: es) X.env)) (backToKw pos (keywordEach [] X.env))) := by rfl)
    (he : starEach (e :: es) X.env = (false, eval e X.env) :: starEach es X.env := by rfl) (hpl : (backTo pos (starEach es X.env)).any (·.1) = false := by rfl) :
    PE X (.Call (.Attribute (.Name "LoopError" p1) "__init__" p2) (e :: es) [] pos) (tVeI X.K ta) := by
  refine ⟨fun pins s σ H Q I h => ?_⟩
  refine PySem.W.methodCall_KW (ld_glob I hg hm ?_ (by decide)) hc
  refine method_own I.kIn hr vV (by decide +kernel) ?_
  show wpAny _ _ (callWith pos (Value.builtin "ValueError.__init__") [] (backTo pos (starEach (e :: es) X.env)) []) _ _ _
  refine PyProof.Rows.callWith_method1 (thn (ha.run pos pins _ σ H _ (I.tok _) h) fun us s1 ⟨vs, H1, I1, r1, a, C, ws, ev, hl, T, ea, q⟩ => ?_) he hpl
  subst ev
  cases r1 with
  | @cons _ u0 _ ur ra rw' =>
    obtain rfl : u0 = Value.ref a := ra
    have hlen : ur.length ≤ sizeLine := by
      rw [← Paired.length rw', sizeLine_eq]
      omega
    exact oinit_ok T I1 ea hlen fun s' J => ⟨.non, H1, J, rfl, q⟩
end
/-! ### BadRow.__init__ -/
section
variable {P : Program} {w : World} {K : PySem.W.Frag} {mg : Str → Option Value} {base : Heap}
def sp_bad_init (K : PySem.W.Frag) : Sp := fun vs H Q _ => ∃ (a : Addr) (r wd : Int), vs = [.ref a, .int r, .int wd] ∧ H a = some (exo a (He.ga K "BadRow") none) ∧
  ∀ d H', (∀ b o, b ≠ a → H b = some o → H' b = some o) → H d = none → d ≠ a → H' a = some (exo a (He.ga K "BadRow") (some d)) → H' d = some (exd d [("word", .int wd), ("row", .int r)]) → Q .non H'
theorem sc_BadRow_init : FnScope ["self", "row", "word"] ["self", "row", "word"] (defScope s_BadRow_init) := ⟨rfl, rfl, rfl, by decide +kernel, rfl, by decide +kernel, by decide +kernel⟩
theorem ok_bad_init (T : Tx K mg) : Fm P w K mg base CX0 1 (He.ma K (He.ga K "BadRow") "__init__") ["self", "row", "word"] (sp_bad_init K) := by
  refine Fm.of T.f_BadRow_init sc_BadRow_init (fun _ _ _ _ _ _ us hl => match us, hl with | [_, _, _], _ => rfl) (fun vs H Q E h => ?_) (fun cdv A outer s H vs Q E hr h => ⟨_, PSs.nox (pss_cons (ps_expr (pe_leinit rfl T.g_LoopError T.le.2 T.le.1 (pa_cons (pv 0) (pa_cons pe_str pa_nil))))
  (pss_cons (ps_ost (pv 0) (pv 1) rfl)
  (pss_one (ps_ost (pv 0) (pv 2) rfl)))), ?_⟩)
  · obtain ⟨a, r, wd, rfl, _⟩ := h
    rfl
  · obtain ⟨a, r, wd, rfl, ha, q⟩ := h
    refine ⟨_, rfl, a, _, _, rfl, by show 1 ≤ 1000; decide, T.oex, ha, ?_⟩
    refine ⟨_, rfl, _, rfl, a, _, rfl, T.oex, T.n_row, .inl ⟨ha, fun d hdn hda => ?_⟩⟩
    refine ⟨_, rfl, _, rfl, a, _, rfl, T.oex, T.n_word, .inr ⟨d, _, upd_same, by rw [upd_ne hda]; exact upd_same, by show 1 ≤ 900; decide, ?_⟩⟩
    refine q d _ (fun b o hb e => ?_) hdn hda ?_ upd_same
    · rw [upd_ne (ne_of_none e hdn), upd_ne hb, upd_ne (ne_of_none e hdn)]
      exact e
    · rw [upd_ne hda.symm]
      exact upd_same
end
end K86
set_option Elab.async false
set_option linter.all false
set_option maxRecDepth 100000
set_option maxHeartbeats 4000000
/-! polys, read by the program -/
namespace K86
open PySem PySem.Spec PyProof.Rows L2
section
variable {X : Cx} {k : Nat} {W : WX} {e : Expr} {es : List Expr} {ta : TA} {p pos pos' : Pos}
/-- raise BadRow(row, word) -/
def tBad (K : PySem.W.Frag) (W : WX) (ta : TA) : TS := fun _ σ H => tMkO (He.ga K "BadRow") (sp_bad_init K) [] ta σ H fun cls d H' => W cls d σ H'
theorem ps_bad (T : Tx X.K X.mg) (M : Fm X.prog X.w X.K X.mg X.base CX0 k (He.ma X.K (He.ga X.K "BadRow") "__init__") ["self", "row", "word"] (sp_bad_init X.K)) (hr : Room (k + 1) X.A) (hc : X.calm = true) (tk : Takes X W) (ha : PA X (e :: es) ta) (hg : Gl X "BadRow" := by rfl)
    (he : starEach (e :: es) X.env = (false, eval e X.env) :: starEach es X.env := by rfl) (hpl : (backTo pos (starEach es X.env)).any (·.1) = false := by rfl) :
    PS X (.Raise (some (.Call (.Name "BadRow" p) (e :: es) [] pos)) none pos') (tBad X.K W ta) := by
  obtain ⟨fd, F, hb⟩ := M
  exact ps_raise hc tk (pmk_oex T.oex T.bad_init.1 T.bad_init.2 F hr hb .nil (fun _ _ _ _ _ _ _ h => h.elim) hg T.g_BadRow ha (by decide) he hpl)
theorem mk_bad {K : PySem.W.Frag} {H : Hp} {r wd : Int} {Q : XK} (q : ∀ d H', Gr H H' → H' d = some (.xd [("word", .int wd), ("row", .int r)]) → Q (.ref (He.ga K "BadRow")) (some d) H') :
    ([V.int r, V.int wd] : List V).length ≤ 1000 ∧ ∀ a, H a = none → sp_bad_init K (.ref a :: ([V.int r, V.int wd] ++ [])) (upd H a (exo a (He.ga K "BadRow") none))
      (fun v H2 => v = .non ∧ ∃ (d : Addr) (fs : List (Str × V)), H2 a = some (exo a (He.ga K "BadRow") (some d)) ∧ H2 d = some (exd d fs) ∧ H d = none ∧ Q (.ref (He.ga K "BadRow")) (some d) (upd (del H2 a) d (.xd fs))) (fun _ _ _ => False) := by
  refine ⟨by show 2 ≤ 1000; decide, fun a ha => ⟨a, r, wd, rfl, upd_same, fun d H' keep hdn hda ha' hd' => ?_⟩⟩
  rw [upd_ne hda] at hdn
  refine ⟨rfl, d, _, ha', hd', hdn, q d _ (fun b o e => ?_) upd_same⟩
  have hba : b ≠ a := ne_of_none e ha
  rw [upd_ne (ne_of_none e hdn), del_ne hba]
  exact keep b o hba (by rw [upd_ne hba]; exact e)
end
/-- the refusal of a row and a word -/
def ExW (K : PySem.W.Frag) (E : XK) (G : Hp → Prop) (r wd : Nat) : Prop := ∀ d H', G H' → H' d = some (.xd [("word", .int wd), ("row", .int r)]) → E (.ref (He.ga K "BadRow")) (some d) H'
section
variable {P : Program} {w : World} {K : PySem.W.Frag} {mg : Str → Option Value} {base : Heap}
/-- what is read of words, by the program -/
def sp_told (K : PySem.W.Frag) (rd : List Str → Nat → Except Nat PyData) : Sp := fun vs H Q E => ∃ (a : Addr) (ws : List Str) (row i : Nat), vs = [.ref a, .int row, .int i] ∧ H a = some (.lst (ws.map V.str)) ∧ WsOk ws ∧ i ≤ ws.length ∧
  match rd ws i with
    | .ok x => ∀ v H', Gr H H' → Dp K H' v x → Q v H'
    | .error e => ExW K E (Gr H) row e
def atP (ws : List Str) (ts : List (Mo × Int)) (at_ : Nat) : Except Nat (List (Mo × Int)) := if ts = [] then terms termT (ws.drop at_) at_ else termsB termT (ws.drop at_) at_
theorem addP_all {ts : List (Mo × Int)} (h : ∀ t ∈ ts, t.2.natAbs < 10 ^ 40) : PolyOk ts.length (ts.foldl addP []) := by
  have := poly_ok ts 0 [] ⟨Nat.le_refl _, List.nodup_nil, fun x hx => by cases hx⟩ h
  rw [Nat.zero_add] at this
  exact this
theorem PolyOk.mono {n m : Nat} {l : List (Mo × Int)} (h : PolyOk n l) (hl : n ≤ m) : PolyOk m l := ⟨Nat.le_trans h.1 hl, h.2.1, fun x hx => Nat.le_trans (h.2.2 x hx) (Nat.mul_le_mul_right _ hl)⟩
theorem sc_poly_in : FnScope ["words", "row", "at", "found", "many", "told"] ["words", "row", "at"] (defScope s_poly_in) := ⟨rfl, rfl, rfl, by decide +kernel, rfl, by decide +kernel, by decide +kernel⟩
theorem ok_poly_in (T : Tx K mg) (M_bad : Fm P w K mg base CX0 1 (He.ma K (He.ga K "BadRow") "__init__") ["self", "row", "word"] (sp_bad_init K)) (F_term_in : Fn P w K mg base CX0 2 "term_in" ["word"] (sp_term_in K))
    (F_poly_of : Fn P w K mg base CX0 1 "poly_of" ["found"] (sp_poly_of P w K)) : Fn P w K mg base (L2.CX P w) 3 "poly_in" ["words", "row", "at"] (sp_told K polyR) := by
  refine Fn.of T.f_poly_in sc_poly_in (fun _ _ _ _ _ _ us hl => match us, hl with | [_, _, _], _ => rfl) (fun vs H Q E h => ?_) (fun f cdv A outer s H vs Q E hr h => ?_)
  · obtain ⟨a, ws, row, i, rfl, _⟩ := h
    rfl
  · have tk : Takes (cxOf (L2.CX P w) P w K mg base ["words", "row", "at", "found", "many", "told"] "poly_in" (defScope s_poly_in) f cdv A outer s H E) (fun cls d _ H => E cls d H) := takes_of rfl rfl rfl rfl
    refine ⟨_, (pss_cons (ps_set (i := 3) sc_poly_in.nd rfl (Or.inl rfl) (pe_dnewN eM))
  (pss_cons (ps_set (i := 4) sc_poly_in.nd rfl (Or.inl rfl) pe_int)
  (pss_cons (ps_while (passes_of rfl) (pt_cut (PW.pt (pw_or (pt_cmpR op_eq (pv 4) pe_int (nomark _)) (pw_or1 (pt_cmpR op_lt (pv 2) (pe_callB call_len_seq (by rfl) T.b_len (by decide +kernel) (pa_cons (pv 0) pa_nil)) (nomark _)))))) (pss_cons (ps_cut (ps_if (pt_cmpR op_gt (pv 4) pe_int (nomark _)) (pss_cons (ps_if (pt_cut (PW.pt (pw_or (pt_cmpR op_ne (pe_ix ix_list (pv 0) (pv 2) (fun _ _ => rfl)) pe_str (nomark _)) (pw_or1 (pt_cmpR op_eq (pv 4) (pe_gv T.c_MOST_TERMS) (nomark _)))))) (pss_one (ps_bad T M_bad (hr.mono (by omega)) rfl tk (pa_cons (pv 1) (pa_cons (pe_op op_add (pv 2) pe_int) pa_nil)))) pss_nil)
  (pss_one (ps_aug (i := 2) sc_poly_in.nd rfl (Or.inl rfl) pe_int ip_add))) pss_nil))
  (pss_cons (ps_set (i := 5) sc_poly_in.nd rfl (Or.inl rfl) (pe_cut (pe_ifExp (pt_cmpR op_lt (pv 2) (pe_callB call_len_seq (by rfl) T.b_len (by decide +kernel) (pa_cons (pv 0) pa_nil)) (nomark _)) (pe_fn F_term_in (hr.mono (by omega)) (pa_cons (pe_ix ix_list (pv 0) (pv 2) (fun _ _ => rfl)) pa_nil)) pe_non)))
  (pss_cons (ps_if (pt_cmpR op_isN (pv 5) pe_non (nomark _)) (pss_one (ps_bad T M_bad (hr.mono (by omega)) rfl tk (pa_cons (pv 1) (pa_cons (pe_op op_add (pv 2) pe_int) pa_nil)))) pss_nil)
  (pss_cons (ps_dputN eM hr.units (pv 3) (pe_ix ix_tup (pv 5) pe_int (fun _ _ => rfl)) (pe_op op_add (pe_dgetN eM hr.units (pv 3) (pe_ix ix_tup (pv 5) pe_int (fun _ _ => rfl)) pe_int (by exact ⟨by rfl, by rfl, by rfl, by rfl⟩)) (pe_ix ix_tup (pv 5) pe_int (fun _ _ => rfl))) rfl)
  (pss_cons (ps_aug (i := 4) sc_poly_in.nd rfl (Or.inl rfl) pe_int ip_add)
  (pss_one (ps_aug (i := 2) sc_poly_in.nd rfl (Or.inl rfl) pe_int ip_add))))))))
  (pss_one (ps_ret (pe_fn F_poly_of (hr.mono (by omega)) (pa_cons (pv 3) pa_nil))))))), ?_⟩
    obtain ⟨a, ws, row, i, rfl, ha, ⟨wn, wl, wk⟩, hi, q⟩ := h
    intro d hd0
    have g0 : Gr H (upd H d (kdO P w eM d [])) := Gr.new hd0
    refine while_m (fun m σ Hh => Gr H Hh ∧ ∃ (ts : List (Mo × Int)) (at_ : Nat) (z : Option V), σ = [some (.ref a), some (.int row), some (.int at_), some (.ref d), some (.int ts.length), z] ∧ DN P w K eM PyData.int Hh d (ts.foldl addP []) ∧
      terms termT (ws.drop i) i = pre ts (atP ws ts at_) ∧ at_ ≤ ws.length ∧ ts.length ≤ at_ ∧ (∀ t ∈ ts, t.2.natAbs < 10 ^ 40) ∧ m = ws.length + 1 - at_) (ws.length + 1 - i) ?_ (fun m σ Hh pv C h1 h2 => ?_)
    · exact ⟨g0, [], i, none, rfl, DN.new upd_same, by rw [pre_nil] <;> rfl, hi, Nat.zero_le _, (fun t ht => by cases ht), rfl⟩
    · obtain ⟨gh, ts, at_, z, rfl, dh, ht, hat, hlen, hsm, rfl⟩ := pv
      have ah := gh _ _ ha
      refine ⟨fun b H' => H' = Hh ∧ b = (decide (ts = []) || decide (at_ < ws.length)), ?_, fun b H' hb => ?_⟩
      · refine ⟨_, rfl, rfl, _, rfl, ite2 (fun c => ?_) (fun c => ?_)⟩
        · have : ts = [] := List.eq_nil_of_length_eq_zero (by have := V.int.inj (dT c); omega)
          exact ⟨rfl, by rw [decide_eq_true this] <;> rfl⟩
        · have : ¬ ts = [] := fun e => dF c (by rw [e] <;> rfl)
          refine ⟨_, rfl, _, rfl, a, _, rfl, .inl (sl_of ah), _, _, rfl, rfl, _, rfl, rfl, ?_⟩
          rw [decide_eq_false this, Bool.false_or, List.length_map]
          exact decide_eq_decide.mpr (by omega)
      · obtain ⟨eH, rfl⟩ := hb
        rw [eH]
        have qE : ∀ e, polyR ws i = .error e → ExW K E (Gr H) row e := fun e h => by rw [h] at q; exact q
        have eE : ∀ e, terms termT (ws.drop i) i = .error e → polyR ws i = .error e := fun e h => by
          unfold polyR polyW
          rw [h]
        refine wayB (fun c => h1 _ ?_) (fun c => h2 _ ?_)
        · refine ⟨fun σ' H' => H' = Hh ∧ ∃ at1 : Nat, σ' = [some (.ref a), some (.int row), some (.int at1), some (.ref d), some (.int ts.length), z] ∧ terms termT (ws.drop i) i = pre ts (terms termT (ws.drop at1) at1) ∧ at_ ≤ at1 ∧ at1 ≤ ws.length, ?_, fun σ' H' hv => ?_⟩
          · refine ⟨_, rfl, _, _, rfl, rfl, _, rfl, ite2 (fun c2 => ?_) (fun c2 => ?_)⟩
            · have hne : ts ≠ [] := fun e => by
                have := dT c2
                rw [e] at this
                exact absurd this (by decide)
              have hlt : at_ < ws.length := by
                rw [decide_eq_false hne, Bool.false_or] at c
                exact of_decide_eq_true c
              have hdr : ws.drop at_ = ws[at_] :: ws.drop (at_ + 1) := List.drop_eq_getElem_cons hlt
              have hat2 : atP ws ts at_ = termsB termT (ws.drop at_) at_ := by unfold atP; rw [if_neg hne]
              rw [hat2, hdr] at ht
              refine ⟨fun b H' => H' = Hh ∧ b = !decide (ws[at_] = ("+" : Str)), ?_, fun b H' hb => ?_⟩
              · refine ⟨_, rfl, _, rfl, a, _, _, _, rfl, rfl, sl_of ah, at_str hlt, rfl, _, rfl, ?_⟩
                show if (!decide (V.str ws[at_] = V.str "+")) = true then _ else _
                rw [decS]
                refine ite2 (fun c3 => ⟨rfl, c3.symm⟩) (fun c3 => ?_)
                refine ⟨_, rfl, rfl, _, rfl, rfl, ?_⟩
                rw [c3, dec_V]
                exact decide_eq_false (by omega)
              · obtain ⟨eH2, rfl⟩ := hb
                rw [eH2]
                refine ite2 (fun c3 => ?_) (fun c3 => ?_)
                · refine ⟨_, rfl, _, rfl, _, _, rfl, rfl, mk_bad fun dx H2 g hx => ?_⟩
                  refine qE (at_ + 1) (eE _ ?_) dx H2 (gh.trans g) hx
                  rw [ht]
                  unfold termsB
                  dsimp only
                  rw [if_neg (nT c3)] <;> rfl
                · refine ⟨_, rfl, _, _, rfl, rfl, rfl, at_ + 1, rfl, ?_, Nat.le_succ _, hlt⟩
                  rw [ht]
                  unfold termsB
                  dsimp only
                  rw [if_pos (nF c3)] <;> rfl
            · have hne : ts = [] := List.eq_nil_of_length_eq_zero (by have := dF c2; omega)
              refine ⟨rfl, at_, rfl, ?_, Nat.le_refl _, hat⟩
              rw [ht]
              unfold atP
              rw [if_pos hne]
          · obtain ⟨eH3, at1, rfl, ht1, hle, hat1⟩ := hv
            rw [eH3]
            refine ⟨fun v H' => Gr Hh H' ∧ OptT K H' (if h : at1 < ws.length then termT ws[at1] else none) v, ?_, fun v H1 hv => ?_⟩
            · refine ⟨_, rfl, _, rfl, a, _, rfl, .inl (sl_of ah), _, _, rfl, rfl, _, rfl, ?_⟩
              rw [List.length_map]
              refine ite2 (fun c2 => ?_) (fun c2 => ?_)
              · have hlt : at1 < ws.length := by have := dT c2; omega
                have sz := (wk _ (List.getElem_mem hlt)).2
                refine ⟨_, rfl, _, rfl, a, _, _, _, rfl, rfl, sl_of ah, at_str hlt, ws[at1], rfl, by omega, fun v H' g o => ⟨g, ?_⟩⟩
                rw [dif_pos hlt]
                exact o
              · have hlt : ¬ at1 < ws.length := by have := dF c2; omega
                refine ⟨Gr.rfl' _, ?_⟩
                rw [dif_neg hlt]
                exact rfl
            · obtain ⟨g1, o1⟩ := hv
              have eN : (if h : at1 < ws.length then termT ws[at1] else none) = none → terms termT (ws.drop at1) at1 = .error (at1 + 1) := fun e => by
                by_cases hlt : at1 < ws.length
                · rw [dif_pos hlt] at e
                  rw [List.drop_eq_getElem_cons hlt, terms_none e]
                · rw [List.drop_eq_nil_of_le (by omega)] <;> rfl
              refine ⟨_, rfl, rfl, _, rfl, ite2 (fun c2 => ?_) (fun c2 => ?_)⟩
              · have ev := dT c2
                have e0 : (if h : at1 < ws.length then termT ws[at1] else none) = none := by
                  cases hq : (if h : at1 < ws.length then termT ws[at1] else none) with
                  | none => rfl
                  | some t =>
                    rw [hq] at o1
                    obtain ⟨p, x, m, rfl, _⟩ := dp_two o1
                    cases ev
                refine ⟨_, rfl, _, rfl, _, _, rfl, rfl, mk_bad fun dx H2 g hx => ?_⟩
                refine qE (at1 + 1) (eE _ ?_) dx H2 (gh.trans (g1.trans g)) hx
                rw [ht1, eN e0] <;> rfl
              · have ev : v ≠ .non := dF c2
                have hlt : at1 < ws.length := by
                  by_cases h : at1 < ws.length
                  · exact h
                  · rw [dif_neg h] at o1
                    exact absurd o1 ev
                rw [dif_pos hlt] at o1
                cases hq : termT ws[at1] with
                | none => rw [hq] at o1; exact absurd o1 ev
                | some t =>
                  rw [hq] at o1
                  obtain ⟨p, x, y, rfl, sp, dx, dy⟩ := dp_two o1
                  cases dp_int dy
                  obtain ⟨ka, _, rfl, _, _⟩ := dp_tuple dx
                  obtain ⟨xs, ed, hk, hp⟩ := dh.gr g1
                  have ok := addP_all hsm
                  have st := termT_lt hq
                  have l20 : ts.length ≤ 20 := by omega
                  have lx : xs.length < sizeLine := by
                    rw [paired_len hp]
                    exact Nat.lt_of_le_of_lt (Nat.le_trans ok.1 l20) (by decide)
                  have at1' : atI [V.ref ka, V.int t.2] 1 = some (.int t.2) := atI_nat (j := 1) rfl
                  have fin_ : ∀ n : Int, n = (getA (ts.foldl addP []) t.1).getD 0 + t.2 → DN P w K eM PyData.int (upd H1 d (kdO P w eM d (putN xs t.1 ka (.int n)))) d ((ts ++ [t]).foldl addP []) := fun n e => by
                    rw [List.foldl_append]
                    refine DN.put (f := fun o => o.getD 0 + t.2) (fun _ => rfl) ed hk hp ok.2.1 dx ?_
                    rw [e]
                    exact .int _
                  have hend : terms termT (ws.drop i) i = pre (ts ++ [t]) (atP ws (ts ++ [t]) (at1 + 1)) := by
                    rw [ht1, List.drop_eq_getElem_cons hlt, terms_some hq, pre_pre]
                    unfold atP
                    rw [if_neg (by simp)]
                  have sm2 : ∀ u ∈ ts ++ [t], u.2.natAbs < 10 ^ 40 := fun u hu => by
                    rcases List.mem_append.mp hu with h | h
                    · exact hsm u h
                    · rw [List.mem_singleton.mp h]
                      exact st
                  have ln2 : (ts ++ [t]).length = ts.length + 1 := by rw [List.length_append, List.length_singleton]
                  refine ⟨_, rfl, d, rfl, ⟨xs, ed⟩, _, rfl, p, _, 0, _, rfl, rfl, sp, at0, xs, ka, t.1, rfl, ed, hk, dx, ?_⟩
                  rcases getN_rel (k := t.1) hp with ⟨e1, e2⟩ | ⟨b, v, e1, e2, dv⟩
                  · rw [e2]
                    refine ⟨_, rfl, p, _, 1, _, rfl, rfl, sp, at1', _, _, rfl, rfl, _, rfl, _, rfl, p, _, 0, _, rfl, rfl, sp, at0, d, xs, ka, t.1, rfl, rfl, ed, hk, dx, lx, ?_⟩
                    refine ⟨_, rfl, _, _, rfl, rfl, _, rfl, _, _, rfl, rfl, ws.length + 1 - (at1 + 1), by omega, (gh.trans g1).mut hd0, ts ++ [t], at1 + 1, _, by rw [ln2] <;> rfl, fin_ _ (by rw [e1] <;> rfl), hend, hlt, by omega, sm2, rfl⟩
                  · cases dp_int dv
                    rw [e2]
                    refine ⟨_, rfl, p, _, 1, _, rfl, rfl, sp, at1', _, _, rfl, rfl, _, rfl, _, rfl, p, _, 0, _, rfl, rfl, sp, at0, d, xs, ka, t.1, rfl, rfl, ed, hk, dx, lx, ?_⟩
                    refine ⟨_, rfl, _, _, rfl, rfl, _, rfl, _, _, rfl, rfl, ws.length + 1 - (at1 + 1), by omega, (gh.trans g1).mut hd0, ts ++ [t], at1 + 1, _, by rw [ln2] <;> rfl, fin_ _ (by rw [e1] <;> rfl), hend, hlt, by omega, sm2, rfl⟩
        · rw [Bool.or_eq_false_iff] at c
          have hne := of_decide_eq_false c.1
          have hge := of_decide_eq_false c.2
          have e1 : terms termT (ws.drop i) i = .ok ts := by
            rw [ht]
            unfold atP
            rw [if_neg hne, List.drop_eq_nil_of_le (by omega)]
            show Except.ok (ts ++ []) = _
            rw [List.append_nil]
          have e2 : polyR ws i = .ok (polyD (polyOf (ts.foldl addP []))) := by
            unfold polyR polyW
            rw [e1]
          rw [e2] at q
          refine ⟨_, rfl, d, ts.foldl addP [], rfl, dh, (addP_all hsm).mono (by omega), fun p H' g dp => q _ _ (gh.trans g) dp⟩
end
end K86
set_option Elab.async false
set_option linter.all false
set_option maxRecDepth 100000
set_option maxHeartbeats 4000000
/-! forms, read by the program -/
namespace K86
open PySem PySem.Spec PyProof.Rows L2
theorem upA_congr {κ β : Type} [DecidableEq κ] {k : κ} {f g : Option β → β} : ∀ {l : List (κ × β)}, f none = g none → (∀ x ∈ l, f (some x.2) = g (some x.2)) → upA l k f = upA l k g
  | [], h, _ => by rw [upA, upA, h]
  | x :: r, h, h2 => by
    rw [upA, upA, h2 x List.mem_cons_self, upA_congr h fun y hy => h2 y (List.mem_cons_of_mem _ hy)]
theorem addQ_low {n : Nat} {l : List (Kd × Int × Int)} {t : Kd × Int × Int} (ok : FormOk n l) (ht : 0 < t.2.2) : addQ l (lowF t) = addQ l t := by
  unfold addQ
  show upA l t.1 _ = upA l t.1 _
  refine upA_congr ?_ fun x hx => ?_
  · exact addF_fr (0, 1) (by decide) ht
  · exact addF_fr x.2 (ok.2.2 x hx).1 ht
theorem FormFull.mono {n m : Nat} {l : List (Kd × Int × Int)} (h : FormFull n l) (hl : n ≤ m) : FormFull m l := by
  have hp : 10 ^ (40 * n) ≤ 10 ^ (40 * m) := Nat.pow_le_pow_right (by decide) (by omega)
  refine ⟨⟨Nat.le_trans h.1.1 hl, h.1.2.1, fun x hx => ?_⟩, h.2⟩
  obtain ⟨a, b, c⟩ := h.1.2.2 x hx
  exact ⟨a, Nat.le_trans b hp, Nat.le_trans c (Nat.mul_le_mul hl hp)⟩
section
variable {P : Program} {w : World} {K : PySem.W.Frag} {mg : Str → Option Value} {base : Heap}
def atQ (ws : List Str) (ts : List (Kd × Int × Int)) (at_ : Nat) : Except Nat (List (Kd × Int × Int)) := if ts = [] then terms pairU (ws.drop at_) at_ else termsB pairU (ws.drop at_) at_
theorem sc_form_in : FnScope ["words", "row", "at", "found", "many", "told"] ["words", "row", "at"] (defScope s_form_in) := ⟨rfl, rfl, rfl, by decide +kernel, rfl, by decide +kernel, by decide +kernel⟩
theorem ok_form_in (T : Tx K mg) (M_bad : Fm P w K mg base CX0 1 (He.ma K (He.ga K "BadRow") "__init__") ["self", "row", "word"] (sp_bad_init K)) (F_pair_in : Fn P w K mg base CX0 4 "pair_in" ["word"] (sp_pair_in K))
    (F_added : Fn P w K mg base CX0 4 "added" ["found", "key", "share"] (sp_added P w K)) (F_form_of : Fn P w K mg base CX0 3 "form_of" ["found"] (sp_pairs_of P w K)) : Fn P w K mg base (L2.CX P w) 5 "form_in" ["words", "row", "at"] (sp_told K formR) := by
  refine Fn.of T.f_form_in sc_form_in (fun _ _ _ _ _ _ us hl => match us, hl with | [_, _, _], _ => rfl) (fun vs H Q E h => ?_) (fun f cdv A outer s H vs Q E hr h => ?_)
  · obtain ⟨a, ws, row, i, rfl, _⟩ := h
    rfl
  · have tk : Takes (cxOf (L2.CX P w) P w K mg base ["words", "row", "at", "found", "many", "told"] "form_in" (defScope s_form_in) f cdv A outer s H E) (fun cls d _ H => E cls d H) := takes_of rfl rfl rfl rfl
    refine ⟨_, (pss_cons (ps_if (pt_cmpR (op_eqD hr.units) (pe_slice sl_list (pv 0) (po_some (pv 2)) (po_some (pe_op op_add (pv 2) pe_int))) (pe_lst (pa_cons pe_str pa_nil)) (nomark _)) (pss_cons (ps_if (pt_cmpR op_gt (pe_callB call_len_seq (by rfl) T.b_len (by decide +kernel) (pa_cons (pv 0) pa_nil)) (pe_op op_add (pv 2) pe_int) (nomark _)) (pss_one (ps_bad T M_bad (hr.mono (by omega)) rfl tk (pa_cons (pv 1) (pa_cons (pe_op op_add (pv 2) pe_int) pa_nil)))) pss_nil)
  (pss_one (ps_ret (pe_tup pa_nil)))) pss_nil)
  (pss_cons (ps_set (i := 3) sc_form_in.nd rfl (Or.inl rfl) (pe_dnewN eK))
  (pss_cons (ps_set (i := 4) sc_form_in.nd rfl (Or.inl rfl) pe_int)
  (pss_cons (ps_while (passes_of rfl) (pt_cut (PW.pt (pw_or (pt_cmpR op_eq (pv 4) pe_int (nomark _)) (pw_or1 (pt_cmpR op_lt (pv 2) (pe_callB call_len_seq (by rfl) T.b_len (by decide +kernel) (pa_cons (pv 0) pa_nil)) (nomark _)))))) (pss_cons (ps_cut (ps_if (pt_cmpR op_gt (pv 4) pe_int (nomark _)) (pss_cons (ps_if (pt_cut (PW.pt (pw_or (pt_cmpR op_ne (pe_ix ix_list (pv 0) (pv 2) (fun _ _ => rfl)) pe_str (nomark _)) (pw_or1 (pt_cmpR op_eq (pv 4) (pe_gv T.c_MOST_PAIRS_forms) (nomark _)))))) (pss_one (ps_bad T M_bad (hr.mono (by omega)) rfl tk (pa_cons (pv 1) (pa_cons (pe_op op_add (pv 2) pe_int) pa_nil)))) pss_nil)
  (pss_one (ps_aug (i := 2) sc_form_in.nd rfl (Or.inl rfl) pe_int ip_add))) pss_nil))
  (pss_cons (ps_set (i := 5) sc_form_in.nd rfl (Or.inl rfl) (pe_cut (pe_ifExp (pt_cmpR op_lt (pv 2) (pe_callB call_len_seq (by rfl) T.b_len (by decide +kernel) (pa_cons (pv 0) pa_nil)) (nomark _)) (pe_fn F_pair_in (hr.mono (by omega)) (pa_cons (pe_ix ix_list (pv 0) (pv 2) (fun _ _ => rfl)) pa_nil)) pe_non)))
  (pss_cons (ps_if (pt_cmpR op_isN (pv 5) pe_non (nomark _)) (pss_one (ps_bad T M_bad (hr.mono (by omega)) rfl tk (pa_cons (pv 1) (pa_cons (pe_op op_add (pv 2) pe_int) pa_nil)))) pss_nil)
  (pss_cons (ps_expr (pe_fn F_added (hr.mono (by omega)) (pa_cons (pv 3) (pa_cons (pe_ix ix_tup (pv 5) pe_int (fun _ _ => rfl)) (pa_cons (pe_ix ix_tup (pv 5) pe_int (fun _ _ => rfl)) pa_nil)))))
  (pss_cons (ps_aug (i := 4) sc_form_in.nd rfl (Or.inl rfl) pe_int ip_add)
  (pss_one (ps_aug (i := 2) sc_form_in.nd rfl (Or.inl rfl) pe_int ip_add))))))))
  (pss_one (ps_ret (pe_fn F_form_of (hr.mono (by omega)) (pa_cons (pv 3) pa_nil)))))))), ?_⟩
    obtain ⟨a, ws, row, i, rfl, ha, ⟨wn, wl, wk⟩, hi, q⟩ := h
    refine ⟨_, rfl, _, rfl, _, rfl, _, rfl, _, _, rfl, rfl, _, rfl, a, _, rfl, sl_of ha, fun p1 hp1 => ?_⟩
    rw [show ((i : Int) + 1) = ((i + 1 : Nat) : Int) by omega, cut_one ws hi]
    have g1 := Gr.new (o := .lst (((ws.drop i).take 1).map V.str)) hp1
    refine ⟨by show 1 ≤ sizeLine; decide, fun p2 hp2 => ?_⟩
    have g2 := Gr.new (o := .lst [.str "0"]) hp2
    have gA := g1.trans g2
    have aA := gA _ _ ha
    have dA : Dp K (upd (upd H p1 (.lst (((ws.drop i).take 1).map V.str))) p2 (.lst [.str "0"])) (.ref p1) (.list (((ws.drop i).take 1).map PyData.str)) := .lst (sl_of (g2 _ _ upd_same)) (DpAll.strs _)
    have dB : Dp K (upd (upd H p1 (.lst (((ws.drop i).take 1).map V.str))) p2 (.lst [.str "0"])) (.ref p2) (.list ([("0" : Str)].map PyData.str)) := .lst (sl_of upd_same) (DpAll.strs [("0" : Str)])
    generalize upd (upd H p1 (.lst (((ws.drop i).take 1).map V.str))) p2 (.lst [.str "0"]) = HA at gA aA dA dB
    refine ⟨_, _, dA, dB, shaped_strs fun y hy => (wk y (List.mem_of_mem_drop (List.mem_of_mem_take hy))).1, shaped_strs (l := [("0" : Str)]) fun y hy => by
      rw [List.mem_singleton.mp hy]
      exact (show ∀ c ∈ tl ("0" : Str), c < 128 by decide +kernel), _, rfl, ?_⟩
    rw [eqv_strs]
    refine ite2 (fun c0 => ?_) (fun c0 => ?_)
    · have c' := dT c0
      have l1 : i + 1 ≤ ws.length := by
        have := congrArg List.length c'
        rw [List.length_take, List.length_drop] at this
        simp at this
        omega
      refine ⟨_, rfl, a, _, rfl, .inl (sl_of aA), _, rfl, _, _, rfl, rfl, _, _, rfl, rfl, _, rfl, ?_⟩
      rw [List.length_map]
      refine ite2 (fun c2 => ?_) (fun c2 => ?_)
      · have e : formR ws i = .error (i + 2) := by
          unfold formR formW
          rw [if_pos c', if_neg (by have := dT c2; omega)]
        rw [e] at q
        refine ⟨_, rfl, _, rfl, _, _, rfl, rfl, mk_bad fun dx H2 g hx => q dx H2 (gA.trans g) ?_⟩
        rw [hx, show ((i : Int) + 2) = ((i + 2 : Nat) : Int) by omega]
      · have e : formR ws i = .ok (formD []) := by
          unfold formR formW
          rw [if_pos c', if_pos (by have := dF c2; omega)]
        rw [e] at q
        refine ⟨by show 0 ≤ sizeLine; decide, fun p3 hp3 => ?_⟩
        exact q _ _ (gA.trans (Gr.new hp3)) (.tup (st_of upd_same) .nil)
    have c1 : ¬ (ws.drop i).take 1 = [("0" : Str)] := dF c0
    have qA : match formR ws i with
      | .ok x => ∀ v H', Gr HA H' → Dp K H' v x → Q v H'
      | .error e => ExW K E (Gr HA) row e := by
      cases hq : formR ws i with
      | ok x => rw [hq] at q; exact fun v H' g d => q v H' (gA.trans g) d
      | error e => rw [hq] at q; exact fun d H' g h => q d H' (gA.trans g) h
    clear q dA dB g1 g2 gA ha hp1 hp2
    have ha := aA
    have q := qA
    clear aA qA
    generalize HA = H at ha q ⊢
    intro d hd0
    have g0 : Gr H (upd H d (kdO P w eK d [])) := Gr.new hd0
    refine while_m (fun m σ Hh => Gr H Hh ∧ ∃ (ts : List (Kd × Int × Int)) (at_ : Nat) (z : Option V), σ = [some (.ref a), some (.int row), some (.int at_), some (.ref d), some (.int ts.length), z] ∧ DN P w K eK shareD Hh d (ts.foldl addQ []) ∧
      terms pairU (ws.drop i) i = pre ts (atQ ws ts at_) ∧ at_ ≤ ws.length ∧ ts.length ≤ at_ ∧ FormFull ts.length (ts.foldl addQ []) ∧ m = ws.length + 1 - at_) (ws.length + 1 - i) ?_ (fun m σ Hh pv C h1 h2 => ?_)
    · exact ⟨g0, [], i, none, rfl, DN.new upd_same, by rw [pre_nil] <;> rfl, hi, Nat.zero_le _, ⟨⟨Nat.le_refl _, List.nodup_nil, fun x hx => by cases hx⟩, fun x hx => by cases hx⟩, rfl⟩
    · obtain ⟨gh, ts, at_, z, rfl, dh, ht, hat, hlen, hsm, rfl⟩ := pv
      have ah := gh _ _ ha
      refine ⟨fun b H' => H' = Hh ∧ b = (decide (ts = []) || decide (at_ < ws.length)), ?_, fun b H' hb => ?_⟩
      · refine ⟨_, rfl, rfl, _, rfl, ite2 (fun c => ?_) (fun c => ?_)⟩
        · have : ts = [] := List.eq_nil_of_length_eq_zero (by have := V.int.inj (dT c); omega)
          exact ⟨rfl, by rw [decide_eq_true this] <;> rfl⟩
        · have : ¬ ts = [] := fun e => dF c (by rw [e] <;> rfl)
          refine ⟨_, rfl, _, rfl, a, _, rfl, .inl (sl_of ah), _, _, rfl, rfl, _, rfl, rfl, ?_⟩
          rw [decide_eq_false this, Bool.false_or, List.length_map]
          exact decide_eq_decide.mpr (by omega)
      · obtain ⟨eH, rfl⟩ := hb
        rw [eH]
        have qE : ∀ e, formR ws i = .error e → ExW K E (Gr H) row e := fun e h => by rw [h] at q; exact q
        have eE : ∀ e, terms pairU (ws.drop i) i = .error e → formR ws i = .error e := fun e h => by
          unfold formR formW
          rw [if_neg c1, h]
        refine wayB (fun c => h1 _ ?_) (fun c => h2 _ ?_)
        · refine ⟨fun σ' H' => H' = Hh ∧ ∃ at1 : Nat, σ' = [some (.ref a), some (.int row), some (.int at1), some (.ref d), some (.int ts.length), z] ∧ terms pairU (ws.drop i) i = pre ts (terms pairU (ws.drop at1) at1) ∧ at_ ≤ at1 ∧ at1 ≤ ws.length, ?_, fun σ' H' hv => ?_⟩
          · refine ⟨_, rfl, _, _, rfl, rfl, _, rfl, ite2 (fun c2 => ?_) (fun c2 => ?_)⟩
            · have hne : ts ≠ [] := fun e => by
                have := dT c2
                rw [e] at this
                exact absurd this (by decide)
              have hlt : at_ < ws.length := by
                rw [decide_eq_false hne, Bool.false_or] at c
                exact of_decide_eq_true c
              have hdr : ws.drop at_ = ws[at_] :: ws.drop (at_ + 1) := List.drop_eq_getElem_cons hlt
              have hat2 : atQ ws ts at_ = termsB pairU (ws.drop at_) at_ := by unfold atQ; rw [if_neg hne]
              rw [hat2, hdr] at ht
              refine ⟨fun b H' => H' = Hh ∧ b = !decide (ws[at_] = ("+" : Str)), ?_, fun b H' hb => ?_⟩
              · refine ⟨_, rfl, _, rfl, a, _, _, _, rfl, rfl, sl_of ah, at_str hlt, rfl, _, rfl, ?_⟩
                show if (!decide (V.str ws[at_] = V.str "+")) = true then _ else _
                rw [decS]
                refine ite2 (fun c3 => ⟨rfl, c3.symm⟩) (fun c3 => ?_)
                refine ⟨_, rfl, rfl, _, rfl, rfl, ?_⟩
                rw [c3, dec_V]
                exact decide_eq_false (by omega)
              · obtain ⟨eH2, rfl⟩ := hb
                rw [eH2]
                refine ite2 (fun c3 => ?_) (fun c3 => ?_)
                · refine ⟨_, rfl, _, rfl, _, _, rfl, rfl, mk_bad fun dx H2 g hx => ?_⟩
                  refine qE (at_ + 1) (eE _ ?_) dx H2 (gh.trans g) hx
                  rw [ht]
                  unfold termsB
                  dsimp only
                  rw [if_neg (nT c3)] <;> rfl
                · refine ⟨_, rfl, _, _, rfl, rfl, rfl, at_ + 1, rfl, ?_, Nat.le_succ _, hlt⟩
                  rw [ht]
                  unfold termsB
                  dsimp only
                  rw [if_pos (nF c3)] <;> rfl
            · have hne : ts = [] := List.eq_nil_of_length_eq_zero (by have := dF c2; omega)
              refine ⟨rfl, at_, rfl, ?_, Nat.le_refl _, hat⟩
              rw [ht]
              unfold atQ
              rw [if_pos hne]
          · obtain ⟨eH3, at1, rfl, ht1, hle, hat1⟩ := hv
            rw [eH3]
            refine ⟨fun v H' => Gr Hh H' ∧ OptF K H' ((if h : at1 < ws.length then pairU ws[at1] else none).map lowF) v, ?_, fun v H1 hv => ?_⟩
            · refine ⟨_, rfl, _, rfl, a, _, rfl, .inl (sl_of ah), _, _, rfl, rfl, _, rfl, ?_⟩
              rw [List.length_map]
              refine ite2 (fun c2 => ?_) (fun c2 => ?_)
              · have hlt : at1 < ws.length := by have := dT c2; omega
                have sz := (wk _ (List.getElem_mem hlt)).2
                refine ⟨_, rfl, _, rfl, a, _, _, _, rfl, rfl, sl_of ah, at_str hlt, ws[at1], rfl, by omega, fun v H' g o => ⟨g, ?_⟩⟩
                rw [dif_pos hlt]
                exact o
              · have hlt : ¬ at1 < ws.length := by have := dF c2; omega
                refine ⟨Gr.rfl' _, ?_⟩
                rw [dif_neg hlt]
                exact rfl
            · obtain ⟨g1, o1⟩ := hv
              have eN : (if h : at1 < ws.length then pairU ws[at1] else none) = none → terms pairU (ws.drop at1) at1 = .error (at1 + 1) := fun e => by
                by_cases hlt : at1 < ws.length
                · rw [dif_pos hlt] at e
                  rw [List.drop_eq_getElem_cons hlt, terms_none e]
                · rw [List.drop_eq_nil_of_le (by omega)] <;> rfl
              refine ⟨_, rfl, rfl, _, rfl, ite2 (fun c2 => ?_) (fun c2 => ?_)⟩
              · have ev := dT c2
                have e0 : (if h : at1 < ws.length then pairU ws[at1] else none) = none := by
                  cases hq : (if h : at1 < ws.length then pairU ws[at1] else none) with
                  | none => rfl
                  | some t =>
                    rw [hq] at o1
                    obtain ⟨p, x, m, rfl, _⟩ := dp_two o1
                    cases ev
                refine ⟨_, rfl, _, rfl, _, _, rfl, rfl, mk_bad fun dx H2 g hx => ?_⟩
                refine qE (at1 + 1) (eE _ ?_) dx H2 (gh.trans (g1.trans g)) hx
                rw [ht1, eN e0] <;> rfl
              · have ev : v ≠ .non := dF c2
                have hlt : at1 < ws.length := by
                  by_cases h : at1 < ws.length
                  · exact h
                  · rw [dif_neg h] at o1
                    exact absurd o1 ev
                rw [dif_pos hlt] at o1
                cases hq : pairU ws[at1] with
                | none => rw [hq] at o1; exact absurd o1 ev
                | some t =>
                  rw [hq] at o1
                  obtain ⟨p, x, y, rfl, sp, dx, dy⟩ := dp_two o1
                  obtain ⟨ka, _, rfl, _, _⟩ := dp_tuple dx
                  obtain ⟨sa, rfl, ss⟩ := dp_share dy
                  have st := pairU_lt hq
                  have lo := fr_le (a := t.2.1) st.1
                  have l20 : ts.length ≤ 20 := by omega
                  have at1' : atI [V.ref ka, V.ref sa] 1 = some (.ref sa) := atI_nat (j := 1) rfl
                  have hend : terms pairU (ws.drop i) i = pre (ts ++ [t]) (atQ ws (ts ++ [t]) (at1 + 1)) := by
                    rw [ht1, List.drop_eq_getElem_cons hlt, terms_some hq, pre_pre]
                    unfold atQ
                    rw [if_neg (by simp)]
                  have ln2 : (ts ++ [t]).length = ts.length + 1 := by rw [List.length_append, List.length_singleton]
                  have sm2 : FormFull (ts ++ [t]).length ((ts ++ [t]).foldl addQ []) := by
                    rw [ln2, List.foldl_append]
                    exact hsm.add st (pairU_kind hq)
                  refine ⟨_, rfl, _, rfl, p, _, 0, _, rfl, rfl, sp, at0, _, rfl, p, _, 1, _, rfl, rfl, sp, at1', d, ka, sa, ts.foldl addQ [], lowF t, ts.length, rfl, dh.gr g1, hsm.1, l20, dx, dy, ⟨fr_pos st.1, Nat.lt_of_le_of_lt lo.1 st.2.1, Nat.lt_of_le_of_lt lo.2 st.2.2⟩, fun H2 g2 dh2 => ?_⟩
                  rw [addQ_low hsm.1 st.1] at dh2
                  refine ⟨_, rfl, _, _, rfl, rfl, _, rfl, _, _, rfl, rfl, ws.length + 1 - (at1 + 1), by omega, GrBut.gr g2 (gh.trans g1) hd0, ts ++ [t], at1 + 1, _, by rw [ln2] <;> rfl, ?_, hend, hlt, by omega, sm2, rfl⟩
                  rw [List.foldl_append]
                  exact dh2
        · rw [Bool.or_eq_false_iff] at c
          have hne := of_decide_eq_false c.1
          have hge := of_decide_eq_false c.2
          have e1 : terms pairU (ws.drop i) i = .ok ts := by
            rw [ht]
            unfold atQ
            rw [if_neg hne, List.drop_eq_nil_of_le (by omega)]
            show Except.ok (ts ++ []) = _
            rw [List.append_nil]
          have e2 : formR ws i = .ok (formD (formOf (ts.foldl addQ []))) := by
            unfold formR formW
            rw [if_neg c1, e1]
          rw [e2] at q
          refine ⟨_, rfl, d, ts.foldl addQ [], rfl, dh, hsm.mono (by omega), fun p H' g dp => q _ _ (gh.trans g) dp⟩
end
end K86
set_option Elab.async false
set_option linter.all false
set_option maxRecDepth 100000
set_option maxHeartbeats 4000000
/-! the program's reader of rows: need, need_alone, take -/
namespace K86
open PySem PySem.Spec PyProof.Rows L2
section
variable {P : Program} {w : World} {K : PySem.W.Frag} {mg : Str → Option Value} {base : Heap}
def lnF (r i m : V) : List (Str × V) := [("texts", r), ("at", i), ("together", m)]
/-- a reader of rows: its rows, how many were read, how many rows of programs -/
abbrev LO (K : PySem.W.Frag) (dx r : Addr) (i m : Nat) : HO := .ins (He.ga K "Lines") dx (lnF (.ref r) (.int i) (.int m))
theorem n1 : (("at" : Str) == ("texts" : Str)) = false := by decide +kernel
theorem n2 : (("together" : Str) == ("texts" : Str)) = false := by decide +kernel
theorem n3 : (("together" : Str) == ("at" : Str)) = false := by decide +kernel
theorem n4 : (("texts" : Str) = ("at" : Str)) = False := eq_false (by decide +kernel)
theorem n5 : (("texts" : Str) = ("together" : Str)) = False := eq_false (by decide +kernel)
theorem n6 : (("at" : Str) = ("together" : Str)) = False := eq_false (by decide +kernel)
theorem ln_texts (r i m : V) : (lnF r i m).lookup ("texts" : Str) = some r := by
  unfold lnF
  rw [List.lookup_cons, beq_self_eq_true]
theorem ln_at (r i m : V) : (lnF r i m).lookup ("at" : Str) = some i := by
  unfold lnF
  rw [List.lookup_cons, n1, List.lookup_cons, beq_self_eq_true]
theorem ln_tog (r i m : V) : (lnF r i m).lookup ("together" : Str) = some m := by
  unfold lnF
  rw [List.lookup_cons, n2, List.lookup_cons, n3, List.lookup_cons, beq_self_eq_true]
theorem ln_putA (r i m y : V) : putF "at" y (lnF r i m) = lnF r y m := by
  unfold lnF
  simp only [putF, n4, if_false, if_true]
theorem ln_putT (r i m y : V) : putF "together" y (lnF r i m) = lnF r i y := by
  unfold lnF
  simp only [putF, n5, n6, if_false, if_true]
theorem ln_len (r i m : V) : (lnF r i m).length < 1000 := by
  show 3 < 1000
  decide
theorem ln_none {x : Str} (h1 : (x == ("texts" : Str)) = false) (h2 : (x == ("at" : Str)) = false) (h3 : (x == ("together" : Str)) = false) (r i m : V) : (lnF r i m).lookup x = none := by
  unfold lnF
  rw [List.lookup_cons, h1, List.lookup_cons, h2, List.lookup_cons, h3] <;> rfl
/-! ### words_of, its list new -/
def sp_words2 : Sp := fun vs H Q _ => ∃ z : Str, vs = [.str z] ∧ z.length + 2 ≤ sizeLine ∧ (Str.empty ∈ splitB z → ∀ H', Gr H H' → Q .non H') ∧
  (Str.empty ∉ splitB z → ∀ p H', Gr H H' → H p = none → H' p = some (.lst ((splitB z).map V.str)) → Q (.ref p) H')
theorem ok_words2 (T : Tx K mg) : Fn P w K mg base CX0 1 "words_of" ["row"] sp_words2 := by
  refine Fn.of T.f_words_of sc_words_of (fun _ _ _ _ _ _ us hl => match us, hl with | [_], _ => rfl) (fun vs H Q E h => ?_) (fun f cdv A outer s H vs Q E hr h => ⟨_, PSs.nox (pss_cons (ps_if (pt_not (pt_val (pe_callB call_isi (by rfl) T.b_isinstance (by decide +kernel) (pa_cons (pv 0) (pa_cons (pe_bltn (by rfl) T.b_str (v := .ty "str") (u := .type "str") (by decide +kernel) (by rfl)) pa_nil))))) (pss_one (ps_ret pe_non)) pss_nil)
  (pss_cons (ps_set (i := 1) sc_words_of.nd rfl (Or.inl rfl) (pe_split (pv 0) pe_str))
  (pss_cons (ps_if (pt_cmpR op_in_seq pe_str (pv 1) (by rfl)) (pss_one (ps_ret pe_non)) pss_nil)
  (pss_one (ps_ret (pv 1)))))), ?_⟩)
  · obtain ⟨z, rfl, _⟩ := h
    rfl
  · obtain ⟨z, rfl, hz, q1, q2⟩ := h
    refine ⟨_, rfl, _, _, .type "str", .type "str", true, rfl, .ty "str", .base (.str z), kit_str, true, rfl, ?_⟩
    refine iteF rfl ?_
    refine ⟨_, rfl, ⟨z, rfl⟩, z, _, rfl, rfl, rfl, hz, fun p hp => ?_⟩
    have e : Txt.split z " " = splitB z := rfl
    rw [e]
    refine ⟨_, rfl, p, _, rfl, .inl (sl_of upd_same), rfl, flat_strs _, _, rfl, ?_⟩
    rw [show (V.str "" : V) = V.str Str.empty from rfl, in_strs]
    refine ite2 (fun c => ?_) (fun c => ?_)
    · exact q1 (dT c) _ (Gr.new hp)
    · exact ⟨_, rfl, q2 (dF c) p _ (Gr.new hp) hp upd_same⟩
/-! ### need -/
def sp_need (K : PySem.W.Frag) : Sp := fun vs H Q E => ∃ (a dx r : Addr) (i m wd : Nat) (b : Bool), vs = [.ref a, .bl b, .int wd] ∧ H a = some (LO K dx r i m) ∧ (b = true → Q .non H) ∧ (b = false → ExW K E (Gr H) i wd)
theorem sc_Lines_need : FnScope ["self", "good", "word"] ["self", "good", "word"] (defScope s_Lines_need) := ⟨rfl, rfl, rfl, by decide +kernel, rfl, by decide +kernel, by decide +kernel⟩
theorem ok_need (T : Tx K mg) (M_bad : Fm P w K mg base CX0 1 (He.ma K (He.ga K "BadRow") "__init__") ["self", "row", "word"] (sp_bad_init K)) : Fm P w K mg base (L2.CX P w) 3 (He.ma K (He.ga K "Lines") "need") ["self", "good", "word"] (sp_need K) := by
  refine Fm.of T.f_Lines_need sc_Lines_need (fun _ _ _ _ _ _ us hl => match us, hl with | [_, _, _], _ => rfl) (fun vs H Q E h => ?_) (fun cdv A outer s H vs Q E hr h => ?_)
  · obtain ⟨a, dx, r, i, m, wd, b, rfl, _⟩ := h
    rfl
  · have tk : Takes (cxOf (L2.CX P w) P w K mg base ["self", "good", "word"] "Lines.need" (defScope s_Lines_need) (He.ma K (He.ga K "Lines") "need") cdv A outer s H E) (fun cls d _ H => E cls d H) := takes_of rfl rfl rfl rfl
    refine ⟨_, (pss_one (ps_if (pt_not (pt_val (pv 1))) (pss_one (ps_bad T M_bad (hr.mono (by omega)) rfl tk (pa_cons (pe_fld (pv 0) rfl) (pa_cons (pv 2) pa_nil)))) pss_nil)), ?_⟩
    obtain ⟨a, dx, r, i, m, wd, b, rfl, ha, q1, q2⟩ := h
    cases b with
    | true => exact ⟨_, rfl, true, rfl, iteF rfl (q1 rfl)⟩
    | false =>
      refine ⟨_, rfl, false, rfl, iteT rfl ?_⟩
      exact ⟨_, rfl, a, _, dx, _, _, rfl, ha, T.cLines, T.n_at, ln_at _ _ _, _, rfl, mk_bad fun d H2 g hx => q2 rfl d H2 g hx⟩
def sp_need_alone (K : PySem.W.Frag) : Sp := fun vs H Q E => ∃ (a dx r p : Addr) (i m : Nat) (ws : List Str), vs = [.ref a, .ref p] ∧ H a = some (LO K dx r i m) ∧ H p = some (.lst (ws.map V.str)) ∧ (ws.length = 1 → Q .non H) ∧ (ws.length ≠ 1 → ExW K E (Gr H) i 2)
theorem sc_Lines_need_alone : FnScope ["self", "words"] ["self", "words"] (defScope s_Lines_need_alone) := ⟨rfl, rfl, rfl, by decide +kernel, rfl, by decide +kernel, by decide +kernel⟩
theorem ok_need_alone (T : Tx K mg) (M_need : Fm P w K mg base (L2.CX P w) 3 (He.ma K (He.ga K "Lines") "need") ["self", "good", "word"] (sp_need K)) : Fm P w K mg base (L2.CX P w) 4 (He.ma K (He.ga K "Lines") "need_alone") ["self", "words"] (sp_need_alone K) := by
  refine Fm.of T.f_Lines_need_alone sc_Lines_need_alone (fun _ _ _ _ _ _ us hl => match us, hl with | [_, _], _ => rfl) (fun vs H Q E h => ?_) (fun cdv A outer s H vs Q E hr h => ?_)
  · obtain ⟨a, dx, r, p, i, m, ws, rfl, _⟩ := h
    rfl
  · have tk : Takes (cxOf (L2.CX P w) P w K mg base ["self", "words"] "Lines.need_alone" (defScope s_Lines_need_alone) (He.ma K (He.ga K "Lines") "need_alone") cdv A outer s H E) (fun cls d _ H => E cls d H) := takes_of rfl rfl rfl rfl
    refine ⟨_, (pss_one (ps_expr (pe_mt M_need (hr.mono (by omega)) T.cLines T.m_need tk (pv 0) (pa_cons (pe_cmpR op_eq (pe_callB call_len_seq (by rfl) T.b_len (by decide +kernel) (pa_cons (pv 1) pa_nil)) pe_int (nomark _)) (pa_cons pe_int pa_nil))))), ?_⟩
    obtain ⟨a, dx, r, p, i, m, ws, rfl, ha, hp, q1, q2⟩ := h
    refine ⟨_, rfl, a, dx, _, rfl, ha, ln_none (by decide +kernel) (by decide +kernel) (by decide +kernel) _ _ _, _, rfl, p, _, rfl, .inl (sl_of hp), rfl, a, dx, r, i, m, 2, _, rfl, ha, fun c => ?_, fun c => ?_⟩
    · rw [List.length_map, dec_V] at c
      exact q1 (by have := of_decide_eq_true c; omega)
    · rw [List.length_map, dec_V] at c
      exact q2 (by have := of_decide_eq_false c; omega)
/-! ### take -/
def sp_take (K : PySem.W.Frag) : Sp := fun vs H Q E => ∃ (a dx r : Addr) (i m : Nat) (rows : List Str), vs = [.ref a] ∧ H a = some (LO K dx r i m) ∧ H r = some (.lst (rows.map V.str)) ∧ RowsOk rows ∧
  match nextW rows i with
    | .ok (ws, h) => ∀ t p H', GrBut a H H' → H' a = some (LO K dx r (i + 1) m) → H' p = some (.lst (ws.map V.str)) → H p = none → SqT K H' t [.ref p, .str h] → WsOk ws → Q (.ref t) H'
    | .error e => ExW K E (GrBut a H) (i + 1) e
theorem sc_Lines_take : FnScope ["self", "words"] ["self"] (defScope s_Lines_take) := ⟨rfl, rfl, rfl, by decide +kernel, rfl, by decide +kernel, by decide +kernel⟩
theorem ok_take (T : Tx K mg) (F_words_of : Fn P w K mg base CX0 1 "words_of" ["row"] sp_words2) (F_is_name : Fn P w K mg base CX0 1 "is_name" ["thing"] sp_is_name)
    (M_need : Fm P w K mg base (L2.CX P w) 3 (He.ma K (He.ga K "Lines") "need") ["self", "good", "word"] (sp_need K)) : Fm P w K mg base (L2.CX P w) 4 (He.ma K (He.ga K "Lines") "take") ["self"] (sp_take K) := by
  refine Fm.of T.f_Lines_take sc_Lines_take (fun _ _ _ _ _ _ us hl => match us, hl with | [_], _ => rfl) (fun vs H Q E h => ?_) (fun cdv A outer s H vs Q E hr h => ?_)
  · obtain ⟨a, dx, r, i, m, rows, rfl, _⟩ := h
    rfl
  · have tk : Takes (cxOf (L2.CX P w) P w K mg base ["self", "words"] "Lines.take" (defScope s_Lines_take) (He.ma K (He.ga K "Lines") "take") cdv A outer s H E) (fun cls d _ H => E cls d H) := takes_of rfl rfl rfl rfl
    refine ⟨_, (pss_cons (ps_fldaug (pv 0) pe_int in_add)
  (pss_cons (ps_expr (pe_mt M_need (hr.mono (by omega)) T.cLines T.m_need tk (pv 0) (pa_cons (pe_cmpR op_le (pe_fld (pv 0) rfl) (pe_callB call_len_seq (by rfl) T.b_len (by decide +kernel) (pa_cons (pe_fld (pv 0) rfl) pa_nil)) (nomark _)) (pa_cons pe_int pa_nil))))
  (pss_cons (ps_set (i := 1) sc_Lines_take.nd rfl (Or.inl rfl) (pe_fn F_words_of (hr.mono (by omega)) (pa_cons (pe_ix ix_list (pe_fld (pv 0) rfl) (pe_op op_sub (pe_fld (pv 0) rfl) pe_int) (fun _ _ => rfl)) pa_nil)))
  (pss_cons (ps_expr (pe_mt M_need (hr.mono (by omega)) T.cLines T.m_need tk (pv 0) (pa_cons (pe_cmpR op_notN (pv 1) pe_non (nomark _)) (pa_cons pe_int pa_nil))))
  (pss_cons (ps_if (pt_cmpR (op_eqD hr.units) (pe_slice sl_list (pv 1) (po_some pe_int) (po_some pe_int)) (pe_lst (pa_cons pe_str pa_nil)) (nomark _)) (pss_cons (ps_expr (pe_mt M_need (hr.mono (by omega)) T.cLines T.m_need tk (pv 0) (pa_cons (pe_fn F_is_name (hr.mono (by omega)) (pa_cons (pe_ix ix_list (pv 1) pe_int (fun _ _ => rfl)) pa_nil)) (pa_cons pe_int pa_nil))))
  (pss_one (ps_ret (pe_tup (pa_cons (pv 1) (pa_cons pe_str pa_nil)))))) pss_nil)
  (pss_cons (ps_expr (pe_mt M_need (hr.mono (by omega)) T.cLines T.m_need tk (pv 0) (pa_cons (pe_cmpR op_in_seq (pe_ix ix_list (pv 1) pe_int (fun _ _ => rfl)) (pe_gv T.g_HEADS) (by rfl)) (pa_cons (pe_cut (pe_ifExp (pt_val (pe_fn F_is_name (hr.mono (by omega)) (pa_cons (pe_ix ix_list (pv 1) pe_int (fun _ _ => rfl)) pa_nil))) pe_int pe_int)) pa_nil))))
  (pss_one (ps_ret (pe_tup (pa_cons (pv 1) (pa_cons (pe_ix ix_list (pv 1) pe_int (fun _ _ => rfl)) pa_nil))))))))))), ?_⟩
    obtain ⟨a, dx, r, i, m, rows, rfl, ha, hr2, hok, q⟩ := h
    have rna : r ≠ a := ne_kind hr2 ha (fun e => by cases e)
    have lnn := ln_none (x := "need") (by decide +kernel) (by decide +kernel) (by decide +kernel)
    refine ⟨_, rfl, a, _, dx, _, _, rfl, ha, T.cLines, T.n_at, ln_at _ _ _, _, _, rfl, rfl, dx, _, ha, ln_len _ _ _, ?_⟩
    rw [ln_putA]
    have h1a : (upd H a (.ins (He.ga K "Lines") dx (lnF (.ref r) (.int ((i : Int) + 1)) (.int m)))) a = some (LO K dx r (i + 1) m) := upd_same
    have g1 : GrBut a H (upd H a (.ins (He.ga K "Lines") dx (lnF (.ref r) (.int ((i : Int) + 1)) (.int m)))) := GrBut.put
    generalize upd H a (.ins (He.ga K "Lines") dx (lnF (.ref r) (.int ((i : Int) + 1)) (.int m))) = H1 at h1a g1
    have h1r := g1 _ _ hr2 rna
    refine ⟨_, rfl, a, dx, _, rfl, h1a, lnn _ _ _, ?_⟩
    have qE : ∀ e, nextW rows i = .error e → ∀ H2, GrBut a H H2 → ExW K E (Gr H2) (i + 1) e := fun e h H2 g => by
      rw [h] at q
      exact fun d H' g' hx => q d H' (g.trans g'.but) hx
    refine ⟨_, rfl, a, _, dx, _, _, rfl, h1a, T.cLines, T.n_at, ln_at _ _ _, _, rfl, a, _, dx, _, _, rfl, h1a, T.cLines, T.n_texts, ln_texts _ _ _, r, _, rfl, .inl (sl_of h1r), _, _, rfl, rfl, a, dx, r, i + 1, m, 1, _, rfl, h1a, fun c => ?_, fun c => ?_⟩
    rotate_left
    · rw [List.length_map] at c
      refine qE 1 ?_ _ g1
      unfold nextW
      rw [List.getElem?_eq_none (by have := of_decide_eq_false c; omega)]
    rw [List.length_map] at c
    have hi : i < rows.length := by have := of_decide_eq_true c; omega
    have hz : rows[i]? = some rows[i] := List.getElem?_eq_getElem hi
    have tz := hok.2 _ (List.getElem_mem hi)
    have sz : 200000 + 4 ≤ sizeLine := by decide
    have hzl := tz.l
    have at_ : atI (rows.map V.str) (((i + 1 : Nat) : Int) - 1) = some (.str rows[i]) := by
      rw [show (((i + 1 : Nat) : Int) - 1) = (i : Int) by omega]
      exact at_str hi
    refine ⟨_, rfl, a, _, dx, _, _, rfl, h1a, T.cLines, T.n_texts, ln_texts _ _ _, _, rfl, a, _, dx, _, _, rfl, h1a, T.cLines, T.n_at, ln_at _ _ _, _, _, rfl, rfl, r, _, _, _, rfl, rfl, sl_of h1r, at_, rows[i], rfl, by omega, fun hin H2 g2 => ?_, fun hin p H2 g2 hpn hp => ?_⟩
    · refine ⟨_, rfl, a, dx, _, rfl, g2 _ _ h1a, lnn _ _ _, _, rfl, rfl, a, dx, r, i + 1, m, 0, false, rfl, g2 _ _ h1a, (fun c => by cases c), fun _ => ?_⟩
      refine qE 0 ?_ _ (g1.trans g2.but)
      unfold nextW
      rw [hz]
      dsimp only
      rw [if_pos hin]
    · have h2a := g2 _ _ h1a
      have gH2 : GrBut a H H2 := g1.trans g2.but
      have hpH : H p = none := by
        cases e : H p with
        | none => rfl
        | some o =>
          have := g1 _ _ e (fun e2 => by rw [e2, h1a] at hpn; cases hpn)
          rw [this] at hpn
          cases hpn
      have wok : WsOk (splitB rows[i]) := by
        refine ⟨splitB_ne _, ?_, fun y hy => ?_⟩
        · rw [splitB_len]
          have := tz.k
          omega
        · have := splitB_wd tz hy
          have l := this.l
          exact ⟨this.a, by omega⟩
      have eqn : nextW rows i = if ((splitB rows[i]).drop 1).take 1 = [("=" : Str)] then (if isN ((splitB rows[i]).headD Str.empty) = true then .ok (splitB rows[i], Str.empty) else .error 1)
          else if (splitB rows[i]).headD Str.empty ∈ headsW then .ok (splitB rows[i], (splitB rows[i]).headD Str.empty)
          else .error (if isN ((splitB rows[i]).headD Str.empty) = true then 2 else 1) := by
        unfold nextW
        rw [hz]
        dsimp only
        rw [if_neg hin]
      generalize splitB rows[i] = ws at hp wok eqn
      obtain ⟨w0, wr, ew⟩ : ∃ x y, ws = x :: y := by
        cases hw : ws with
        | nil => exact absurd hw wok.1
        | cons x y => exact ⟨x, y, rfl⟩
      have e0 : ws.headD Str.empty = w0 := by rw [ew] <;> rfl
      rw [e0] at eqn
      have w0ok := wok.2.2 w0 (by rw [ew]; exact List.mem_cons_self)
      have l1 : 1 ≤ ws.length := by rw [ew]; simp
      refine ⟨_, rfl, a, dx, _, rfl, h2a, lnn _ _ _, _, rfl, rfl, a, dx, r, i + 1, m, 0, true, rfl, h2a, fun _ => ?_, (fun c => by cases c)⟩
      refine ⟨_, rfl, _, rfl, _, rfl, p, _, rfl, sl_of hp, fun p1 hp1 => ?_⟩
      have ec : cutV (ws.map V.str) (some 1) (some 2) = ((ws.drop 1).take 1).map V.str := cut_one ws (k := 1) l1
      rw [ec]
      refine ⟨by show 1 ≤ sizeLine; decide, fun p2 hp2 => ?_⟩
      have gA := (Gr.new (o := .lst (((ws.drop 1).take 1).map V.str)) hp1).trans (Gr.new (o := .lst [.str "="]) hp2)
      have dA : Dp K (upd (upd H2 p1 (.lst (((ws.drop 1).take 1).map V.str))) p2 (.lst [.str "="])) (.ref p1) (.list (((ws.drop 1).take 1).map PyData.str)) := .lst (sl_of ((Gr.new (o := .lst [.str "="]) hp2) _ _ upd_same)) (DpAll.strs _)
      have dB : Dp K (upd (upd H2 p1 (.lst (((ws.drop 1).take 1).map V.str))) p2 (.lst [.str "="])) (.ref p2) (.list ([("=" : Str)].map PyData.str)) := .lst (sl_of upd_same) (DpAll.strs [("=" : Str)])
      generalize upd (upd H2 p1 (.lst (((ws.drop 1).take 1).map V.str))) p2 (.lst [.str "="]) = HA at gA dA dB
      have hAa := gA _ _ h2a
      have hAp := gA _ _ hp
      have gHA : GrBut a H HA := gH2.trans gA.but
      refine ⟨_, _, dA, dB, shaped_strs fun y hy => (wok.2.2 y (List.mem_of_mem_drop (List.mem_of_mem_take hy))).1, shaped_strs (l := [("=" : Str)]) fun y hy => by
        rw [List.mem_singleton.mp hy]
        exact (show ∀ c ∈ tl ("=" : Str), c < 128 by decide +kernel), _, rfl, ?_⟩
      rw [eqv_strs]
      refine ite2 (fun c3 => ?_) (fun c3 => ?_)
      · rw [if_pos (dT c3)] at eqn
        refine ⟨_, rfl, a, dx, _, rfl, hAa, lnn _ _ _, _, rfl, p, _, 0, _, rfl, rfl, sl_of hAp, by rw [ew]; exact at0, w0, rfl, by omega, fun H3 g3 => ⟨a, dx, r, i + 1, m, 1, _, rfl, g3 _ _ hAa, fun c => ?_, fun c => ?_⟩⟩
        · rw [if_pos (show isN w0 = true from c)] at eqn
          rw [eqn] at q
          refine ⟨_, rfl, by show 2 ≤ sizeLine; decide, fun t ht => ?_⟩
          have gt := Gr.new (o := .tup [.ref p, .str ""]) ht
          exact q t p _ ((gHA.trans g3.but).trans gt.but) (gt _ _ (g3 _ _ hAa)) (gt _ _ (g3 _ _ hAp)) hpH (st_of upd_same) wok
        · rw [if_neg (by rw [show isN w0 = false from c]; exact Bool.false_ne_true)] at eqn
          exact qE 1 eqn _ (gHA.trans g3.but)
      · rw [if_neg (dF c3)] at eqn
        refine ⟨_, rfl, a, dx, _, rfl, hAa, lnn _ _ _, _, rfl, p, _, 0, _, rfl, rfl, sl_of hAp, by rw [ew]; exact at0, _, headsW.map V.str, rfl, .inr (T.tupH _), rfl, flat_strs _, ?_⟩
        refine ⟨fun x H' => Gr HA H' ∧ x = .int ((if isN w0 = true then 2 else 1 : Nat) : Nat), ⟨_, rfl, p, _, 0, _, rfl, rfl, sl_of hAp, by rw [ew]; exact at0, w0, rfl, by omega, fun H3 g3 => ⟨_, rfl, ?_⟩⟩, fun x H' hx => ?_⟩
        · show if isN w0 = true then _ else _
          refine ite2 (fun c5 => ?_) (fun c5 => ?_)
          · rw [c5, if_pos rfl]
            exact ⟨g3, rfl⟩
          · rw [c5, if_neg Bool.false_ne_true]
            exact ⟨g3, rfl⟩
        · obtain ⟨g3, rfl⟩ := hx
          have h3a := g3 _ _ hAa
          have h3p := g3 _ _ hAp
          refine ⟨a, dx, r, i + 1, m, _, _, rfl, h3a, fun c => ?_, fun c => ?_⟩
          · have hm : w0 ∈ headsW := by
              have c' : inV (.str w0) (headsW.map V.str) = true := c
              rw [in_strs] at c'
              exact of_decide_eq_true c'
            rw [if_pos hm] at eqn
            rw [eqn] at q
            refine ⟨_, rfl, _, rfl, p, _, 0, _, rfl, rfl, sl_of h3p, by rw [ew]; exact at0, by show 2 ≤ sizeLine; decide, fun t ht => ?_⟩
            have gt := Gr.new (o := .tup [.ref p, .str w0]) ht
            exact q t p _ ((gHA.trans g3.but).trans gt.but) (gt _ _ h3a) (gt _ _ h3p) hpH (st_of upd_same) wok
          · have hm : ¬ w0 ∈ headsW := by
              have c' : inV (.str w0) (headsW.map V.str) = false := c
              rw [in_strs] at c'
              exact of_decide_eq_false c'
            rw [if_neg hm] at eqn
            exact qE _ eqn _ (gHA.trans g3.but)
end
end K86
set_option Elab.async false
set_option linter.all false
set_option maxRecDepth 100000
set_option maxHeartbeats 4000000
/-! pairs, read by the program -/
namespace K86
open PySem PySem.Spec PyProof.Rows L2
section
variable {P : Program} {w : World} {K : PySem.W.Frag} {mg : Str → Option Value} {base : Heap}
theorem ln_meth {x : Str} (h : ((x == ("texts" : Str)) || (x == ("at" : Str)) || (x == ("together" : Str))) = false) (r i m : V) : (lnF r i m).lookup x = none := by
  rw [Bool.or_eq_false_iff, Bool.or_eq_false_iff] at h
  exact ln_none h.1.1 h.1.2 h.2 r i m
def sp_take_pairs (P : Program) (w : World) (mg : Str → Option Value) (base : Heap) (K : PySem.W.Frag) : Sp := fun vs H Q E => ∃ (a dx r : Addr) (i m most : Nat) (rows : List Str) (last : Str) (fv : V) (rd : List Str → Nat → Except Nat PyData), vs = [.ref a, .str last, .int most, fv] ∧
  IsFn P w K mg base (L2.CX P w) 5 ["words", "row", "at"] (sp_told K rd) fv ∧ RdOk rd ∧ most ≤ 100 ∧ H a = some (LO K dx r i m) ∧ H r = some (.lst (rows.map V.str)) ∧ RowsOk rows ∧
  match pairsR rows last most rd (rows.length + 1 - i) [] i with
    | .ok (l, i') => ∀ v H', GrBut a H H' → H' a = some (LO K dx r i' m) → Dp K H' v (pairsD l) → nl (pairsD l) = true → Q v H'
    | .error (ri, e) => ExW K E (GrBut a H) ri e
theorem sc_Lines_take_pairs : FnScope ["self", "last", "most", "told_in", "found", "words", "head"] ["self", "last", "most", "told_in"] (defScope s_Lines_take_pairs) := ⟨rfl, rfl, rfl, by decide +kernel, rfl, by decide +kernel, by decide +kernel⟩
theorem ok_take_pairs (T : Tx K mg) (M_need : Fm P w K mg base (L2.CX P w) 3 (He.ma K (He.ga K "Lines") "need") ["self", "good", "word"] (sp_need K)) (M_need_alone : Fm P w K mg base (L2.CX P w) 4 (He.ma K (He.ga K "Lines") "need_alone") ["self", "words"] (sp_need_alone K))
    (M_take : Fm P w K mg base (L2.CX P w) 4 (He.ma K (He.ga K "Lines") "take") ["self"] (sp_take K)) : Fm P w K mg base (L2.CX P w) 6 (He.ma K (He.ga K "Lines") "take_pairs") ["self", "last", "most", "told_in"] (sp_take_pairs P w mg base K) := by
  refine Fm.of T.f_Lines_take_pairs sc_Lines_take_pairs (fun _ _ _ _ _ _ us hl => match us, hl with | [_, _, _, _], _ => rfl) (fun vs H Q E h => ?_) (fun cdv A outer s H vs Q E hr h => ?_)
  · obtain ⟨a, dx, r, i, m, most, rows, last, fv, rd, rfl, _⟩ := h
    rfl
  · have tk : Takes (cxOf (L2.CX P w) P w K mg base ["self", "last", "most", "told_in", "found", "words", "head"] "Lines.take_pairs" (defScope s_Lines_take_pairs) (He.ma K (He.ga K "Lines") "take_pairs") cdv A outer s H E) (fun cls d _ H => E cls d H) := takes_of rfl rfl rfl rfl
    obtain ⟨a, dx, r, i, m, most, rows, last, fv, rd, rfl, hF, hrd, hmost, ha, hr2, hok, q⟩ := h
    refine ⟨_, (pss_cons (ps_set (i := 4) sc_Lines_take_pairs.nd rfl (Or.inl rfl) (pe_lst pa_nil))
  (pss_cons (ps_asg (pe_mt0 M_take (hr.mono (by omega)) T.cLines T.m_take tk (pv 0)) (pg_tup rfl (pgs_cons (pg_name (i := 5) sc_Lines_take_pairs.nd rfl (Or.inl rfl)) (pgs_cons (pg_name (i := 6) sc_Lines_take_pairs.nd rfl (Or.inl rfl)) pgs_nil))))
  (pss_cons (ps_while (passes_of rfl) (pt_cmpR op_eq (pv 6) pe_str (nomark _)) (pss_cons (ps_expr (pe_mt M_need (hr.mono (by omega)) T.cLines T.m_need tk (pv 0) (pa_cons (pe_cut (pe_and (pe_cmpR op_lt (pe_callB call_len_seq (by rfl) T.b_len (by decide +kernel) (pa_cons (pv 4) pa_nil)) (pv 2) (nomark _)) (pe_one (pe_or (pe_cmpR (op_eqNil hr.units) (pv 4) (pe_lst pa_nil) (nomark _)) (pe_one (pe_cmpR op_lt_str (pe_ix ix_tup (pe_ix ix_list (pv 4) (pe_un un_neg pe_int) (fun _ _ => rfl)) pe_int (fun _ _ => rfl)) (pe_ix ix_list (pv 5) pe_int (fun _ _ => rfl)) (nomark _))))))) (pa_cons pe_int pa_nil))))
  (pss_cons (ps_expr (pe_bm PySem.F.plainAttrs_list PySem.F.slot_list_append PySem.F.type_list_append mt_append (pv 4) (pa_cons (pe_tup (pa_cons (pe_ix ix_list (pv 5) pe_int (fun _ _ => rfl)) (pa_cons (pe_fnLX (k := 5) ["words", "row", "at"] (sp_told K rd) (pv 3) (hr.mono (by omega)) tk (pa_cons (pv 5) (pa_cons (pe_fld (pv 0) rfl) (pa_cons pe_int pa_nil)))) pa_nil))) pa_nil)))
  (pss_one (ps_asg (pe_mt0 M_take (hr.mono (by omega)) T.cLines T.m_take tk (pv 0)) (pg_tup rfl (pgs_cons (pg_name (i := 5) sc_Lines_take_pairs.nd rfl (Or.inl rfl)) (pgs_cons (pg_name (i := 6) sc_Lines_take_pairs.nd rfl (Or.inl rfl)) pgs_nil))))))))
  (pss_cons (ps_expr (pe_mt M_need (hr.mono (by omega)) T.cLines T.m_need tk (pv 0) (pa_cons (pe_cut (pe_and (pe_cmpR op_eq (pv 6) (pv 1) (nomark _)) (pe_one (pe_cmpR (op_neNil hr.units) (pv 4) (pe_lst pa_nil) (nomark _))))) (pa_cons pe_int pa_nil))))
  (pss_cons (ps_expr (pe_mt M_need_alone (hr.mono (by omega)) T.cLines T.m_need_alone tk (pv 0) (pa_cons (pv 5) pa_nil)))
  (pss_one (ps_ret (pe_callTy call_tuple_of (by rfl) T.b_tuple (by decide +kernel) (pa_cons (pv 4) pa_nil))))))))), ?_⟩
    have rna : r ≠ a := ne_kind hr2 ha (fun e => by cases e)
    generalize eR : pairsR rows last most rd (rows.length + 1 - i) [] i = R at q
    have qE : ∀ ri e, R = .error (ri, e) → ∀ H2, GrBut a H H2 → ExW K E (GrBut a H2) ri e := fun ri e h H2 g => by
      rw [h] at q
      exact fun d H' g' hx => q d H' (g.trans g') hx
    refine ⟨by show 0 ≤ sizeLine; decide, fun f hfn => ?_⟩
    have g0 := Gr.new (o := .lst []) hfn
    have hf0 : (upd H f (.lst [])) f = some (.lst []) := upd_same
    have h0a := g0 _ _ ha
    have h0r := g0 _ _ hr2
    generalize upd H f (.lst []) = H0 at g0 hf0 h0a h0r
    have fa : f ≠ a := (ne_of_none ha hfn).symm
    refine ⟨_, rfl, a, dx, _, rfl, h0a, ln_meth (by decide +kernel) _ _ _, a, dx, r, i, m, rows, rfl, h0a, h0r, hok, ?_⟩
    cases hn : nextW rows i with
    | error e => exact qE (i + 1) e (by rw [← eR, pairsR_err hn]) H0 g0.but
    | ok x =>
      obtain ⟨ws, hd⟩ := x
      intro t p H1 g1 h1a hp hpn st wok
      refine ⟨t, _, rfl, st, rfl, _, _, rfl, _, _, rfl, rfl, ?_⟩
      refine while_m (fun n σ Hh => ∃ (p : Addr) (hd : Str) (ws : List Str) (j : Nat) (acc : List (Str × PyData)) (xs : List V), σ = [some (.ref a), some (.str last), some (.int most), some fv, some (.ref f), some (.ref p), some (.str hd)] ∧ GrBut a H Hh ∧ Hh a = some (LO K dx r (j + 1) m) ∧
        Hh p = some (.lst (ws.map V.str)) ∧ WsOk ws ∧ nextW rows j = .ok (ws, hd) ∧ R = pairsR rows last most rd (rows.length + 1 - j) acc j ∧ acc.length ≤ most ∧ Hh f = some (.lst xs) ∧ p ≠ f ∧ DpAll K Hh xs (acc.map prD) ∧ (∀ x ∈ acc, nl x.2 = true) ∧ n = rows.length - j) (rows.length - i) ?_ (fun n σ Hh pv C h1 h2 => ?_)
      · exact ⟨p, hd, ws, i, [], [], rfl, g0.but.trans g1, h1a, hp, wok, hn, eR.symm, Nat.zero_le _, g1 _ _ hf0 fa, (fun e => by rw [e, hf0] at hpn; cases hpn), .nil, (fun x hx => by cases hx), rfl⟩
      · clear hn wok hp h1a st hpn g1
        obtain ⟨p, hd, ws, j, acc, xs, rfl, gh, hha, hp, wok, hn, hR, hl, hf, pf, dx', hnl, rfl⟩ := pv
        have hj := nextW_lt hn
        have lx : xs.length = acc.length := by rw [DpAll.length dx', List.length_map]
        have sz100 : 100 < sizeLine := by decide
        obtain ⟨w0, wr, ew⟩ : ∃ x y, ws = x :: y := by
          cases hw : ws with
          | nil => exact absurd hw wok.1
          | cons x y => exact ⟨x, y, rfl⟩
        have e0 : ws.headD Str.empty = w0 := by rw [ew] <;> rfl
        rw [pairsR_ok hn, e0] at hR
        refine ⟨_, rfl, rfl, _, rfl, ?_⟩
        show C (decide (V.str hd = V.str Str.empty)) Hh
        rw [decS]
        refine wayB (fun c => h1 _ ?_) (fun c => h2 _ ?_)
        · have eh := of_decide_eq_true c
          subst eh
          rw [if_pos rfl] at hR
          refine ⟨_, rfl, a, dx, _, rfl, hha, ln_meth (by decide +kernel) _ _ _, ?_⟩
          refine ⟨fun v H' => Gr Hh H' ∧ v = .bl (decide (acc.length < most) && behind acc w0), ?_, fun v H2 hv => ?_⟩
          · refine ⟨_, rfl, f, xs, rfl, .inl (sl_of hf), _, rfl, _, _, rfl, rfl, _, rfl, ite2 (fun c => ?_) (fun c => ?_)⟩
            · have c1 : acc.length < most := by have := dT c; omega
              rw [decide_eq_true c1, Bool.true_and]
              refine ⟨_, rfl, by show 0 ≤ sizeLine; decide, fun u hu => ?_⟩
              have gu := Gr.new (o := .lst []) hu
              have hf1 := gu _ _ hf
              have hp1 := gu _ _ hp
              have dx1 := DpAll.gr gu _ _ dx'
              have hu1 : (upd Hh u (.lst [])) u = some (.lst []) := upd_same
              generalize upd Hh u (.lst []) = H1 at gu hf1 hp1 dx1 hu1
              refine ⟨f, u, xs, rfl, rfl, sl_of hf1, sl_of hu1, _, rfl, ite2 (fun c2 => ?_) (fun c2 => ?_)⟩
              · refine ⟨gu, ?_⟩
                have : acc = [] := List.eq_nil_of_length_eq_zero (by
                  cases hx : xs with
                  | nil => rw [← lx, hx] <;> rfl
                  | cons a r => rw [hx] at c2; cases c2)
                rw [this] <;> rfl
              · have hne : xs ≠ [] := fun e => by
                  rw [e] at c2
                  cases c2
                obtain ⟨xs', t, k, v, ex, st, hb⟩ := last_pair dx1 hne
                refine ⟨_, rfl, _, rfl, f, xs, _, _, rfl, rfl, sl_of hf1, by rw [ex]; exact atI_last _ _, t, _, 0, _, rfl, rfl, st, at0, _, rfl, p, _, 0, _, rfl, rfl, sl_of hp1, by rw [ew]; exact at0, k, w0, rfl, rfl, gu, ?_⟩
                rw [hb]
            · have c1 : ¬ acc.length < most := by have := dF c; omega
              refine ⟨Gr.rfl' _, ?_⟩
              rw [decide_eq_false c1] <;> rfl
          · obtain ⟨g2, rfl⟩ := hv
            have h2a := g2 _ _ hha
            have h2p := g2 _ _ hp
            have h2f := g2 _ _ hf
            refine ⟨a, dx, r, j + 1, m, 1, _, rfl, h2a, fun c2 => ?_, fun c2 => ?_⟩
            rotate_left
            · rw [if_neg (by rw [c2]; exact Bool.false_ne_true)] at hR
              exact fun d H' g' hx => qE (j + 1) 1 hR H2 (gh.trans g2.but) d H' g'.but hx
            rw [if_pos c2] at hR
            have c1 : acc.length < most := of_decide_eq_true (Bool.and_eq_true_iff.mp c2).1
            refine ⟨_, rfl, .inl ⟨rfl, _, sl_of h2f⟩, _, rfl, p, _, 0, _, rfl, rfl, sl_of h2p, by rw [ew]; exact at0, _, rfl, hF, _, rfl, _, rfl, a, _, dx, _, _, rfl, h2a, T.cLines, T.n_at, ln_at _ _ _, p, ws, j + 1, 2, rfl, h2p, wok, nextW_set hn, ?_⟩
            cases hrr : rd ws 2 with
            | error e =>
              rw [hrr] at hR
              exact fun d H' g' hx => qE (j + 1) e hR H2 (gh.trans g2.but) d H' g'.but hx
            | ok x =>
              rw [hrr] at hR
              dsimp only at hR
              intro v H3 g3 dv
              have h3f := g3 _ _ h2f
              have h3a := g3 _ _ h2a
              have nx := hrd.nl _ _ _ hrr
              refine ⟨by show 2 ≤ sizeLine; decide, fun t ht => ⟨f, xs, .ref t, rfl, rfl, (Gr.new ht) _ _ h3f, by omega, ?_⟩⟩
              have gt := Gr.new (o := .tup [.str w0, v]) ht
              have h4f := gt _ _ h3f
              have h4a := gt _ _ h3a
              have h4t : (upd H3 t (.tup [.str w0, v])) t = some (.tup [.str w0, v]) := upd_same
              have dv4 := Dp.gr gt _ _ dv
              have g04 : Gr Hh (upd H3 t (.tup [.str w0, v])) := (g2.trans g3).trans gt
              generalize upd H3 t (.tup [.str w0, v]) = H4 at gt h4f h4a h4t dv4 g04
              have k45 : Kt H4 (upd H4 f (.lst (xs ++ [.ref t]))) := Kt.put (by rw [h4f]; exact True.intro)
              have h5f : (upd H4 f (.lst (xs ++ [.ref t]))) f = some (.lst (xs ++ [.ref t])) := upd_same
              have h5a : (upd H4 f (.lst (xs ++ [.ref t]))) a = some (LO K dx r (j + 1) m) := by rw [upd_ne fa.symm]; exact h4a
              have g5 : GrBut a H (upd H4 f (.lst (xs ++ [.ref t]))) := (gh.trans g04.but).mut hfn
              have dx5 : DpAll K (upd H4 f (.lst (xs ++ [.ref t]))) (xs ++ [.ref t]) ((acc ++ [(w0, x)]).map prD) := by
                rw [List.map_append]
                exact DpAll.append (DpAll.kt (g04.kt.trans k45) _ _ (nl_pairs hnl) dx') (.cons (.tup (k45.st (st_of h4t)) (.cons (.str _) (.cons (Dp.kt k45 _ _ nx dv4) .nil))) .nil)
              generalize upd H4 f (.lst (xs ++ [.ref t])) = H5 at k45 h5f h5a g5 dx5
              have h5r := g5 _ _ hr2 rna
              refine ⟨_, rfl, a, dx, _, rfl, h5a, ln_meth (by decide +kernel) _ _ _, a, dx, r, j + 1, m, rows, rfl, h5a, h5r, hok, ?_⟩
              cases hn2 : nextW rows (j + 1) with
              | error e => exact qE (j + 1 + 1) e (by rw [hR, pairsR_err hn2]) H5 g5
              | ok y =>
                obtain ⟨ws2, hd2⟩ := y
                intro t2 p2 H6 g6 h6a hp2 hpn2 st2 wok2
                refine ⟨t2, _, rfl, st2, rfl, _, _, rfl, _, _, rfl, rfl, ?_⟩
                have k56 : Kt H5 H6 := g6.kt (by rw [h5a]; exact True.intro)
                refine ⟨rows.length - (j + 1), by omega, p2, hd2, ws2, j + 1, acc ++ [(w0, x)], xs ++ [.ref t], rfl, g5.trans g6, h6a, hp2, wok2, hn2, hR, ?_, g6 _ _ h5f fa, (fun e => by rw [e, h5f] at hpn2; cases hpn2), DpAll.kt k56 _ _ (nl_pairs ?_) dx5, ?_, rfl⟩
                · rw [List.length_append]
                  simp
                  omega
                all_goals
                  intro y hy
                  rcases List.mem_append.mp hy with hy | hy
                  · exact hnl y hy
                  · rw [List.mem_singleton.mp hy]
                    exact nx
        · have hdn : hd ≠ Str.empty := of_decide_eq_false c
          rw [if_neg hdn] at hR
          refine ⟨_, rfl, a, dx, _, rfl, hha, ln_meth (by decide +kernel) _ _ _, ?_⟩
          refine ⟨fun v H' => Gr Hh H' ∧ v = .bl (decide (hd = last) && !xs.isEmpty), ?_, fun v H2 hv => ?_⟩
          · refine ⟨_, rfl, _, rfl, rfl, _, rfl, ite2 (fun c => ?_) (fun c => ?_)⟩
            · rw [decS] at c
              rw [c, Bool.true_and]
              refine ⟨_, rfl, by show 0 ≤ sizeLine; decide, fun u hu => ?_⟩
              have gu := Gr.new (o := .lst []) hu
              exact ⟨f, u, xs, rfl, rfl, sl_of (gu _ _ hf), sl_of upd_same, gu, rfl⟩
            · rw [decS] at c
              refine ⟨Gr.rfl' _, ?_⟩
              rw [c] <;> rfl
          · obtain ⟨g2, rfl⟩ := hv
            have h2a := g2 _ _ hha
            have h2p := g2 _ _ hp
            have h2f := g2 _ _ hf
            have ee : xs.isEmpty = true ↔ acc.length = 0 := by
              rw [List.isEmpty_iff_length_eq_zero, lx]
            refine ⟨a, dx, r, j + 1, m, 1, _, rfl, h2a, fun c2 => ?_, fun c2 => ?_⟩
            rotate_left
            · have hno : ¬ (hd = last ∧ acc.length ≠ 0) := fun z => by
                rw [decide_eq_true z.1, Bool.true_and, Bool.not_eq_false'] at c2
                exact z.2 (ee.mp c2)
              rw [if_neg hno] at hR
              exact fun d H' g' hx => qE (j + 1) 1 hR H2 (gh.trans g2.but) d H' g'.but hx
            have hyes : hd = last ∧ acc.length ≠ 0 := by
              rw [Bool.and_eq_true_iff] at c2
              refine ⟨of_decide_eq_true c2.1, fun z => ?_⟩
              rw [ee.mpr z] at c2
              cases c2.2
            rw [if_pos hyes] at hR
            refine ⟨_, rfl, a, dx, _, rfl, h2a, ln_meth (by decide +kernel) _ _ _, _, rfl, a, dx, r, p, j + 1, m, ws, rfl, h2a, h2p, fun l1 => ?_, fun l1 => ?_⟩
            rotate_left
            · rw [if_neg l1] at hR
              exact fun d H' g' hx => qE (j + 1) 2 hR H2 (gh.trans g2.but) d H' g'.but hx
            rw [if_pos l1] at hR
            rw [hR] at q
            refine ⟨_, rfl, f, xs, rfl, .inl ⟨sl_of h2f, fun l hl => ?_⟩⟩
            have gl := Gr.new (o := .tup xs) hl
            exact q _ _ ((gh.trans g2.but).trans gl.but) (gl _ _ h2a) (.tup (st_of upd_same) (DpAll.gr gl _ _ (DpAll.gr g2 _ _ dx'))) (nl_pairsD hnl)
end
end K86
set_option Elab.async false
set_option linter.all false
set_option maxRecDepth 100000
set_option maxHeartbeats 4000000
/-! the row of a program, read by the program -/
namespace K86
open PySem PySem.Spec PyProof.Rows L2
section
variable {P : Program} {w : World} {K : PySem.W.Frag} {mg : Str → Option Value} {base : Heap}
def sp_take_row (K : PySem.W.Frag) (D0 : Nat) : Sp := fun vs H Q E => ∃ (a dx r p : Addr) (i m D n : Nat) (rows ws : List Str) (h : Str), D ≤ D0 ∧ vs = [.ref a, .ref p, .str h, .int D] ∧ H a = some (LO K dx r i m) ∧ H r = some (.lst (rows.map V.str)) ∧ RowsOk rows ∧
  H p = some (.lst (ws.map V.str)) ∧ WsOk ws ∧ HdOk ws h ∧ 2 * (rows.length - i) + 2 ≤ n ∧
  match rowR rows n ws h D i m with
    | .ok (x, i', m') => ∀ v H', GrBut a H H' → H' a = some (LO K dx r i' m') → Dp K H' v x → nl x = true → Q v H'
    | .error (ri, e) => ExW K E (GrBut a H) ri e
def sp_take_within (K : PySem.W.Frag) (D0 : Nat) : Sp := fun vs H Q E => ∃ (a dx r : Addr) (i m D n : Nat) (rows : List Str), D < D0 ∧ vs = [.ref a, .int D] ∧ H a = some (LO K dx r i m) ∧ H r = some (.lst (rows.map V.str)) ∧ RowsOk rows ∧
  2 * (rows.length - i) + 1 ≤ n ∧
  match withinR rows n D [] i m with
    | .ok (l, i', m') => ∀ v H', GrBut a H H' → H' a = some (LO K dx r i' m') → Dp K H' v (.tuple l) → nlAll l = true → Q v H'
    | .error (ri, e) => ExW K E (GrBut a H) ri e
theorem sc_Lines_take_row : FnScope ["self", "words", "head", "deep", "count", "pairs"] ["self", "words", "head", "deep"] (defScope s_Lines_take_row) := ⟨rfl, rfl, rfl, by decide +kernel, rfl, by decide +kernel, by decide +kernel⟩
theorem sc_Lines_take_within : FnScope ["self", "deep", "found", "words", "head"] ["self", "deep"] (defScope s_Lines_take_within) := ⟨rfl, rfl, rfl, by decide +kernel, rfl, by decide +kernel, by decide +kernel⟩
theorem ok_take_row (T : Tx K mg) (D0 : Nat) (F_poly_in : Fn P w K mg base (L2.CX P w) 3 "poly_in" ["words", "row", "at"] (sp_told K polyR)) (F_form_in : Fn P w K mg base (L2.CX P w) 5 "form_in" ["words", "row", "at"] (sp_told K formR))
    (M_need : Fm P w K mg base (L2.CX P w) 3 (He.ma K (He.ga K "Lines") "need") ["self", "good", "word"] (sp_need K)) (M_need_alone : Fm P w K mg base (L2.CX P w) 4 (He.ma K (He.ga K "Lines") "need_alone") ["self", "words"] (sp_need_alone K))
    (M_take_pairs : Fm P w K mg base (L2.CX P w) 6 (He.ma K (He.ga K "Lines") "take_pairs") ["self", "last", "most", "told_in"] (sp_take_pairs P w mg base K))
    (M_take_within : Fm P w K mg base (L2.CX P w) (8 + 2 * D0) (He.ma K (He.ga K "Lines") "take_within") ["self", "deep"] (sp_take_within K D0)) : Fm P w K mg base (L2.CX P w) (8 + 2 * D0 + 1) (He.ma K (He.ga K "Lines") "take_row") ["self", "words", "head", "deep"] (sp_take_row K D0) := by
  refine Fm.of T.f_Lines_take_row sc_Lines_take_row (fun _ _ _ _ _ _ us hl => match us, hl with | [_, _, _, _], _ => rfl) (fun vs H Q E h => ?_) (fun cdv A outer s H vs Q E hr h => ?_)
  · obtain ⟨a, dx, r, p, i, m, D, n, rows, ws, h, _, rfl, _⟩ := h
    rfl
  · have tk : Takes (cxOf (L2.CX P w) P w K mg base ["self", "words", "head", "deep", "count", "pairs"] "Lines.take_row" (defScope s_Lines_take_row) (He.ma K (He.ga K "Lines") "take_row") cdv A outer s H E) (fun cls d _ H => E cls d H) := takes_of rfl rfl rfl rfl
    refine ⟨_, (pss_cons (ps_fldaug (pv 0) pe_int in_add)
  (pss_cons (ps_expr (pe_mt M_need (hr.mono (by omega)) T.cLines T.m_need tk (pv 0) (pa_cons (pe_cut (pe_and (pe_cmpR op_le (pe_fld (pv 0) rfl) (pe_gv T.c_MOST_TOGETHER) (nomark _)) (pe_one (pe_cmpR op_notIn_seq (pv 2) (pe_tup (pa_cons pe_str (pa_cons pe_str pa_nil))) (by rfl))))) (pa_cons pe_int pa_nil))))
  (pss_cons (ps_if (pt_cmpR op_eq (pv 2) pe_str (nomark _)) (pss_one (ps_ret (pe_tup (pa_cons pe_str (pa_cons (pe_ix ix_list (pv 1) pe_int (fun _ _ => rfl)) (pa_cons (pe_fnX F_poly_in (hr.mono (by omega)) tk (pa_cons (pv 1) (pa_cons (pe_fld (pv 0) rfl) (pa_cons pe_int pa_nil)))) pa_nil)))))) pss_nil)
  (pss_cons (ps_if (pt_cmpR op_eq (pv 2) pe_str (nomark _)) (pss_cons (ps_expr (pe_mt M_need_alone (hr.mono (by omega)) T.cLines T.m_need_alone tk (pv 0) (pa_cons (pv 1) pa_nil)))
  (pss_one (ps_ret (pe_tup (pa_cons pe_str (pa_cons (pe_mt M_take_pairs (hr.mono (by omega)) T.cLines T.m_take_pairs tk (pv 0) (pa_cons pe_str (pa_cons (pe_gv T.c_MOST_PAIRS_programs) (pa_cons (pe_gf F_poly_in) pa_nil)))) pa_nil)))))) pss_nil)
  (pss_cons (ps_expr (pe_mt M_need (hr.mono (by omega)) T.cLines T.m_need tk (pv 0) (pa_cons (pe_cmpR op_gt (pv 3) pe_int (nomark _)) (pa_cons pe_int pa_nil))))
  (pss_cons (ps_set (i := 4) sc_Lines_take_row.nd rfl (Or.inl rfl) (pe_fnX F_poly_in (hr.mono (by omega)) tk (pa_cons (pv 1) (pa_cons (pe_fld (pv 0) rfl) (pa_cons pe_int pa_nil)))))
  (pss_cons (ps_if (pt_cmpR op_eq (pv 2) pe_str (nomark _)) (pss_one (ps_ret (pe_tup (pa_cons pe_str (pa_cons (pv 4) (pa_cons (pe_mt M_take_within (hr.mono (by omega)) T.cLines T.m_take_within tk (pv 0) (pa_cons (pe_op op_sub (pv 3) pe_int) pa_nil)) pa_nil)))))) pss_nil)
  (pss_cons (ps_set (i := 5) sc_Lines_take_row.nd rfl (Or.inl rfl) (pe_mt M_take_pairs (hr.mono (by omega)) T.cLines T.m_take_pairs tk (pv 0) (pa_cons pe_str (pa_cons (pe_gv T.c_MOST_FORMS) (pa_cons (pe_gf F_form_in) pa_nil)))))
  (pss_one (ps_ret (pe_tup (pa_cons pe_str (pa_cons (pv 4) (pa_cons (pv 5) (pa_cons (pe_mt M_take_within (hr.mono (by omega)) T.cLines T.m_take_within tk (pv 0) (pa_cons (pe_op op_sub (pv 3) pe_int) pa_nil)) pa_nil))))))))))))))), ?_⟩
    obtain ⟨a, dx, r, p, i, m, D, n, rows, ws, h, hD, rfl, ha, hr2, hok, hp, wok, ⟨hh1, hh2⟩, hn, q⟩ := h
    have rna : r ≠ a := ne_kind hr2 ha (fun e => by cases e)
    have pna : p ≠ a := ne_kind hp ha (fun e => by cases e)
    obtain ⟨w0, wr, ew⟩ : ∃ x y, ws = x :: y := by
      cases hw : ws with
      | nil => exact absurd hw wok.1
      | cons x y => exact ⟨x, y, rfl⟩
    have e0 : ws.headD Str.empty = w0 := by rw [ew] <;> rfl
    have l1 : 1 ≤ ws.length := by rw [ew]; simp
    obtain ⟨n, rfl⟩ : ∃ n', n = n' + 1 := ⟨n - 1, by omega⟩
    generalize eR : rowR rows (n + 1) ws h D i m = R at q
    rw [rowR] at eR
    have qE : ∀ ri e, R = .error (ri, e) → ∀ H2, GrBut a H H2 → ExW K E (GrBut a H2) ri e := fun ri e h H2 g => by
      rw [h] at q
      exact fun d H' g' hx => q d H' (g.trans g') hx
    refine ⟨_, rfl, a, _, dx, _, _, rfl, ha, T.cLines, T.n_together, ln_tog _ _ _, _, _, rfl, rfl, dx, _, ha, ln_len _ _ _, ?_⟩
    rw [ln_putT]
    have h1a : (upd H a (.ins (He.ga K "Lines") dx (lnF (.ref r) (.int i) (.int ((m : Int) + 1))))) a = some (LO K dx r i (m + 1)) := upd_same
    have g1 : GrBut a H (upd H a (.ins (He.ga K "Lines") dx (lnF (.ref r) (.int i) (.int ((m : Int) + 1))))) := GrBut.put
    generalize upd H a (.ins (He.ga K "Lines") dx (lnF (.ref r) (.int i) (.int ((m : Int) + 1)))) = H1 at h1a g1
    refine ⟨_, rfl, a, dx, _, rfl, h1a, ln_meth (by decide +kernel) _ _ _, ?_⟩
    refine ⟨fun v H' => Gr H1 H' ∧ v = .bl (!decide (60 ≤ m ∨ h = "by" ∨ h = "end")), ?_, fun v H2 hv => ?_⟩
    · refine ⟨_, rfl, a, _, dx, _, _, rfl, h1a, T.cLines, T.n_together, ln_tog _ _ _, _, _, rfl, rfl, _, rfl, ite2 (fun c => ?_) (fun c => ?_)⟩
      · have c1 : ¬ 60 ≤ m := by have := dT c; omega
        refine ⟨_, rfl, by show 2 ≤ sizeLine; decide, fun u hu => ?_⟩
        have gu := Gr.new (o := .tup [.str "by", .str "end"]) hu
        refine ⟨u, (["by", "end"] : List Str).map V.str, rfl, .inr (st_of upd_same), rfl, flat_strs _, gu, ?_⟩
        show V.bl (!inV (.str h) _) = _
        rw [in_strs]
        congr 2
        refine decide_eq_decide.mpr ⟨fun z => ?_, fun z => ?_⟩
        · rcases List.mem_cons.mp z with z | z
          · exact .inr (.inl z)
          · rcases List.mem_cons.mp z with z | z
            · exact .inr (.inr z)
            · cases z
        · rcases z with z | z | z
          · exact absurd z c1
          · rw [z]; simp
          · rw [z]; simp
      · have c1 : 60 ≤ m := by have := dF c; omega
        refine ⟨Gr.rfl' _, ?_⟩
        rw [decide_eq_true (.inl c1)] <;> rfl
    · obtain ⟨g2, rfl⟩ := hv
      have h2a := g2 _ _ h1a
      have gA : GrBut a H H2 := g1.trans g2.but
      have h2p := gA _ _ hp pna
      have h2r := gA _ _ hr2 rna
      refine ⟨a, dx, r, i, m + 1, 1, _, rfl, h2a, fun c2 => ?_, fun c2 => ?_⟩
      rotate_left
      · rw [if_pos (of_decide_eq_true (by rw [Bool.not_eq_false'] at c2; exact c2))] at eR
        exact fun d H' g' hx => qE i 1 eR.symm H2 gA d H' g'.but hx
      have c3 : ¬ (60 ≤ m ∨ h = "by" ∨ h = "end") := of_decide_eq_false (by rw [Bool.not_eq_true'] at c2; exact c2)
      rw [if_neg c3] at eR
      refine ⟨_, rfl, rfl, _, rfl, ite2 (fun c4 => ?_) (fun c4 => ?_)⟩
      · -- set
        have hh : h = Str.empty := V.str.inj (dT c4)
        rw [if_pos hh] at eR
        refine ⟨_, rfl, p, _, 0, _, rfl, rfl, sl_of h2p, by rw [ew]; exact at0, _, rfl, _, rfl, a, _, dx, _, _, rfl, h2a, T.cLines, T.n_at, ln_at _ _ _, p, ws, i, 2, rfl, h2p, wok, hh2 hh, ?_⟩
        cases hrr : polyR ws 2 with
        | error e =>
          rw [hrr] at eR
          exact fun d H' g' hx => qE i e eR.symm H2 gA d H' g'.but hx
        | ok x =>
          rw [hrr] at eR
          dsimp only at eR
          rw [← eR] at q
          intro v H3 g3 dv
          have nx := nl_polyR hrr
          refine ⟨by show 3 ≤ sizeLine; decide, fun t ht => ?_⟩
          have gt := Gr.new (o := .tup [.str "set", .str w0, v]) ht
          refine q (.ref t) _ ((gA.trans g3.but).trans gt.but) (gt _ _ (g3 _ _ h2a)) ?_ (by simp [nl, nlAll, nx])
          rw [e0]
          exact .tup (st_of upd_same) (.cons (.str _) (.cons (.str _) (.cons (Dp.gr gt _ _ dv) .nil)))
      · have hne : h ≠ Str.empty := fun e => dF c4 (by rw [e] <;> rfl)
        rw [if_neg hne] at eR
        have hW : h ∈ headsW := hh1.resolve_left hne
        refine ⟨_, rfl, rfl, _, rfl, ite2 (fun c5 => ?_) (fun c5 => ?_)⟩
        · -- both
          have hh : h = "both" := V.str.inj (dT c5)
          rw [if_pos hh] at eR
          refine ⟨_, rfl, a, dx, _, rfl, h2a, ln_meth (by decide +kernel) _ _ _, _, rfl, a, dx, r, p, i, m + 1, ws, rfl, h2a, h2p, fun l2 => ?_, fun l2 => ?_⟩
          rotate_left
          · rw [if_neg l2] at eR
            exact fun d H' g' hx => qE i 2 eR.symm H2 gA d H' g'.but hx
          rw [if_pos l2] at eR
          refine ⟨_, rfl, a, dx, _, rfl, h2a, ln_meth (by decide +kernel) _ _ _, fun fv hfv => ⟨a, dx, r, i, m + 1, 6, rows, "end", fv, polyR, rfl, hfv.mono (by omega), ⟨fun _ _ _ h => nl_polyR h⟩, by decide, h2a, h2r, hok, ?_⟩⟩
          cases hpp : pairsR rows "end" 6 polyR (rows.length + 1 - i) [] i with
          | error e =>
            obtain ⟨e1, e2⟩ := e
            rw [hpp] at eR
            exact qE e1 e2 eR.symm H2 gA
          | ok x =>
            obtain ⟨l, i'⟩ := x
            rw [hpp] at eR
            dsimp only at eR
            rw [← eR] at q
            intro v H3 g3 h3a dv nv
            refine ⟨by show 2 ≤ sizeLine; decide, fun t ht => ?_⟩
            have gt := Gr.new (o := .tup [.str "both", v]) ht
            exact q (.ref t) _ ((gA.trans g3).trans gt.but) (gt _ _ h3a) (.tup (st_of upd_same) (.cons (.str _) (.cons (Dp.gr gt _ _ dv) .nil))) (by simp [nl, nlAll, nv])
        · have hnb : h ≠ "both" := fun e => dF c5 (by rw [e])
          rw [if_neg hnb] at eR
          have hlj : h = "loop" ∨ h = "jump" := by
            have hl := hW
            unfold headsW at hl
            simp only [List.mem_cons, List.not_mem_nil, or_false] at hl
            rcases hl with e | e | e | e | e
            · exact absurd e hnb
            · exact .inl e
            · exact .inr e
            · exact absurd (.inr (.inl e)) c3
            · exact absurd (.inr (.inr e)) c3
          refine ⟨_, rfl, a, dx, _, rfl, h2a, ln_meth (by decide +kernel) _ _ _, _, rfl, _, _, rfl, rfl, a, dx, r, i, m + 1, 1, _, rfl, h2a, fun c6 => ?_, fun c6 => ?_⟩
          rotate_left
          · rw [if_pos (by have := of_decide_eq_false c6; omega)] at eR
            exact fun d H' g' hx => qE i 1 eR.symm H2 gA d H' g'.but hx
          have hD0 : ¬ D = 0 := by have := of_decide_eq_true c6; omega
          rw [if_neg hD0] at eR
          refine ⟨_, rfl, _, rfl, a, _, dx, _, _, rfl, h2a, T.cLines, T.n_at, ln_at _ _ _, p, ws, i, 1, rfl, h2p, wok, l1, ?_⟩
          cases hrr : polyR ws 1 with
          | error e =>
            rw [hrr] at eR
            exact fun d H' g' hx => qE i e eR.symm H2 gA d H' g'.but hx
          | ok c =>
            rw [hrr] at eR
            dsimp only at eR
            intro v H3 g3 dv
            have nx := nl_polyR hrr
            have gB : GrBut a H H3 := gA.trans g3.but
            have h3a := g3 _ _ h2a
            have h3r := gB _ _ hr2 rna
            have eDm : V.int ((D : Int) - 1) = V.int ((D - 1 : Nat) : Int) := by rw [show ((D : Int) - 1) = ((D - 1 : Nat) : Int) by omega]
            refine ⟨_, rfl, rfl, _, rfl, ite2 (fun c7 => ?_) (fun c7 => ?_)⟩
            · -- loop
              have hl : h = "loop" := V.str.inj (dT c7)
              rw [if_pos hl] at eR
              refine ⟨_, rfl, _, rfl, a, dx, _, rfl, h3a, ln_meth (by decide +kernel) _ _ _, _, rfl, _, _, rfl, rfl, a, dx, r, i, m + 1, D - 1, n, rows, by omega, congrArg (fun z => [V.ref a, z]) eDm, h3a, h3r, hok, by omega, ?_⟩
              cases hww : withinR rows n (D - 1) [] i (m + 1) with
              | error e =>
                obtain ⟨e1, e2⟩ := e
                rw [hww] at eR
                exact qE e1 e2 eR.symm H3 gB
              | ok x =>
                obtain ⟨l, i', m'⟩ := x
                rw [hww] at eR
                dsimp only at eR
                rw [← eR] at q
                intro v4 H4 g4 h4a dv4 nv4
                have k4 : Kt H3 H4 := g4.kt (by rw [h3a]; exact True.intro)
                refine ⟨by show 3 ≤ sizeLine; decide, fun t ht => ?_⟩
                have gt := Gr.new (o := .tup [.str "loop", v, v4]) ht
                exact q (.ref t) _ ((gB.trans g4).trans gt.but) (gt _ _ h4a) (.tup (st_of upd_same) (.cons (.str _) (.cons (Dp.kt (k4.trans gt.kt) _ _ nx dv) (.cons (Dp.gr gt _ _ dv4) .nil)))) (by simp [nl, nlAll, nx, nv4])
            · -- jump
              have hnl : h ≠ "loop" := fun e => dF c7 (by rw [e])
              rw [if_neg hnl] at eR
              refine ⟨_, rfl, a, dx, _, rfl, h3a, ln_meth (by decide +kernel) _ _ _, fun fv hfv => ⟨a, dx, r, i, m + 1, 40, rows, "by", fv, formR, rfl, hfv, ⟨fun _ _ _ h => nl_formR h⟩, by decide, h3a, h3r, hok, ?_⟩⟩
              cases hpp : pairsR rows "by" 40 formR (rows.length + 1 - i) [] i with
              | error e =>
                obtain ⟨e1, e2⟩ := e
                rw [hpp] at eR
                exact qE e1 e2 eR.symm H3 gB
              | ok x =>
                obtain ⟨lp, i1⟩ := x
                rw [hpp] at eR
                dsimp only at eR
                have hlt := pairsR_lt _ hpp
                intro v4 H4 g4 h4a dv4 nv4
                have gC : GrBut a H H4 := gB.trans g4
                have h4r := gC _ _ hr2 rna
                have k4 : Kt H3 H4 := g4.kt (by rw [h3a]; exact True.intro)
                refine ⟨_, rfl, _, rfl, _, rfl, a, dx, _, rfl, h4a, ln_meth (by decide +kernel) _ _ _, _, rfl, _, _, rfl, rfl, a, dx, r, i1, m + 1, D - 1, n, rows, by omega, congrArg (fun z => [V.ref a, z]) eDm, h4a, h4r, hok, by omega, ?_⟩
                cases hww : withinR rows n (D - 1) [] i1 (m + 1) with
                | error e =>
                  obtain ⟨e1, e2⟩ := e
                  rw [hww] at eR
                  exact qE e1 e2 eR.symm H4 gC
                | ok x =>
                  obtain ⟨l, i', m'⟩ := x
                  rw [hww] at eR
                  dsimp only at eR
                  rw [← eR] at q
                  intro v5 H5 g5 h5a dv5 nv5
                  have k5 : Kt H4 H5 := g5.kt (by rw [h4a]; exact True.intro)
                  refine ⟨by show 4 ≤ sizeLine; decide, fun t ht => ?_⟩
                  have gt := Gr.new (o := .tup [.str "jump", v, v4, v5]) ht
                  exact q (.ref t) _ ((gC.trans g5).trans gt.but) (gt _ _ h5a) (.tup (st_of upd_same) (.cons (.str _) (.cons (Dp.kt ((k4.trans k5).trans gt.kt) _ _ nx dv) (.cons (Dp.kt (k5.trans gt.kt) _ _ nv4 dv4) (.cons (Dp.gr gt _ _ dv5) .nil))))) (by simp [nl, nlAll, nx, nv4, nv5])
theorem ok_take_within0 (T : Tx K mg) : Fm P w K mg base (L2.CX P w) 8 (He.ma K (He.ga K "Lines") "take_within") ["self", "deep"] (sp_take_within K 0) := by
  have : Fm P w K mg base (L2.CX P w) (7 + 1) (He.ma K (He.ga K "Lines") "take_within") ["self", "deep"] (sp_take_within K 0) := by
    refine Fm.of T.f_Lines_take_within sc_Lines_take_within (fun _ _ _ _ _ _ us hl => match us, hl with | [_, _], _ => rfl) (fun vs H Q E h => ?_) (fun cdv A outer s H vs Q E hr h => ?_)
    · obtain ⟨a, dx, r, i, m, D, n, rows, hD, _⟩ := h
      exact absurd hD (Nat.not_lt_zero _)
    · obtain ⟨a, dx, r, i, m, D, n, rows, hD, _⟩ := h
      exact absurd hD (Nat.not_lt_zero _)
  exact this
end
end K86
set_option Elab.async false
set_option linter.all false
set_option maxRecDepth 100000
set_option maxHeartbeats 4000000
/-! the program of a row, and the whole, read by the program -/
namespace K86
open PySem PySem.Spec PyProof.Rows L2
section
variable {P : Program} {w : World} {K : PySem.W.Frag} {mg : Str → Option Value} {base : Heap}
theorem ok_take_within (T : Tx K mg) (D0 : Nat)
    (M_need : Fm P w K mg base (L2.CX P w) 3 (He.ma K (He.ga K "Lines") "need") ["self", "good", "word"] (sp_need K)) (M_need_alone : Fm P w K mg base (L2.CX P w) 4 (He.ma K (He.ga K "Lines") "need_alone") ["self", "words"] (sp_need_alone K))
    (M_take : Fm P w K mg base (L2.CX P w) 4 (He.ma K (He.ga K "Lines") "take") ["self"] (sp_take K))
    (M_take_row : Fm P w K mg base (L2.CX P w) (8 + 2 * D0 + 1) (He.ma K (He.ga K "Lines") "take_row") ["self", "words", "head", "deep"] (sp_take_row K D0)) : Fm P w K mg base (L2.CX P w) (8 + 2 * D0 + 1 + 1) (He.ma K (He.ga K "Lines") "take_within") ["self", "deep"] (sp_take_within K (D0 + 1)) := by
  refine Fm.of T.f_Lines_take_within sc_Lines_take_within (fun _ _ _ _ _ _ us hl => match us, hl with | [_, _], _ => rfl) (fun vs H Q E h => ?_) (fun cdv A outer s H vs Q E hr h => ?_)
  · obtain ⟨a, dx, r, i, m, D, n, rows, _, rfl, _⟩ := h
    rfl
  · have tk : Takes (cxOf (L2.CX P w) P w K mg base ["self", "deep", "found", "words", "head"] "Lines.take_within" (defScope s_Lines_take_within) (He.ma K (He.ga K "Lines") "take_within") cdv A outer s H E) (fun cls d _ H => E cls d H) := takes_of rfl rfl rfl rfl
    obtain ⟨a, dx, r, i, m, D, n0, rows, hD, rfl, ha, hr2, hok, hn0, q⟩ := h
    refine ⟨_, (pss_cons (ps_set (i := 2) sc_Lines_take_within.nd rfl (Or.inl rfl) (pe_lst pa_nil))
  (pss_cons (ps_asg (pe_mt0 M_take (hr.mono (by omega)) T.cLines T.m_take tk (pv 0)) (pg_tup rfl (pgs_cons (pg_name (i := 3) sc_Lines_take_within.nd rfl (Or.inl rfl)) (pgs_cons (pg_name (i := 4) sc_Lines_take_within.nd rfl (Or.inl rfl)) pgs_nil))))
  (pss_cons (ps_while (passes_of rfl) (pt_cmpR op_ne (pv 4) pe_str (nomark _)) (pss_cons (ps_expr (pe_mt M_need (hr.mono (by omega)) T.cLines T.m_need tk (pv 0) (pa_cons (pe_cmpR op_lt (pe_callB call_len_seq (by rfl) T.b_len (by decide +kernel) (pa_cons (pv 2) pa_nil)) (pe_gv T.c_MOST_ROWS) (nomark _)) (pa_cons pe_int pa_nil))))
  (pss_cons (ps_expr (pe_bm PySem.F.plainAttrs_list PySem.F.slot_list_append PySem.F.type_list_append mt_append (pv 2) (pa_cons (pe_mt M_take_row (hr.mono (by omega)) T.cLines T.m_take_row tk (pv 0) (pa_cons (pv 3) (pa_cons (pv 4) (pa_cons (pv 1) pa_nil)))) pa_nil)))
  (pss_one (ps_asg (pe_mt0 M_take (hr.mono (by omega)) T.cLines T.m_take tk (pv 0)) (pg_tup rfl (pgs_cons (pg_name (i := 3) sc_Lines_take_within.nd rfl (Or.inl rfl)) (pgs_cons (pg_name (i := 4) sc_Lines_take_within.nd rfl (Or.inl rfl)) pgs_nil))))))))
  (pss_cons (ps_expr (pe_mt M_need (hr.mono (by omega)) T.cLines T.m_need tk (pv 0) (pa_cons (pe_cmpR (op_neNil hr.units) (pv 2) (pe_lst pa_nil) (nomark _)) (pa_cons pe_int pa_nil))))
  (pss_cons (ps_expr (pe_mt M_need_alone (hr.mono (by omega)) T.cLines T.m_need_alone tk (pv 0) (pa_cons (pv 3) pa_nil)))
  (pss_one (ps_ret (pe_callTy call_tuple_of (by rfl) T.b_tuple (by decide +kernel) (pa_cons (pv 2) pa_nil))))))))), ?_⟩
    have rna : r ≠ a := ne_kind hr2 ha (fun e => by cases e)
    generalize eR : withinR rows n0 D [] i m = R at q
    have qE : ∀ ri e, R = .error (ri, e) → ∀ H2, GrBut a H H2 → ExW K E (GrBut a H2) ri e := fun ri e h H2 g => by
      rw [h] at q
      exact fun d H' g' hx => q d H' (g.trans g') hx
    refine ⟨by show 0 ≤ sizeLine; decide, fun f hfn => ?_⟩
    have g0 := Gr.new (o := .lst []) hfn
    have hf0 : (upd H f (.lst [])) f = some (.lst []) := upd_same
    have h0a := g0 _ _ ha
    have h0r := g0 _ _ hr2
    generalize upd H f (.lst []) = H0 at g0 hf0 h0a h0r
    have fa : f ≠ a := (ne_of_none ha hfn).symm
    obtain ⟨n0, rfl⟩ : ∃ n', n0 = n' + 1 := ⟨n0 - 1, by omega⟩
    refine ⟨_, rfl, a, dx, _, rfl, h0a, ln_meth (by decide +kernel) _ _ _, a, dx, r, i, m, rows, rfl, h0a, h0r, hok, ?_⟩
    cases hn : nextW rows i with
    | error e => exact qE (i + 1) e (by rw [← eR, withinR, hn]) H0 g0.but
    | ok x =>
      obtain ⟨ws, hd⟩ := x
      intro t p H1 g1 h1a hp hpn st wok
      refine ⟨t, _, rfl, st, rfl, _, _, rfl, _, _, rfl, rfl, ?_⟩
      refine while_m (fun k σ Hh => ∃ (p : Addr) (hd : Str) (ws : List Str) (j n M : Nat) (acc : List PyData) (xs : List V), σ = [some (.ref a), some (.int D), some (.ref f), some (.ref p), some (.str hd)] ∧ GrBut a H Hh ∧ Hh a = some (LO K dx r (j + 1) M) ∧
        Hh p = some (.lst (ws.map V.str)) ∧ WsOk ws ∧ nextW rows j = .ok (ws, hd) ∧ R = withinR rows (n + 1) D acc j M ∧ 2 * (rows.length - j) ≤ n ∧ acc.length ≤ 12 ∧ Hh f = some (.lst xs) ∧ p ≠ f ∧ DpAll K Hh xs acc ∧ nlAll acc = true ∧ k = rows.length - j) (rows.length - i) ?_ (fun k σ Hh pv C h1 h2 => ?_)
      · exact ⟨p, hd, ws, i, n0, m, [], [], rfl, g0.but.trans g1, h1a, hp, wok, hn, eR.symm, by omega, Nat.zero_le _, g1 _ _ hf0 fa, (fun e => by rw [e, hf0] at hpn; cases hpn), .nil, rfl, rfl⟩
      · clear hn wok hp h1a st hpn g1
        obtain ⟨p, hd, ws, j, n, M, acc, xs, rfl, gh, hha, hp, wok, hn, hR, hfu, hl, hf, pf, dx', hnl, rfl⟩ := pv
        have hj := nextW_lt hn
        have lx : xs.length = acc.length := DpAll.length dx'
        have sz100 : 100 < sizeLine := by decide
        have hhr := gh _ _ hr2 rna
        rw [withinR, hn] at hR
        dsimp only at hR
        refine ⟨_, rfl, rfl, _, rfl, ?_⟩
        show C (!decide (V.str hd = V.str "end")) Hh
        rw [decS]
        refine wayB (fun c => h1 _ ?_) (fun c => h2 _ ?_)
        · have hne : hd ≠ "end" := of_decide_eq_false (by rw [Bool.not_eq_true'] at c; exact c)
          rw [if_neg hne] at hR
          refine ⟨_, rfl, a, dx, _, rfl, hha, ln_meth (by decide +kernel) _ _ _, _, rfl, f, xs, rfl, .inl (sl_of hf), _, _, rfl, rfl, a, dx, r, j + 1, M, 1, _, rfl, hha, fun c2 => ?_, fun c2 => ?_⟩
          rotate_left
          · rw [if_neg (by have := of_decide_eq_false c2; omega)] at hR
            exact fun d H' g' hx => qE (j + 1) 1 hR Hh gh d H' g'.but hx
          have l12 : acc.length < 12 := by have := of_decide_eq_true c2; omega
          rw [if_pos l12] at hR
          refine ⟨_, rfl, .inl ⟨rfl, _, sl_of hf⟩, _, rfl, a, dx, _, rfl, hha, ln_meth (by decide +kernel) _ _ _, _, rfl, _, rfl, _, rfl, a, dx, r, p, j + 1, M, D, n, rows, ws, hd, by omega, rfl, hha, hhr, hok, hp, wok, ⟨nextW_head hn, fun e => nextW_set (by rw [hn, e])⟩, by omega, ?_⟩
          cases hrr : rowR rows n ws hd D (j + 1) M with
          | error e =>
            obtain ⟨e1, e2⟩ := e
            rw [hrr] at hR
            exact qE e1 e2 hR Hh gh
          | ok x =>
            obtain ⟨x, i', m'⟩ := x
            have hle := rowR_le _ hrr
            dsimp only at hle
            rw [hrr] at hR
            dsimp only at hR
            intro v H3 g3 h3a dv nx
            have h3f := g3 _ _ hf fa
            refine ⟨f, xs, v, rfl, rfl, h3f, by omega, ?_⟩
            have k13 : Kt Hh H3 := g3.kt (by rw [hha]; exact True.intro)
            have k35 : Kt H3 (upd H3 f (.lst (xs ++ [v]))) := Kt.put (by rw [h3f]; exact True.intro)
            have h5f : (upd H3 f (.lst (xs ++ [v]))) f = some (.lst (xs ++ [v])) := upd_same
            have h5a : (upd H3 f (.lst (xs ++ [v]))) a = some (LO K dx r i' m') := by rw [upd_ne fa.symm]; exact h3a
            have g5 : GrBut a H (upd H3 f (.lst (xs ++ [v]))) := (gh.trans g3).mut hfn
            have dx5 : DpAll K (upd H3 f (.lst (xs ++ [v]))) (xs ++ [v]) (acc ++ [x]) := DpAll.append (DpAll.kt (k13.trans k35) _ _ hnl dx') (.cons (Dp.kt k35 _ _ nx dv) .nil)
            generalize upd H3 f (.lst (xs ++ [v])) = H5 at k35 h5f h5a g5 dx5
            have h5r := g5 _ _ hr2 rna
            obtain ⟨n, rfl⟩ : ∃ n', n = n' + 1 := ⟨n - 1, by omega⟩
            refine ⟨_, rfl, a, dx, _, rfl, h5a, ln_meth (by decide +kernel) _ _ _, a, dx, r, i', m', rows, rfl, h5a, h5r, hok, ?_⟩
            cases hn2 : nextW rows i' with
            | error e => exact qE (i' + 1) e (by rw [hR, withinR, hn2]) H5 g5
            | ok y =>
              obtain ⟨ws2, hd2⟩ := y
              have hi' := nextW_lt hn2
              intro t2 p2 H6 g6 h6a hp2 hpn2 st2 wok2
              refine ⟨t2, _, rfl, st2, rfl, _, _, rfl, _, _, rfl, rfl, ?_⟩
              have k56 : Kt H5 H6 := g6.kt (by rw [h5a]; exact True.intro)
              refine ⟨rows.length - i', by omega, p2, hd2, ws2, i', n, m', acc ++ [x], xs ++ [v], rfl, g5.trans g6, h6a, hp2, wok2, hn2, hR, by omega, ?_, g6 _ _ h5f fa, (fun e => by rw [e, h5f] at hpn2; cases hpn2), DpAll.kt k56 _ _ (nlAll_snoc hnl nx) dx5, nlAll_snoc hnl nx, rfl⟩
              rw [List.length_append]
              simp
              omega
        · have hyes : hd = "end" := of_decide_eq_true (by rw [Bool.not_eq_false'] at c; exact c)
          rw [if_pos hyes] at hR
          have ee : xs.isEmpty = true ↔ acc.length = 0 := by
            rw [List.isEmpty_iff_length_eq_zero, lx]
          refine ⟨_, rfl, a, dx, _, rfl, hha, ln_meth (by decide +kernel) _ _ _, _, rfl, by show 0 ≤ sizeLine; decide, fun u hu => ?_⟩
          have g2 := Gr.new (o := .lst []) hu
          have h2a := g2 _ _ hha
          have h2p := g2 _ _ hp
          have h2f := g2 _ _ hf
          refine ⟨f, u, xs, rfl, rfl, sl_of h2f, sl_of upd_same, a, dx, r, j + 1, M, 1, _, rfl, h2a, fun c2 => ?_, fun c2 => ?_⟩
          rotate_left
          · have hno : ¬ (acc.length ≠ 0) := fun z => by
              rw [Bool.not_eq_false'] at c2
              exact z (ee.mp c2)
            rw [if_neg hno] at hR
            exact fun d H' g' hx => qE (j + 1) 1 hR _ (gh.trans g2.but) d H' g'.but hx
          have hyes2 : acc.length ≠ 0 := fun z => by
            rw [ee.mpr z] at c2
            cases c2
          rw [if_pos hyes2] at hR
          refine ⟨_, rfl, a, dx, _, rfl, h2a, ln_meth (by decide +kernel) _ _ _, _, rfl, a, dx, r, p, j + 1, M, ws, rfl, h2a, h2p, fun l1 => ?_, fun l1 => ?_⟩
          rotate_left
          · rw [if_neg l1] at hR
            exact fun d H' g' hx => qE (j + 1) 2 hR _ (gh.trans g2.but) d H' g'.but hx
          rw [if_pos l1] at hR
          rw [hR] at q
          refine ⟨_, rfl, f, xs, rfl, .inl ⟨sl_of h2f, fun l hl => ?_⟩⟩
          have gl := Gr.new (o := .tup xs) hl
          exact q _ _ ((gh.trans g2.but).trans gl.but) (gl _ _ h2a) (.tup (st_of upd_same) (DpAll.gr gl _ _ (DpAll.gr g2 _ _ dx'))) hnl
/-! ### the whole -/
def sp_take_all (K : PySem.W.Frag) : Sp := fun vs H Q E => ∃ (a dx r : Addr) (rows : List Str), vs = [.ref a] ∧ H a = some (LO K dx r 0 0) ∧ H r = some (.lst (rows.map V.str)) ∧ RowsOk rows ∧
  match allR rows rows.length [] 0 0 with
    | .ok l => ∀ v H', GrBut a H H' → Dp K H' v (.tuple l) → Q v H'
    | .error (ri, e) => ExW K E (GrBut a H) ri e
theorem sc_Lines_take_all : FnScope ["self", "found", "words", "head"] ["self"] (defScope s_Lines_take_all) := ⟨rfl, rfl, rfl, by decide +kernel, rfl, by decide +kernel, by decide +kernel⟩
theorem ok_take_all (T : Tx K mg) 
    (M_need : Fm P w K mg base (L2.CX P w) 3 (He.ma K (He.ga K "Lines") "need") ["self", "good", "word"] (sp_need K)) (M_take : Fm P w K mg base (L2.CX P w) 4 (He.ma K (He.ga K "Lines") "take") ["self"] (sp_take K))
    (M_take_row : Fm P w K mg base (L2.CX P w) 15 (He.ma K (He.ga K "Lines") "take_row") ["self", "words", "head", "deep"] (sp_take_row K 3)) : Fm P w K mg base (L2.CX P w) 16 (He.ma K (He.ga K "Lines") "take_all") ["self"] (sp_take_all K) := by
  refine Fm.of T.f_Lines_take_all sc_Lines_take_all (fun _ _ _ _ _ _ us hl => match us, hl with | [_], _ => rfl) (fun vs H Q E h => ?_) (fun cdv A outer s H vs Q E hr h => ?_)
  · obtain ⟨a, dx, r, rows, rfl, _⟩ := h
    rfl
  · have tk : Takes (cxOf (L2.CX P w) P w K mg base ["self", "found", "words", "head"] "Lines.take_all" (defScope s_Lines_take_all) (He.ma K (He.ga K "Lines") "take_all") cdv A outer s H E) (fun cls d _ H => E cls d H) := takes_of rfl rfl rfl rfl
    obtain ⟨a, dx, r, rows, rfl, ha, hr2, hok, q⟩ := h
    refine ⟨_, (pss_cons (ps_set (i := 1) sc_Lines_take_all.nd rfl (Or.inl rfl) (pe_lst pa_nil))
  (pss_cons (ps_while (passes_of rfl) (pt_cmpR op_lt (pe_fld (pv 0) rfl) (pe_callB call_len_seq (by rfl) T.b_len (by decide +kernel) (pa_cons (pe_fld (pv 0) rfl) pa_nil)) (nomark _)) (pss_cons (ps_asg (pe_mt0 M_take (hr.mono (by omega)) T.cLines T.m_take tk (pv 0)) (pg_tup rfl (pgs_cons (pg_name (i := 2) sc_Lines_take_all.nd rfl (Or.inl rfl)) (pgs_cons (pg_name (i := 3) sc_Lines_take_all.nd rfl (Or.inl rfl)) pgs_nil))))
  (pss_cons (ps_expr (pe_mt M_need (hr.mono (by omega)) T.cLines T.m_need tk (pv 0) (pa_cons (pe_cmpR op_lt (pe_callB call_len_seq (by rfl) T.b_len (by decide +kernel) (pa_cons (pv 1) pa_nil)) (pe_gv T.c_MOST_ROWS) (nomark _)) (pa_cons pe_int pa_nil))))
  (pss_one (ps_expr (pe_bm PySem.F.plainAttrs_list PySem.F.slot_list_append PySem.F.type_list_append mt_append (pv 1) (pa_cons (pe_mt M_take_row (hr.mono (by omega)) T.cLines T.m_take_row tk (pv 0) (pa_cons (pv 2) (pa_cons (pv 3) (pa_cons (pe_gv T.c_MOST_DEEP) pa_nil)))) pa_nil)))))))
  (pss_one (ps_ret (pe_callTy call_tuple_of (by rfl) T.b_tuple (by decide +kernel) (pa_cons (pv 1) pa_nil)))))), ?_⟩
    have rna : r ≠ a := ne_kind hr2 ha (fun e => by cases e)
    generalize eR : allR rows rows.length [] 0 0 = R at q
    have qE : ∀ ri e, R = .error (ri, e) → ∀ H2, GrBut a H H2 → ExW K E (GrBut a H2) ri e := fun ri e h H2 g => by
      rw [h] at q
      exact fun d H' g' hx => q d H' (g.trans g') hx
    refine ⟨by show 0 ≤ sizeLine; decide, fun f hfn => ?_⟩
    have g0 := Gr.new (o := .lst []) hfn
    have hf0 : (upd H f (.lst [])) f = some (.lst []) := upd_same
    have h0a := g0 _ _ ha
    generalize upd H f (.lst []) = H0 at g0 hf0 h0a
    have fa : f ≠ a := (ne_of_none ha hfn).symm
    refine while_m (fun k σ Hh => ∃ (j n M : Nat) (acc : List PyData) (xs : List V) (z2 z3 : Option V), σ = [some (.ref a), some (.ref f), z2, z3] ∧ GrBut a H Hh ∧ Hh a = some (LO K dx r j M) ∧
        R = allR rows n acc j M ∧ rows.length - j ≤ n ∧ acc.length ≤ 12 ∧ Hh f = some (.lst xs) ∧ DpAll K Hh xs acc ∧ nlAll acc = true ∧ k = rows.length - j) rows.length ?_ (fun k σ Hh pv C h1 h2 => ?_)
    · exact ⟨0, rows.length, 0, [], [], none, none, rfl, g0.but, h0a, eR.symm, Nat.le_refl _, by decide, hf0, .nil, rfl, rfl⟩
    · obtain ⟨j, n, M, acc, xs, z2, z3, rfl, gh, hha, hR, hfu, hl, hf, dx', hnl, rfl⟩ := pv
      have lx : xs.length = acc.length := DpAll.length dx'
      have sz100 : 100 < sizeLine := by decide
      have hhr := gh _ _ hr2 rna
      refine ⟨_, rfl, a, _, dx, _, _, rfl, hha, T.cLines, T.n_at, ln_at _ _ _, _, rfl, a, _, dx, _, _, rfl, hha, T.cLines, T.n_texts, ln_texts _ _ _, r, _, rfl, .inl (sl_of hhr), _, _, rfl, rfl, _, rfl, ?_⟩
      rw [List.length_map]
      refine wayB (fun c => h1 _ ?_) (fun c => h2 _ ?_)
      · have hj : j < rows.length := by have := of_decide_eq_true c; omega
        obtain ⟨n, rfl⟩ : ∃ n', n = n' + 1 := ⟨n - 1, by omega⟩
        rw [allR, if_pos hj] at hR
        refine ⟨_, rfl, a, dx, _, rfl, hha, ln_meth (by decide +kernel) _ _ _, a, dx, r, j, M, rows, rfl, hha, hhr, hok, ?_⟩
        cases hn : nextW rows j with
        | error e =>
          rw [hn] at hR
          exact qE (j + 1) e hR Hh gh
        | ok x =>
          obtain ⟨ws, hd⟩ := x
          rw [hn] at hR
          dsimp only at hR
          intro t p H1 g1 h1a hp hpn st wok
          refine ⟨t, _, rfl, st, rfl, _, _, rfl, _, _, rfl, rfl, ?_⟩
          have h1f := g1 _ _ hf fa
          have h1r := g1 _ _ hhr rna
          have gH1 := gh.trans g1
          refine ⟨_, rfl, a, dx, _, rfl, h1a, ln_meth (by decide +kernel) _ _ _, _, rfl, f, xs, rfl, .inl (sl_of h1f), _, _, rfl, rfl, a, dx, r, j + 1, M, 1, _, rfl, h1a, fun c2 => ?_, fun c2 => ?_⟩
          rotate_left
          · rw [if_neg (by have := of_decide_eq_false c2; omega)] at hR
            exact fun d H' g' hx => qE (j + 1) 1 hR H1 gH1 d H' g'.but hx
          have l12 : acc.length < 12 := by have := of_decide_eq_true c2; omega
          rw [if_pos l12] at hR
          refine ⟨_, rfl, .inl ⟨rfl, _, sl_of h1f⟩, _, rfl, a, dx, _, rfl, h1a, ln_meth (by decide +kernel) _ _ _, _, rfl, _, rfl, a, dx, r, p, j + 1, M, 3, 2 * rows.length + 2, rows, ws, hd, Nat.le_refl _, rfl, h1a, h1r, hok, hp, wok, ⟨nextW_head hn, fun e => nextW_set (by rw [hn, e])⟩, by omega, ?_⟩
          cases hrr : rowR rows (2 * rows.length + 2) ws hd 3 (j + 1) M with
          | error e =>
            obtain ⟨e1, e2⟩ := e
            rw [hrr] at hR
            exact qE e1 e2 hR H1 gH1
          | ok x =>
            obtain ⟨x, i', m'⟩ := x
            have hle := rowR_le _ hrr
            dsimp only at hle
            rw [hrr] at hR
            dsimp only at hR
            intro v H3 g3 h3a dv nx
            have h3f := g3 _ _ h1f fa
            refine ⟨f, xs, v, rfl, rfl, h3f, by omega, ?_⟩
            have k13 : Kt Hh H3 := (g1.trans g3).kt (by rw [hha]; exact True.intro)
            have k35 : Kt H3 (upd H3 f (.lst (xs ++ [v]))) := Kt.put (by rw [h3f]; exact True.intro)
            refine ⟨rows.length - i', by omega, i', n, m', acc ++ [x], xs ++ [v], _, _, rfl, (gH1.trans g3).mut hfn, by rw [upd_ne fa.symm]; exact h3a, hR, by omega, ?_, upd_same, DpAll.append (DpAll.kt (k13.trans k35) _ _ hnl dx') (.cons (Dp.kt k35 _ _ nx dv) .nil), nlAll_snoc hnl nx, rfl⟩
            rw [List.length_append]
            simp
            omega
      · have hj : ¬ j < rows.length := by have := of_decide_eq_false c; omega
        have hR2 : R = .ok acc := by
          rw [hR]
          cases n with
          | zero => rw [allR]
          | succ n => rw [allR, if_neg hj]
        rw [hR2] at q
        refine ⟨_, rfl, f, xs, rfl, .inl ⟨sl_of hf, fun l hl => ?_⟩⟩
        have gl := Gr.new (o := .tup xs) hl
        exact q _ _ (gh.trans gl.but) (.tup (st_of upd_same) (DpAll.gr gl _ _ dx'))
end
end K86
set_option Elab.async false
set_option linter.all false
set_option maxRecDepth 100000
set_option maxHeartbeats 4000000
/-! read_program -/
namespace K86
open PySem PySem.Spec PyProof.Rows L2
def sp_lines_init (K : PySem.W.Frag) : Sp := fun vs H Q _ => ∃ (a dx : Addr) (z : Str), vs = [.ref a, .str z] ∧ H a = some (.ins (He.ga K "Lines") dx []) ∧ z.length + 2 ≤ sizeLine ∧
  ∀ r H', GrBut a H H' → H' r = some (.lst ((rowsOf z).map V.str)) → H' a = some (LO K dx r 0 0) → Q .non H'
section
variable {X : Cx} {k : Nat} {e : Expr} {es : List Expr} {t : TA} {p pos : Pos}
/-- Lines(text) -/
theorem pe_lines (T : Tx X.K X.mg) (M : Fm X.prog X.w X.K X.mg X.base CX0 k (He.ma X.K (He.ga X.K "Lines") "__init__") ["self", "text"] (sp_lines_init X.K)) (hr : Room (k + 1) X.A) (ha : PA X (e :: es) t) (hg : Gl X "Lines" := by rfl)
    (he : starEach (e :: es) X.env = (false, eval e X.env) :: starEach es X.env := by rfl) (hpl : (backTo pos (starEach es X.env)).any (·.1) = false := by rfl) :
    PE X (.Call (.Name "Lines" p) (e :: es) [] pos) (tMake (He.ga X.K "Lines") (sp_lines_init X.K) [] (fun _ _ _ => False) t) := by
  obtain ⟨fd, F, hb⟩ := M
  exact pe_make T.mLines F hr hg T.g_Lines hb .nil (fun _ _ _ _ _ _ _ h => h.elim) ha (by decide) he hpl
end
section
variable {P : Program} {w : World} {K : PySem.W.Frag} {mg : Str → Option Value} {base : Heap}
theorem lo_init (K : PySem.W.Frag) (dx r : Addr) : putF "together" (V.int 0) (putF "at" (V.int 0) (putF "texts" (V.ref r) [])) = lnF (.ref r) (.int (0 : Nat)) (.int (0 : Nat)) := by
  unfold lnF
  simp only [putF, n4, n5, n6, if_false]
  rfl
theorem sc_Lines_init : FnScope ["self", "text"] ["self", "text"] (defScope s_Lines_init) := ⟨rfl, rfl, rfl, by decide +kernel, rfl, by decide +kernel, by decide +kernel⟩
theorem ok_lines_init (T : Tx K mg) : Fm P w K mg base CX0 1 (He.ma K (He.ga K "Lines") "__init__") ["self", "text"] (sp_lines_init K) := by
  refine Fm.of T.f_Lines_init sc_Lines_init (fun _ _ _ _ _ _ us hl => match us, hl with | [_, _], _ => rfl) (fun vs H Q E h => ?_) (fun cdv A outer s H vs Q E hr h => ⟨_, PSs.nox (pss_cons (ps_fld (pv 0) (pe_cut (pe_ifExp (pt_cmpR op_ne (pv 1) pe_str (nomark _)) (pe_split (pv 1) pe_str) (pe_lst pa_nil))) rfl)
  (pss_cons (ps_fld (pv 0) pe_int rfl)
  (pss_one (ps_fld (pv 0) pe_int rfl)))), ?_⟩)
  · obtain ⟨a, dx, z, rfl, _⟩ := h
    rfl
  · obtain ⟨a, dx, z, rfl, ha, hz, q⟩ := h
    refine ⟨fun v H' => Gr H H' ∧ ∃ r, v = .ref r ∧ H' r = some (.lst ((rowsOf z).map V.str)), ?_, fun v H1 hv => ?_⟩
    · refine ⟨_, rfl, rfl, _, rfl, ite2 (fun c => ?_) (fun c => ?_)⟩
      · have hne : z ≠ Str.empty := fun e => nT c (by rw [e] <;> rfl)
        refine ⟨_, rfl, ⟨_, rfl⟩, _, _, rfl, rfl, rfl, hz, fun p hp => ⟨Gr.new hp, p, rfl, ?_⟩⟩
        have e : rowsOf z = Txt.split z (Str.ofString "\n") := by
          unfold rowsOf
          rw [if_neg hne] <;> rfl
        rw [e]
        exact upd_same
      · have he : z = Str.empty := V.str.inj (nF c)
        refine ⟨by show 0 ≤ sizeLine; decide, fun p hp => ⟨Gr.new hp, p, rfl, ?_⟩⟩
        have e : rowsOf z = [] := by
          unfold rowsOf
          rw [if_pos he] <;> rfl
        rw [e]
        exact upd_same
    · obtain ⟨g1, r, rfl, hr1⟩ := hv
      have h1a := g1 _ _ ha
      have ra : r ≠ a := ne_kind hr1 h1a (fun e => by cases e)
      refine ⟨_, rfl, a, _, dx, _, rfl, h1a, T.cLines, T.n_texts, by show 0 < 1000; decide, ?_⟩
      refine ⟨_, rfl, a, _, dx, _, rfl, upd_same, T.cLines, T.n_at, by show 1 < 1000; decide, ?_⟩
      refine ⟨_, rfl, a, _, dx, _, rfl, upd_same, T.cLines, T.n_together, by show 2 < 1000; decide, ?_⟩
      refine q r _ (g1.but.trans ((GrBut.put.trans GrBut.put).trans GrBut.put)) ?_ ?_
      · rw [upd_ne ra, upd_ne ra, upd_ne ra]
        exact hr1
      · rw [upd_same, lo_init K dx r]
def sp_read_program (K : PySem.W.Frag) : Sp := fun vs H Q E => ∃ x : V, vs = [x] ∧
  ((∃ z : Str, x = .str z ∧ z.length + 2 ≤ sizeLine ∧ RowsOk (rowsOf z) ∧ match allR (rowsOf z) (rowsOf z).length [] 0 0 with
      | .ok l => ∀ v H', Gr H H' → Dp K H' v (.tuple l) → Q v H'
      | .error (ri, e) => ExW K E (Gr H) ri e) ∨
   (NotStr K H x ∧ ExW K E (Gr H) 0 0))
theorem sc_read_program : FnScope ["text"] ["text"] (defScope s_read_program) := ⟨rfl, rfl, rfl, by decide +kernel, rfl, by decide +kernel, by decide +kernel⟩
theorem ok_read_program (T : Tx K mg) (M_bad : Fm P w K mg base CX0 1 (He.ma K (He.ga K "BadRow") "__init__") ["self", "row", "word"] (sp_bad_init K)) (M_lines : Fm P w K mg base CX0 1 (He.ma K (He.ga K "Lines") "__init__") ["self", "text"] (sp_lines_init K))
    (M_take_all : Fm P w K mg base (L2.CX P w) 16 (He.ma K (He.ga K "Lines") "take_all") ["self"] (sp_take_all K)) : Fn P w K mg base (L2.CX P w) 17 "read_program" ["text"] (sp_read_program K) := by
  refine Fn.of T.f_read_program sc_read_program (fun _ _ _ _ _ _ us hl => match us, hl with | [_], _ => rfl) (fun vs H Q E h => ?_) (fun f cdv A outer s H vs Q E hr h => ?_)
  · obtain ⟨x, rfl, _⟩ := h
    rfl
  · have tk : Takes (cxOf (L2.CX P w) P w K mg base ["text"] "read_program" (defScope s_read_program) f cdv A outer s H E) (fun cls d _ H => E cls d H) := takes_of rfl rfl rfl rfl
    refine ⟨_, (pss_cons (ps_if (pt_not (pt_val (pe_callB call_isi (by rfl) T.b_isinstance (by decide +kernel) (pa_cons (pv 0) (pa_cons (pe_bltn (by rfl) T.b_str (v := .ty "str") (u := .type "str") (by decide +kernel) (by rfl)) pa_nil))))) (pss_one (ps_bad T M_bad (hr.mono (by omega)) rfl tk (pa_cons pe_int (pa_cons pe_int pa_nil)))) pss_nil)
  (pss_one (ps_ret (pe_mt0 M_take_all (hr.mono (by omega)) T.cLines T.m_take_all tk (pe_lines T M_lines (hr.mono (by omega)) (pa_cons (pv 0) pa_nil)))))), ?_⟩
    obtain ⟨x, rfl, ⟨z, rfl, hz, hok, q⟩ | ⟨⟨ty, htx, hk⟩, q⟩⟩ := h
    · refine ⟨_, rfl, _, _, .type "str", .type "str", true, rfl, .ty "str", .base (.str z), kit_str, true, rfl, ?_⟩
      refine iteF rfl ?_
      refine ⟨_, rfl, fun a dx ha hdx hda => ⟨a, dx, z, rfl, upd_same, hz, fun r H1 g1 hr1 h1a => ⟨rfl, a, dx, _, rfl, h1a, ln_meth (by decide +kernel) _ _ _, a, dx, r, rowsOf z, rfl, h1a, hr1, hok, ?_⟩⟩⟩
      have gH : Gr H H1 := fun b o e => g1 b o (by rw [upd_ne (ne_of_none e ha), upd_ne (ne_of_none e hdx)]; exact e) (ne_of_none e ha)
      cases hrr : allR (rowsOf z) (rowsOf z).length [] 0 0 with
      | error e =>
        obtain ⟨e1, e2⟩ := e
        rw [hrr] at q
        exact fun d H' g hx => q d H' (GrBut.gr g gH ha) hx
      | ok l =>
        rw [hrr] at q
        exact fun v H' g dv => q v H' (GrBut.gr g gH ha) dv
    · refine ⟨_, rfl, _, _, ty, .type "str", false, rfl, .ty "str", htx, hk, false, rfl, ?_⟩
      refine iteT rfl ?_
      exact mk_bad fun d H2 g hx => q d H2 g hx
end
end K86
set_option Elab.async false
set_option linter.all false
set_option maxRecDepth 100000
set_option maxHeartbeats 4000000
/-! an exception that is caught and held -/
namespace K86
open PySem PySem.Spec PyProof.Rows L2
/-- at a: an exception of the class at C, its dict at d -/
def exr (a C d : Addr) : HO := .ext fun h => ∃ (oe : Obj) (vs : Array Value), h.get? a = some oe ∧ oe.cls = .ref C ∧ oe.dict = some d ∧ oe.data = .fields vs
section
variable {X : Cx} {pins : List (Addr × Obj)} {σ : L2.St} {H : Hp} {s : Shared}
theorem exr_ok {P : Program} {w : World} {H : Hp} {h : Heap} {a C d : Addr} {oe : Obj} {vs : Array Value} (he : h.get? a = some oe) (hc : oe.cls = .ref C) (hd : oe.dict = some d) (hv : oe.data = .fields vs) : ObjOk P w H h a (exr a C d) :=
  ⟨⟨oe, vs, he, hc, hd, hv⟩, ⟨_, he⟩, fun h1 h2 z k => by
    obtain ⟨o, v, e, z⟩ := z
    exact ⟨o, v, k _ e, z⟩⟩
theorem track {a C d : Addr} {oe : Obj} {vs : Array Value} (I : Inv X pins σ H s) (he : s.heap.get? a = some oe) (hc : oe.cls = .ref C) (hdd : oe.dict = some d) (hv : oe.data = .fields vs) (na : H a = none) (nL : a ≠ X.env.locals) (n0 : X.s_0.heap.get? a = none)
    (np : ∀ p ∈ X.pn ++ pins, p.1 ≠ a) : Inv X pins σ (upd H a (exr a C d)) s := by
  refine ⟨I.ok, I.os, I.bare, ⟨I.base.keep, I.base.slot, fun b o e n hx => ?_, I.base.there, fun b xs e => ?_, fun b o u e => ?_, fun b ps e => ?_⟩, I.loc, I.cell, ?_, fun y c e => ?_, fun p hp => ?_, fun b o e => ?_, I.len⟩
  · rw [upd_ne (fun z => by rw [z, n0] at e; cases e)]
    exact I.base.free b o e n hx
  · have q := I.base.tups b xs e
    rw [upd_ne (ne_of_none q na)]
    exact q
  · have q := I.base.frzs b o u e
    rw [upd_ne (ne_of_none q na)]
    exact q
  · obtain ⟨more, q⟩ := I.base.tbls b ps e
    exact ⟨more, by rw [upd_ne (ne_of_none q na)]; exact q⟩
  · rw [upd_ne nL.symm]
    exact I.free
  · rw [upd_ne (fun z => by
      obtain ⟨v, q⟩ := I.cell y c e
      rw [z] at q
      obtain ⟨o2, q1, q2⟩ := q
      rw [he] at q1
      cases q1
      rw [hv] at q2
      cases q2)]
    exact I.freeC y c e
  · obtain ⟨z1, z2, z3⟩ := I.pin p hp
    exact ⟨z1, by rw [upd_ne (np p hp)]; exact z2, z3⟩
  · by_cases hb : b = a
    · subst hb
      rw [upd_same] at e
      cases e
      exact exr_ok he hc hdd hv
    · rw [upd_ne hb] at e
      exact (I.hok b o e).stay (fun _ _ _ q => q) (fun c q => by rw [upd_ne (ne_of_none q na)]; exact q) fun c xs q => by rw [upd_ne (ne_of_none q na)]; exact q
theorem toSuite (I : Inv X pins σ H s) (a : Addr) : Inv (X.suite a (X.pn ++ pins)) [] σ H s :=
  ⟨I.ok.suite _ _, I.os, I.bare, I.base, I.loc, I.cell, I.free, I.freeC, fun p hp => I.pin p (by rw [List.append_nil] at hp; exact hp), I.hok, I.len⟩
theorem ofSuite {a : Addr} (I : Inv (X.suite a (X.pn ++ pins)) [] σ H s) (ok : X.Ok) : Inv X pins σ H s :=
  ⟨ok, I.os, I.bare, I.base, I.loc, I.cell, I.free, I.freeC, fun p hp => I.pin p (by rw [List.append_nil]; exact hp), I.hok, I.len⟩
end
/-- what the clause wishes of an exception of the body: its name is held by slot i, its object is known -/
def wTr (K : PySem.W.Frag) (c : Value) (i : Nat) (ts : TS) (D : Ends) : WX := fun cls d σ H =>
  ∃ C dd : Addr, cls = .ref C ∧ d = some dd ∧ PySem.W.exmOne K cls c = some true ∧ ∀ a, H a = none → ts { nx := fun σ' H' => D.nx (σ'.set i none) H', rt := D.rt, bk := fun σ' H' => D.bk (σ'.set i none) H', ct := fun σ' H' => D.ct (σ'.set i none) H' } (σ.set i (some (.ref a))) (upd H a (exr a C dd))
section
variable {X : Cx} {x n : Str} {c : Value} {i : Nat} {body suite : List Stmt} {b₀ : Stmt} {np pos pos' : Pos} {tb : WX → TS} {ts : TS}
theorem ps_try_tr (hs : X.stack = X.env :: X.outer) (hf : X.env.frame = some X.env.locals) (hex : X.ex = []) (hN : X.N.Nodup) (hi : X.N[i]? = some n) (hln : X.env.kindOf n = some .local) (hc : Names X x c)
    (hb : ∀ (W : WX) (pn : List (Addr × Obj)) (xe : Value → Shared → Prop), Takes (X.tr pn xe) W → PSs (X.tr pn xe) body (tb W)) (hsu : ∀ (a : Addr) (pn : List (Addr × Obj)), PSs (X.suite a pn) (b₀ :: suite) ts) :
    PS X (.Try body [.ExceptHandler (some (.Name x np)) (some n) (b₀ :: suite) pos'] [] [] pos) (fun D σ H => tb (wTr X.K c i ts D) D σ H) := by
  refine ⟨fun pins s σ H D I h => ?_⟩
  have ok := I.ok
  have hfr : X.A.frames = some (X.env :: X.outer) := by rw [ok.frames, hs]
  refine wpAny_Try_except (wpAny_mono ((hb (wTr X.K c i ts D) (X.pn ++ pins) (fun e s₁ => wpAny (model X.prog X.w) X.A (noteFrame e X.env) (fun _ s₂ => wpAny (model X.prog X.w) X.A (setFlight e none) (fun _ s₃ =>
    wpAny (model X.prog X.w) X.A (handleBy e X.env [.ExceptHandler (some (.Name x np)) (some n) (b₀ :: suite) pos']) (SP X pins D) X.xe s₃) X.xe s₂) X.xe s₁) (fun u s' xx => ?_)).run [] s σ H D (I.toTry _) h) (fun f s1 hsp => ?_) (fun e s1 he => he))
  · obtain ⟨a, B, sI, pins', σ', H', cls, d, rfl, J', nb, up, sky, na, os, ag, C, dd, rfl, rfl, hb1, hyes⟩ := xx
    have J : Inv X pins σ' H' sI := J'.ofTry ok
    have sky' : Sky B (X.env :: X.outer) a (Zc (.ref C) (some dd)) X.env.locals s'.heap := hs ▸ sky
    show wpAny (model X.prog X.w) X.A (noteFrame (.ref a) X.env) _ _ _
    refine Sky.land Zc.steady hfr hf sky' fun h3 fl3 up3 => ?_
    have J3 : Inv X pins σ' H' { s' with heap := h3 } := J.landed nb fl3.1 (up.trans up3) os ag
    obtain ⟨oe3, vs3, he3, hz3, hd3⟩ := fl3.there
    have nfr : a ∉ frs (X.env :: X.outer) := fun hm => by
      obtain ⟨_, o', e', hnf⟩ := fl3.2.2.1.mem hm
      rw [he3] at e'
      cases e'
      exact hnf _ hd3
    have nL : a ≠ X.env.locals := fun z => nfr (List.mem_filterMap.mpr ⟨X.env, List.mem_cons_self, by rw [hf, z]⟩)
    have nI : sI.heap.get? a = none := by
      cases e : sI.heap.get? a with
      | none => rfl
      | some o =>
        have := nb a o e (by rw [hs]; exact nfr)
        rw [fl3.2.1] at this
        cases this
    have n0 : X.s_0.heap.get? a = none := by
      cases e : X.s_0.heap.get? a with
      | none => rfl
      | some o =>
        obtain ⟨o', e2⟩ := J.base.there a o e (by rw [hex]; exact List.not_mem_nil)
        rw [nI] at e2
        cases e2
    have npp : ∀ p ∈ X.pn ++ pins, p.1 ≠ a := fun p hp z => by
      have := (J.pin p hp).1
      rw [z, nI] at this
      cases this
    have S3 := toSuite J3 a
    refine wpAny_handleBy_cons (codeAny_handlers_test ?_) (by intro q; cases q)
    have LT : PySem.W.Looks (model X.prog X.w) h3 (typeOf (.ref a)) (.ref C) := fun A Q E s k q => wpAny_typeOf_ref (k _ _ he3) (by rw [hz3.1]; exact q)
    have LM := PySem.W.exm_one (M := model X.prog X.w) J3.kIn LT hb1
    have test : ∀ {Q : Value → Shared → Prop} {E : Value → Shared → Prop}, Q c { s' with heap := h3 } → wpAny (model X.prog X.w) (X.A.mark (some (.ref a))) (eval (.Name x np) X.env) Q E { s' with heap := h3 } := fun {Q E} q => by
      obtain ⟨hg, hdbg, hm | ⟨hm, hv, hnn⟩⟩ := hc
      · exact ld_glob S3 hg hm q hdbg
      · exact ld_blt S3 hg hm hv q hnn hdbg
    refine test (LM.here (codeAny_handlers_suite_as (HandSPX.lands_againZ fl3 fun h4 fl4 up4 => ?_)))
    have J4 : Inv X pins σ' H' { s' with heap := h4 } := J.landed nb fl4.1 ((up.trans up3).trans up4) os ag
    obtain ⟨oe4, vs4, he4, hz4, hd4⟩ := fl4.there
    have S4 := toSuite (track J4 he4 hz4.1 hz4.2 hd4 na nL n0 npp) a
    refine store_ok (X := X.suite a (X.pn ++ pins)) (v := .ref a) S4 hN hi (.inl hln) rfl (fun s5 S5 => ?_) (.inr hln)
    refine wpAny_mono ((hsu a (X.pn ++ pins)).run [] s5 _ _ _ S5 (hyes a na)) (fun f s6 hsp => ?_) (fun _ _ z => False.elim z)
    have fin_ : ∀ {σ6 : L2.St} {H6 : Hp} {Q : Shared → Prop}, Inv (X.suite a (X.pn ++ pins)) [] σ6 H6 s6 → (∀ s7, Inv X pins (σ6.set i none) H6 s7 → Q s7) →
        wpAny (model X.prog X.w) X.A (do bindName X.env n .none; unbindBehindTheSuite X.env n pos') (fun _ s7 => Q s7) X.xe s6 := fun {σ6 H6 Q} S6 hq => gone_ok (ofSuite S6 ok) hN hi hln hq
    cases f with
    | next =>
      obtain ⟨σ6, H6, S6, q6⟩ := hsp
      exact fin_ S6 fun s7 J7 => ⟨_, _, J7, q6⟩
    | brk =>
      obtain ⟨σ6, H6, S6, q6⟩ := hsp
      exact fin_ S6 fun s7 J7 => ⟨_, _, J7, q6⟩
    | cont =>
      obtain ⟨σ6, H6, S6, q6⟩ := hsp
      exact fin_ S6 fun s7 J7 => ⟨_, _, J7, q6⟩
    | ret u =>
      obtain ⟨v6, σ6, H6, S6, r6, q6⟩ := hsp
      exact fin_ S6 fun s7 J7 => ⟨_, _, _, J7, r6, q6⟩
  · cases f with
    | next =>
      obtain ⟨σ', H', J', q⟩ := hsp
      exact wpAny_execs_nil ⟨σ', H', J'.ofTry ok, q⟩
    | brk =>
      obtain ⟨σ', H', J', q⟩ := hsp
      exact ⟨σ', H', J'.ofTry ok, q⟩
    | cont =>
      obtain ⟨σ', H', J', q⟩ := hsp
      exact ⟨σ', H', J'.ofTry ok, q⟩
    | ret u =>
      obtain ⟨v, σ', H', J', r, q⟩ := hsp
      exact ⟨v, σ', H', J'.ofTry ok, r, q⟩
end
end K86
set_option Elab.async false
set_option linter.all false
set_option maxRecDepth 100000
set_option maxHeartbeats 4000000
/-! what the program tells -/
namespace K86
open PySem PySem.Spec PyProof.Rows L2
section
variable {K : PySem.W.Frag} {mg : Str → Option Value}
structure ExF (K : PySem.W.Frag) : Prop where
  ga : PySem.W.findIn K (.ref (He.ga K "BadRow")) "__getattribute__" = some (some (.builtin "BaseException.__getattribute__"))
  gt : PySem.W.findIn K (.ref (He.ga K "BadRow")) "__getattr__" = some none
  others : PySem.W.kitAny K (.ref (He.ga K "BadRow")) [.ref (He.ga K "BadLoop"), .ref (He.ga K "BadPaper"), .ref (He.ga K "BadQuestion"), .ref (He.ga K "Hindered"), .ref (He.ga K "OutOfPlace"), .ref (He.ga K "TooGreat")] = some false
  own : PySem.W.kitOne K (.ref (He.ga K "BadRow")) (.ref (He.ga K "BadRow")) = some true
  ve : PySem.W.kitOne K (.ref (He.ga K "BadRow")) (.type "ValueError") = some true
  hd : PySem.W.hasDictIn K (He.ga K "BadRow") = true
  cl : (PySem.W.clsIn K (He.ga K "BadRow")).isSome = true
  ca : PySem.W.findIn K (.ref (He.ga K "BadRow")) "__class__" = some (some (.builtin "object.__class__"))
  cg : PySem.W.specialIn K (.builtin "object.__class__") "__get__" = some (some (.builtin "getset_descriptor.__get__"))
  ct : PySem.W.takesIn K (.builtin "object.__class__") = some true
  cm : PySem.W.mroIn K (He.ga K "BadRow") (.type "object") = some true
  su : PySem.W.subIn K (.ref (He.ga K "BadRow")) (.type "BaseException") = some true
theorem Tx.ef (T : Tx K mg) : ExF K := by
  have h := T.exc.2
  have h0 := T.oex.exC
  unfold excB2 excC at h
  simp only [Bool.and_eq_true, decide_eq_true_eq] at h
  obtain ⟨h1, h2, h3, h4, h5, _, _, h8, h9, h10, h11, h12, h13⟩ := h
  exact ⟨h1, h2, h3, h4, h5, h8, h9, h10, h11, h12, h13, h0⟩
end
/-- the exception that v is: its dict holds fs -/
def IsEx (K : PySem.W.Frag) (H : Hp) (v : V) (fs : List (Str × V)) : Prop := ∃ a d : Addr, v = .ref a ∧ H a = some (exr a (He.ga K "BadRow") d) ∧ H d = some (.xd fs)
section
variable {X : Cx} {pins : List (Addr × Obj)} {σ : L2.St} {H : Hp} {s : Shared}
theorem ex_at {a d : Addr} {fs : List (Str × V)} (I : Inv X pins σ H s) (ha : H a = some (exr a (He.ga X.K "BadRow") d)) (hd : H d = some (.xd fs)) :
    ∃ (oe od : Obj) (mA : Str → Option Value), PySem.W.InstAt s.heap a oe (He.ga X.K "BadRow") (some od) ∧ (∀ f, RelO (fs.lookup f) (mA f)) ∧ ∀ name, PySem.W.lookIn name od = some (mA name) := by
  obtain ⟨⟨oe, vs, he, hc, hdd, hv⟩, _, _⟩ := (show ObjOk X.prog X.w H s.heap a (.ext _) from I.hok a _ ha)
  obtain ⟨mA, hns, hr⟩ := (show ObjOk X.prog X.w H s.heap d (.xd fs) from I.hok d _ hd)
  obtain ⟨od, ho, hl⟩ := lookIn_ns hns
  exact ⟨oe, od, mA, ⟨he, hc, by unfold PySem.W.notCls; rw [hv] <;> rfl, by rw [hdd]; exact ho⟩, hr, hl⟩
theorem call_isiE (T : Tx X.K X.mg) : CallR X (.builtin "isinstance") (fun xs H Q => ∃ (x c : V) (u : Value) (fs : List (Str × V)) (b : Bool), xs = [x, c] ∧ ClsV c u ∧ IsEx X.K H x fs ∧ PySem.W.kitOne X.K (.ref (He.ga X.K "BadRow")) u = some b ∧ Q (.bl b) H) := by
  intro pins s σ H xs us Q I r h
  obtain ⟨x, c, u, fs, b, rfl, k, ⟨a, d, rfl, ha, hd⟩, e, q⟩ := h
  obtain ⟨u1, u2, rfl, r1, r2⟩ := vals2 r
  have e2 := k.eq r2
  subst e2
  cases (show u1 = Value.ref a from r1)
  obtain ⟨oe, od, mA, J, _, _⟩ := ex_at I ha hd
  have F := T.ef
  exact PySem.W.kia_one (PySem.W.kitx_exc F.cl F.ga F.gt F.su F.ca F.cg F.ct F.cm) I.kIn J e (fun z => nomatch z) fun tk => ⟨.bl b, H, I.tok tk, rfl, q⟩
theorem call_isiTE (T : Tx X.K X.mg) : CallR X (.builtin "isinstance") (fun xs H Q => ∃ (x : V) (tp : Addr) (cs : List V) (us : List Value) (fs : List (Str × V)) (b : Bool), xs = [x, .ref tp] ∧ H tp = some (.tup cs) ∧ Paired ClsV cs us ∧ IsEx X.K H x fs ∧ PySem.W.kitAny X.K (.ref (He.ga X.K "BadRow")) us = some b ∧ Q (.bl b) H) := by
  intro pins s σ H xs us Q I r h
  obtain ⟨x, tp, cs, ws, fs, b, rfl, hT, k, ⟨a, d, rfl, ha, hd⟩, e, q⟩ := h
  obtain ⟨u1, u2, rfl, r1, r2⟩ := vals2 r
  cases (show u2 = Value.ref tp from r2)
  cases (show u1 = Value.ref a from r1)
  obtain ⟨oe, od, mA, J, _, _⟩ := ex_at I ha hd
  have F := T.ef
  obtain ⟨_, its, rv, o, h1, h2, n, h3⟩ := (show ObjOk X.prog X.w H s.heap tp (.tup cs) from I.hok tp _ hT)
  have e3 := ClsV.all k rv
  subst e3
  obtain ⟨oc, od2, dt, sl⟩ := o
  simp only at h2 h3
  subst h2 h3
  exact PySem.W.kia_tup (PySem.W.kitx_exc F.cl F.ga F.gt F.su F.ca F.cg F.ct F.cm) I.kIn J h1 e (fun z => nomatch z) fun tk => ⟨.bl b, H, I.tok tk, rfl, q⟩
/-- e.f, e a held exception -/
def tXf (K : PySem.W.Frag) (te : TE) (f : Str) : TE := fun σ H Q => te σ H fun x H1 => ∃ (fs : List (Str × V)) (v : V), IsEx K H1 x fs ∧ fs.lookup f = some v ∧ Q v H1
theorem pe_xf {e : Expr} {te : TE} {f : Str} {pos : Pos} (T : Tx X.K X.mg) (n : NoAttr X.K (He.ga X.K "BadRow") f) (he : PE X e te) (hb : attributeBase e f X.env (eval e X.env) = eval e X.env) : PE X (.Attribute e f pos) (tXf X.K te f) := by
  refine ⟨fun pins s σ H Q I h => ?_⟩
  refine attr_of hb (thn (he.run pins s σ H _ I h) fun u s1 hh => ?_)
  obtain ⟨x, H1, I1, rx, fs, v, ⟨a, d, rfl, ha, hd⟩, l, q⟩ := hh
  cases (show u = Value.ref a from rx)
  obtain ⟨oe, od, mA, J, hr, hl⟩ := ex_at I1 ha hd
  obtain ⟨u, hu, ru⟩ := RelO.some_of (v := v) (o := mA f) (by rw [← l]; exact hr f)
  have F := T.ef
  exact HandSPX.exc_get I1.kIn J F.ga F.gt F.su (PySem.W.findObj_own F.hd n rfl (by rw [hl, hu])) (handed_of ru) ⟨v, H1, I1.tok _, ru, q⟩
theorem pe_xrow {e : Expr} {te : TE} {pos : Pos} (T : Tx X.K X.mg) (he : PE X e te) (hb : attributeBase e "row" X.env (eval e X.env) = eval e X.env) : PE X (.Attribute e "row" pos) (tXf X.K te "row") := pe_xf T T.n_row he hb
theorem pe_xword {e : Expr} {te : TE} {pos : Pos} (T : Tx X.K X.mg) (he : PE X e te) (hb : attributeBase e "word" X.env (eval e X.env) = eval e X.env) : PE X (.Attribute e "word" pos) (tXf X.K te "word") := pe_xf T T.n_word he hb
end
section
variable {P : Program} {w : World} {K : PySem.W.Frag} {mg : Str → Option Value} {base : Heap}
theorem tyX_gr {H H' : Hp} {x : V} {t : Value} (h : TyX K H x t) (g : Gr H H') : TyX K H' x t := by
  cases h with
  | base b =>
    refine .base ?_
    cases b with
    | non => exact .non
    | bl y => exact .bl y
    | int i => exact .int i
    | str y => exact .str y
    | flt y => exact .flt y
    | lst e => exact .lst (g _ _ e)
    | frz e => exact .frz (g _ _ e)
    | tup e => exact .tup (g _ _ e)
    | dK e => exact .dK (g _ _ e)
    | dT e => exact .dT (g _ _ e)
    | ins e cl ha hn htk hm => exact .ins (g _ _ e) cl ha hn htk hm
  | byt b => exact .byt b
  | set e => exact .set (g _ _ e)
  | kList e c => exact .kList e c
  | kTuple e c => exact .kTuple e c
  | kDict e c => exact .kDict e c
  | fTuple e => exact .fTuple (g _ _ e)
  | fDict e => exact .fDict (g _ _ e)
theorem NotStr.gr {H H' : Hp} {x : V} (h : NotStr K H x) (g : Gr H H') : NotStr K H' x := by
  obtain ⟨t, h1, h2⟩ := h
  exact ⟨t, tyX_gr h1 g, h2⟩
theorem IsEx.gr {H H' : Hp} {x : V} {fs : List (Str × V)} (h : IsEx K H x fs) (g : Gr H H') : IsEx K H' x fs := by
  obtain ⟨a, d, e, h1, h2⟩ := h
  exact ⟨a, d, e, g _ _ h1, g _ _ h2⟩
/-- the program's answer, both ways -/
theorem read_split {H0 H : Hp} {x : V} {Q Qd : VK} {E : XK} (g0 : Gr H0 H) (h : (∃ z : Str, x = .str z ∧ z.length + 2 ≤ sizeLine ∧ RowsOk (rowsOf z) ∧ ∀ v H', Gr H0 H' → Dp K H' v (dueD (allR (rowsOf z) (rowsOf z).length [] 0 0)) → Qd v H') ∨ (NotStr K H0 x ∧ ∀ v H', Gr H0 H' → Dp K H' v (badD 0 0) → Qd v H'))
    (hok : ∀ l v H1, Gr H H1 → Dp K H1 v (.tuple l) → (∀ v H', Gr H1 H' → Dp K H' v (.list [.tuple l]) → Qd v H') → Q v H1)
    (hbad : ∀ (r e : Nat) (d : Addr) (H1 : Hp), Gr H H1 → H1 d = some (.xd [("word", .int e), ("row", .int r)]) → (∀ v H', Gr H1 H' → Dp K H' v (badD r e) → Qd v H') → E (.ref (He.ga K "BadRow")) (some d) H1) :
    (∃ z : Str, x = .str z ∧ z.length + 2 ≤ sizeLine ∧ RowsOk (rowsOf z) ∧ match allR (rowsOf z) (rowsOf z).length [] 0 0 with
      | .ok l => ∀ v H', Gr H H' → Dp K H' v (.tuple l) → Q v H'
      | .error (ri, e) => ExW K E (Gr H) ri e) ∨
    (NotStr K H x ∧ ExW K E (Gr H) 0 0) := by
  rcases h with ⟨z, rfl, hz, hok2, q⟩ | ⟨hns, q⟩
  · refine .inl ⟨z, rfl, hz, hok2, ?_⟩
    cases hrr : allR (rowsOf z) (rowsOf z).length [] 0 0 with
    | ok l =>
      rw [hrr] at q
      exact fun v H1 g1 dv => hok l v H1 g1 dv fun v H' g dv => q v H' ((g0.trans g1).trans g) dv
    | error e =>
      obtain ⟨e1, e2⟩ := e
      rw [hrr] at q
      exact fun d H1 g1 hd => hbad e1 e2 d H1 g1 hd fun v H' g dv => q v H' ((g0.trans g1).trans g) dv
  · exact .inr ⟨hns.gr g0, fun d H1 g1 hd => hbad 0 0 d H1 g1 hd fun v H' g dv => q v H' ((g0.trans g1).trans g) dv⟩
theorem sc_law_said : FnScope ["_law_text", "_law_found", "_law_error", "e", "_law_others"] ["_law_text"] (defScope s_law_said) := ⟨rfl, rfl, rfl, by decide +kernel, rfl, by decide +kernel, by decide +kernel⟩
theorem ok_law_said (T : Tx K mg) (F_read_program : Fn P w K mg base (L2.CX P w) 17 "read_program" ["text"] (sp_read_program K)) : Fn P w K mg base CX0 18 "_law_said" ["_law_text"] (sp_law_due K) := by
  refine Fn.of T.f_law_said sc_law_said (fun _ _ _ _ _ _ us hl => match us, hl with | [_], _ => rfl) (fun vs H Q E h => ?_) (fun f cdv A outer s H vs Q E hr h => ⟨_, PSs.nox (pss_cons (ps_asg (pe_tup (pa_cons pe_non (pa_cons pe_non pa_nil))) (pg_tup rfl (pgs_cons (pg_name (i := 1) sc_law_said.nd rfl (Or.inl rfl)) (pgs_cons (pg_name (i := 2) sc_law_said.nd rfl (Or.inl rfl)) pgs_nil))))
  (pss_cons (ps_try_tr (i := 3) rfl rfl rfl sc_law_said.nd rfl rfl ⟨rfl, by decide, .inl T.g_LoopError⟩ (fun W pn xe tk => (pss_one (ps_set (i := 1) sc_law_said.nd rfl (Or.inl rfl) (pe_fnX F_read_program (hr.mono (by omega)) tk (pa_cons (pv 0) pa_nil))))) (fun a pn => (pss_one (ps_set (i := 2) sc_law_said.nd rfl (Or.inl rfl) (pv 3)))))
  (pss_cons (ps_if (pt_cmpR op_isN (pv 2) pe_non (nomark _)) (pss_one (ps_ret (pe_lst (pa_cons (pv 1) pa_nil)))) pss_nil)
  (pss_cons (ps_set (i := 4) sc_law_said.nd rfl (Or.inl rfl) (pe_callB (call_isiTE T) (by rfl) T.b_isinstance (by decide +kernel) (pa_cons (pv 2) (pa_cons (pe_tup (pa_cons (pe_gv (v := .ref _) ⟨_, T.g_BadLoop, rfl⟩) (pa_cons (pe_gv (v := .ref _) ⟨_, T.g_BadPaper, rfl⟩) (pa_cons (pe_gv (v := .ref _) ⟨_, T.g_BadQuestion, rfl⟩) (pa_cons (pe_gv (v := .ref _) ⟨_, T.g_Hindered, rfl⟩) (pa_cons (pe_gv (v := .ref _) ⟨_, T.g_OutOfPlace, rfl⟩) (pa_cons (pe_gv (v := .ref _) ⟨_, T.g_TooGreat, rfl⟩) pa_nil))))))) pa_nil))))
  (pss_cons (ps_if (pt_cut (PW.pt (pw_or (pt_val (pv 4)) (pw_or (pt_not (pt_val (pe_callB (call_isiE T) (by rfl) T.b_isinstance (by decide +kernel) (pa_cons (pv 2) (pa_cons (pe_gv (v := .ref _) ⟨_, T.g_BadRow, rfl⟩) pa_nil))))) (pw_or1 (pt_not (pt_val (pe_callB (call_isiE T) (by rfl) T.b_isinstance (by decide +kernel) (pa_cons (pv 2) (pa_cons (pe_bltn (by rfl) T.b_ValueError (v := .ty "ValueError") (u := .type "ValueError") (by decide +kernel) (by rfl)) pa_nil)))))))))) (pss_one (ps_ret pe_str)) pss_nil)
  (pss_one (ps_ret (pe_tup (pa_cons pe_str (pa_cons (pe_xrow T (pv 2) rfl) (pa_cons (pe_xword T (pv 2) rfl) pa_nil))))))))))), ?_⟩)
  · obtain ⟨x, rfl, _⟩ := h
    rfl
  · obtain ⟨x, rfl, h⟩ := h
    refine ⟨by show 2 ≤ sizeLine; decide, fun p0 hp0 => ?_⟩
    have g0 := Gr.new (o := .tup [.non, .non]) hp0
    have st0 : SqT K (upd H p0 (.tup [.non, .non])) p0 [.non, .non] := st_of upd_same
    generalize upd H p0 (.tup [.non, .non]) = H0 at g0 st0
    refine ⟨p0, _, rfl, st0, rfl, _, _, rfl, _, _, rfl, rfl, ?_⟩
    refine ⟨_, rfl, x, rfl, ?_⟩
    refine read_split g0 h (fun l v H1 g1 dv q => ?_) (fun r e d H1 g1 hd q => ?_)
    · refine ⟨_, rfl, rfl, _, rfl, iteT rfl ⟨_, rfl, by show 1 ≤ sizeLine; decide, fun t ht => q _ _ (Gr.new ht) (.lst (sl_of upd_same) (.cons (Dp.gr (Gr.new ht) _ _ dv) .nil))⟩⟩
    · refine ⟨_, d, rfl, rfl, T.exm, fun a ha => ?_⟩
      have ex : IsEx K (upd H1 a (exr a (He.ga K "BadRow") d)) (.ref a) [("word", .int e), ("row", .int r)] := ⟨a, d, rfl, upd_same, by rw [upd_ne (ne_of_none hd ha)]; exact hd⟩
      have g2 := Gr.new (o := exr a (He.ga K "BadRow") d) ha
      generalize upd H1 a (exr a (He.ga K "BadRow") d) = H2 at ex g2
      have F := T.ef
      refine ⟨_, rfl, ?_⟩
      refine ⟨_, rfl, rfl, _, rfl, iteF rfl ?_⟩
      refine ⟨_, rfl, by show 6 ≤ sizeLine; decide, fun u hu => ?_⟩
      have g3 := Gr.new (o := .tup [.ref (He.ga K "BadLoop"), .ref (He.ga K "BadPaper"), .ref (He.ga K "BadQuestion"), .ref (He.ga K "Hindered"), .ref (He.ga K "OutOfPlace"), .ref (He.ga K "TooGreat")]) hu
      have ex3 := ex.gr g3
      refine ⟨.ref a, u, _, _, _, false, rfl, upd_same, .cons (.own _) (.cons (.own _) (.cons (.own _) (.cons (.own _) (.cons (.own _) (.cons (.own _) .nil))))), ex3, F.others, ?_⟩
      generalize upd H2 u (.tup [.ref (He.ga K "BadLoop"), .ref (He.ga K "BadPaper"), .ref (He.ga K "BadQuestion"), .ref (He.ga K "Hindered"), .ref (He.ga K "OutOfPlace"), .ref (He.ga K "TooGreat")]) = H3 at g3 ex3
      refine ⟨fun z H' => z = false ∧ H' = H3, ?_, fun z H' hz => ?_⟩
      · refine ⟨_, rfl, false, rfl, iteF rfl ?_⟩
        refine ⟨_, rfl, .ref a, .ref (He.ga K "BadRow"), .ref (He.ga K "BadRow"), _, true, rfl, .own _, ex3, F.own, true, rfl, iteF rfl ?_⟩
        refine ⟨_, rfl, .ref a, .ty "ValueError", .type "ValueError", _, true, rfl, .ty _, ex3, F.ve, true, rfl, rfl, rfl⟩
      · obtain ⟨rfl, rfl⟩ := hz
        refine iteF rfl ?_
        refine ⟨_, rfl, _, .int r, ex3, ?_, _, rfl, _, .int e, ex3, ?_, by show 3 ≤ sizeLine; decide, fun t ht => ?_⟩
        · rw [List.lookup_cons, show (("row" : Str) == ("word" : Str)) = false by decide +kernel, List.lookup_cons, beq_self_eq_true]
        · rw [List.lookup_cons, beq_self_eq_true]
        · have gt := Gr.new (o := .tup [.str "row", .int r, .int e]) ht
          exact q _ _ ((g2.trans g3).trans gt) (.tup (st_of upd_same) (.cons (.str _) (.cons (.int _) (.cons (.int _) .nil))))
end
end K86
set_option Elab.async false
set_option linter.all false
set_option maxRecDepth 100000
set_option maxHeartbeats 4000000
/-! how long what is read gets, shown -/
namespace K86
open PySem PySem.Spec PyProof.Rows L2
/-- shown in so many signs, so deep -/
structure Fit (d : PyData) (b e : Nat) : Prop where
  s : d.showable = true
  n : d.hasDict = false
  l : d.shown.length ≤ b
  e : d.depth ≤ e
structure FitL (ds : List PyData) (b e : Nat) : Prop where
  s : PyData.showableAll ds = true
  n : PyData.hasDictAll ds = false
  l : piled (PyData.shownAll ds) ≤ b
  e : PyData.depthAll ds ≤ e
theorem Fit.mono {d : PyData} {b e b' e' : Nat} (h : Fit d b e) (h1 : b ≤ b') (h2 : e ≤ e') : Fit d b' e' := ⟨h.s, h.n, Nat.le_trans h.l h1, Nat.le_trans h.e h2⟩
theorem FitL.mono {d : List PyData} {b e b' e' : Nat} (h : FitL d b e) (h1 : b ≤ b') (h2 : e ≤ e') : FitL d b' e' := ⟨h.s, h.n, Nat.le_trans h.l h1, Nat.le_trans h.e h2⟩
theorem FitL.nil (e : Nat) : FitL [] 0 e := ⟨rfl, rfl, Nat.le_refl _, Nat.zero_le _⟩
theorem FitL.cons {d : PyData} {ds : List PyData} {b c e : Nat} (h : Fit d b e) (g : FitL ds c e) : FitL (d :: ds) (b + 2 + c) e := by
  refine ⟨?_, ?_, ?_, ?_⟩
  · rw [PyData.showableAll, h.s, g.s] <;> rfl
  · rw [PyData.hasDictAll, h.n, g.n] <;> rfl
  · rw [PyData.shownAll, piled_cons]
    have := h.l
    have := g.l
    omega
  · rw [PyData.depthAll]
    exact Nat.max_le.mpr ⟨h.e, g.e⟩
theorem FitL.app {ds es : List PyData} {b c e : Nat} (h : FitL ds b e) (g : FitL es c e) : FitL (ds ++ es) (b + c) e := by
  have key : ∀ (ds : List PyData), PyData.showableAll ds = true → PyData.hasDictAll ds = false → PyData.depthAll ds ≤ e → PyData.showableAll (ds ++ es) = true ∧ PyData.hasDictAll (ds ++ es) = false ∧ PyData.depthAll (ds ++ es) ≤ e ∧ piled (PyData.shownAll (ds ++ es)) = piled (PyData.shownAll ds) + piled (PyData.shownAll es) := by
    intro ds
    induction ds with
    | nil =>
      intro _ _ _
      exact ⟨g.s, g.n, g.e, by rw [List.nil_append, PyData.shownAll, piled_nil, Nat.zero_add]⟩
    | cons x ds ih =>
      intro a1 a2 a3
      rw [PyData.showableAll, Bool.and_eq_true_iff] at a1
      rw [PyData.hasDictAll, Bool.or_eq_false_iff] at a2
      rw [PyData.depthAll] at a3
      obtain ⟨b1, b2, b3, b4⟩ := ih a1.2 a2.2 (Nat.max_le.mp a3).2
      rw [List.cons_append]
      refine ⟨?_, ?_, ?_, ?_⟩
      · rw [PyData.showableAll, a1.1, b1] <;> rfl
      · rw [PyData.hasDictAll, a2.1, b2] <;> rfl
      · rw [PyData.depthAll]
        exact Nat.max_le.mpr ⟨(Nat.max_le.mp a3).1, b3⟩
      · rw [PyData.shownAll, PyData.shownAll, piled_cons, piled_cons, b4]
        omega
  obtain ⟨k1, k2, k3, k4⟩ := key ds h.s h.n h.e
  refine ⟨k1, k2, ?_, k3⟩
  rw [k4]
  exact Nat.add_le_add h.l g.l
theorem tupleText_le (ts : List Str) : (tupleText ts).length ≤ piled ts + 2 := by
  unfold tupleText
  rw [PySem.strLen_append, PySem.strLen_append]
  have e1 : (("(" : String) : Str).length = 1 := rfl
  cases ts with
  | nil =>
    show _ + (Str.join ", " ([] : List Str)).length + _ ≤ _
    decide +kernel
  | cons x r =>
    have h := join_length_add (x :: r) (by simp)
    have e2 : (((if (x :: r).length == 1 then ",)" else ")" : String)) : Str).length ≤ 2 := by
      split <;> decide +kernel
    have e3 : (("(" : Str)).length = 1 := rfl
    omega
theorem listText_le (ts : List Str) : (listText ts).length ≤ piled ts + 2 := by
  unfold listText
  rw [PySem.strLen_append]
  cases ts with
  | nil => decide +kernel
  | cons x r =>
    show (textFrom 1 _ r).length + _ ≤ _
    rw [textFrom_length_pos r 1 _ (by decide), PySem.strLen_append, PySem.strLen_append, piled_cons]
    have e1 : (("[" : Str)).length = 1 := rfl
    have e2 : (((if (0 : Nat) > 0 then ", " else "" : String)) : Str).length = 0 := rfl
    have e3 : (("]" : Str)).length = 1 := rfl
    omega
theorem Fit.tup {ds : List PyData} {b e : Nat} (h : FitL ds b e) : Fit (.tuple ds) (b + 2) (e + 1) := by
  refine ⟨?_, ?_, ?_, ?_⟩
  · rw [PyData.showable]
    exact h.s
  · rw [PyData.hasDict]
    exact h.n
  · rw [PyData.shown]
    exact Nat.le_trans (tupleText_le _) (Nat.add_le_add_right h.l 2)
  · rw [PyData.depth]
    have := h.e
    omega
theorem Fit.lst {ds : List PyData} {b e : Nat} (h : FitL ds b e) : Fit (.list ds) (b + 2) (e + 1) := by
  refine ⟨?_, ?_, ?_, ?_⟩
  · rw [PyData.showable]
    exact h.s
  · rw [PyData.hasDict]
    exact h.n
  · rw [PyData.shown]
    exact Nat.le_trans (listText_le _) (Nat.add_le_add_right h.l 2)
  · rw [PyData.depth]
    have := h.e
    omega
theorem FitL.all {b e : Nat} : ∀ {ds : List PyData}, (∀ d ∈ ds, Fit d b e) → FitL ds (ds.length * (b + 2)) e
  | [], _ => (FitL.nil e).mono (Nat.zero_le _) (Nat.le_refl _)
  | d :: ds, h => by
    have := FitL.cons (h d List.mem_cons_self) (FitL.all fun x hx => h x (List.mem_cons_of_mem _ hx))
    refine this.mono ?_ (Nat.le_refl _)
    rw [List.length_cons, Nat.add_mul]
    omega
theorem FitL.many {b e k : Nat} {ds : List PyData} (h : ∀ d ∈ ds, Fit d b e) (hl : ds.length ≤ k) : FitL ds (k * (b + 2)) e := (FitL.all h).mono (Nat.mul_le_mul_right _ hl) (Nat.le_refl _)
/-- by what each costs -/
theorem FitL.sum {α : Type} {f : α → PyData} {c : α → Nat} {e : Nat} : ∀ {l : List α}, (∀ x ∈ l, Fit (f x) (c x) e) → FitL (l.map f) ((l.map fun x => c x + 2).sum) e
  | [], _ => FitL.nil e
  | x :: l, h => by
    rw [List.map_cons, List.map_cons, List.sum_cons]
    exact FitL.cons (h x List.mem_cons_self) (FitL.sum fun y hy => h y (List.mem_cons_of_mem _ hy))
theorem Fit.int {i : Int} {k e : Nat} (hk : 0 < k) (h : i.natAbs < 10 ^ k) (hk2 : k ≤ 500) : Fit (.int i) (k + 1) e := by
  refine ⟨?_, rfl, ?_, ?_⟩
  · rw [PyData.showable]
    refine decide_eq_true ?_
    have h2 : i.natAbs < 2 ^ 1920 := by
      refine Nat.lt_trans h (Nat.lt_of_le_of_lt (Nat.pow_le_pow_right (by decide) hk2) ?_)
      decide +kernel
    by_cases h0 : i.natAbs = 0
    · rw [h0]
      decide
    · exact (Nat.log2_lt h0).mpr h2
  · rw [PyData.shown]
    show (Str.ofString (toString i)).length ≤ _
    have l := TL.numL_len hk h
    rw [len_tl, tl_int, List.length_append]
    split <;> simp <;> omega
  · rw [PyData.depth]
    exact Nat.zero_le _
theorem repr_low : ∀ (l : List Nat) (q n : Nat), (q = 39 ∨ q = 34) → (∀ c ∈ l, lowC c = true) → l.foldl (fun n c => n + (Builtin.Str.reprChar q c).length) n = n + l.length
  | [], _, n, _, _ => rfl
  | c :: r, q, n, hq, h => by
    have e : (Builtin.Str.reprChar q c).length = 1 := by
      have key : ∀ i : Fin 26, (Builtin.Str.reprChar 39 (97 + i.val)).length = 1 ∧ (Builtin.Str.reprChar 34 (97 + i.val)).length = 1 := by decide +kernel
      have hc := h c List.mem_cons_self
      unfold lowC at hc
      rw [Bool.and_eq_true_iff] at hc
      have h1 := of_decide_eq_true hc.1
      have h2 := of_decide_eq_true hc.2
      have := key ⟨c - 97, by omega⟩
      rw [show 97 + (c - 97) = c by omega] at this
      rcases hq with e | e
      · rw [e]; exact this.1
      · rw [e]; exact this.2
    rw [List.foldl_cons, e, repr_low r q (n + 1) hq fun d hd => h d (List.mem_cons_of_mem _ hd), List.length_cons]
    omega
theorem Fit.name {y : Str} {e : Nat} (h : isN y = true) : Fit (.str y) 10 e := by
  refine ⟨rfl, rfl, ?_, ?_⟩
  · rw [PyData.shown]
    have hn : nameL (tl y) = true := h
    unfold nameL at hn
    simp only [Bool.and_eq_true, decide_eq_true_eq, List.all_eq_true] at hn
    have e2 := PySem.reprLen_eq y
    rw [← Array.foldl_toList] at e2
    rw [← e2]
    have hq : PySem.reprQuote y = 39 ∨ PySem.reprQuote y = 34 := by
      unfold PySem.reprQuote
      split
      · exact .inr rfl
      · exact .inl rfl
    have := repr_low (tl y) (PySem.reprQuote y) 2 hq hn.2
    show (tl y).foldl _ 2 ≤ 10
    rw [this]
    omega
  · rw [PyData.depth]
    exact Nat.zero_le _
theorem Fit.lit {y : Str} {e : Nat} (h : decide ((reprText y).length ≤ 10) = true) : Fit (.str y) 10 e := by
  refine ⟨rfl, rfl, ?_, ?_⟩
  · rw [PyData.shown]
    exact of_decide_eq_true h
  · rw [PyData.depth]
    exact Nat.zero_le _
/-! ### monos, polys -/
def OkMo (m : Mo) : Prop := m.length ≤ 12 ∧ ∀ x ∈ m, isN x.1 = true ∧ x.2.natAbs < 10 ^ 2
theorem okMo_of {r : List Str} (h : (decide (r.length ≤ 12) && r.all isN) = true) : OkMo (moOf r) := by
  simp only [Bool.and_eq_true, decide_eq_true_eq, List.all_eq_true] at h
  refine ⟨Nat.le_trans (moOf_len r) h.1, fun x hx => ?_⟩
  obtain ⟨h1, h2⟩ := ((moOf_ok r).2 x.1 x.2).mp hx
  refine ⟨h.2 _ h1, ?_⟩
  have := List.count_le_length (a := x.1) (l := r)
  rw [h2]
  have h100 : (10 : Nat) ^ 2 = 100 := rfl
  omega
theorem fit_mono {m : Mo} (h : OkMo m) : Fit (monoD m) 254 2 := by
  refine (Fit.tup (FitL.many (b := 19) (e := 1) (k := 12) (fun d hd => ?_) (by rw [List.length_map]; exact h.1))).mono (by decide) (Nat.le_refl _)
  obtain ⟨x, hx, rfl⟩ := List.mem_map.mp hd
  obtain ⟨h1, h2⟩ := h.2 x hx
  exact (Fit.tup (FitL.cons (Fit.name h1) (FitL.cons (Fit.int (by decide) h2 (by decide)) (FitL.nil 0)))).mono (by decide) (Nat.le_refl _)
theorem termT_mo {z : Str} {t : Mo × Int} (h : termT z = some t) : OkMo t.1 := by
  unfold termT at h
  split at h
  · cases h
  · split at h
    · cases h
    · split at h
      · rename_i c
        cases h
        exact okMo_of c
      · cases h
theorem pairU_mo {z : Str} {t : Kd × Int × Int} (h : pairU z = some t) : OkMo t.1.1 := by
  unfold pairU at h
  split at h
  · cases h
  · unfold pairOf at h
    split at h
    · cases h
    · split at h
      · rename_i q c m _ _ hm
        cases h
        unfold moT at hm
        split at hm
        · rename_i c
          cases hm
          exact okMo_of c
        · cases hm
      · cases h
theorem upA_keysOf {κ β : Type} [DecidableEq κ] {p : κ → Prop} {l : List (κ × β)} {k : κ} {f : Option β → β} (h : ∀ x ∈ l, p x.1) (hk : p k) : ∀ x ∈ upA l k f, p x.1 := fun x hx => by
  rcases upA_mem hx with e | e
  · rw [e]
    exact hk
  · exact h x e
theorem addP_mo : ∀ (ts : List (Mo × Int)) (l : List (Mo × Int)), (∀ x ∈ l, OkMo x.1) → (∀ t ∈ ts, OkMo t.1) → ∀ x ∈ ts.foldl addP l, OkMo x.1
  | [], l, h, _ => h
  | t :: ts, l, h, ht => addP_mo ts (addP l t) (upA_keysOf h (ht t List.mem_cons_self)) fun u hu => ht u (List.mem_cons_of_mem _ hu)
theorem terms_half {τ : Type} {term : Str → Option τ} : ∀ (n : Nat) (ws : List Str) (i : Nat) (ts : List τ), ws.length ≤ n → terms term ws i = .ok ts → 2 * ts.length ≤ ws.length + 1
  | _, [], i, ts, _, e => by cases e
  | 0, w :: r, i, ts, hn, _ => by simp at hn
  | n + 1, w :: r, i, ts, hn, e => by
    cases q : term w with
    | none => rw [terms_none q] at e; cases e
    | some t =>
      rw [terms_some q] at e
      cases r with
      | nil => cases e; simp
      | cons y r =>
        unfold termsB at e
        dsimp only at e
        by_cases q2 : y = "+"
        · rw [if_pos q2] at e
          cases q3 : terms term r (i + 1 + 1) with
          | error x => rw [q3] at e; cases e
          | ok us =>
            rw [q3] at e
            cases e
            have := terms_half n r _ us (by simp at hn; omega) q3
            simp
            omega
        · rw [if_neg q2] at e
          cases e
theorem fit_poly {ws : List Str} {i : Nat} {d : PyData} (hw : ws.length ≤ 20) (h : polyR ws i = .ok d) : Fit d 3060 4 := by
  unfold polyR polyW at h
  cases q : terms termT (ws.drop i) i with
  | error e => rw [q] at h; cases h
  | ok ts =>
    rw [q] at h
    cases h
    obtain ⟨hts, _⟩ := terms_all (p := fun t => t.2.natAbs < 10 ^ 40 ∧ OkMo t.1) (fun z t h => ⟨termT_lt h, termT_mo h⟩) _ _ _ _ (Nat.le_refl _) q
    have hh := terms_half _ _ _ _ (Nat.le_refl _) q
    rw [List.length_drop] at hh
    have ok := addP_all fun t ht => (hts t ht).1
    have om := addP_mo ts [] (fun x hx => by cases hx) fun t ht => (hts t ht).2
    have ln : (polyOf (ts.foldl addP [])).length ≤ 10 := by
      unfold polyOf
      rw [len_srtP]
      exact Nat.le_trans (List.length_filter_le _ _) (Nat.le_trans ok.1 (by omega))
    have hm : ∀ x ∈ polyOf (ts.foldl addP []), x ∈ ts.foldl addP [] := fun x hx => (List.mem_filter.mp (mem_srtP.mp hx)).1
    refine (Fit.tup (FitL.many (b := 303) (e := 3) (k := 10) (fun d hd => ?_) (by rw [List.length_map]; exact ln))).mono (by decide) (Nat.le_refl _)
    obtain ⟨x, hx, rfl⟩ := List.mem_map.mp hd
    have hx' := hm x hx
    have h2 : x.2.natAbs < 10 ^ 42 := by
      refine Nat.lt_of_le_of_lt (ok.2.2 x hx') (Nat.lt_of_le_of_lt (Nat.mul_le_mul_right _ (by omega : ts.length ≤ 10)) ?_)
      decide +kernel
    exact (Fit.tup (FitL.cons (fit_mono (om x hx')) (FitL.cons (Fit.int (by decide) h2 (by decide)) (FitL.nil 2)))).mono (by decide) (Nat.le_refl _)
end K86
set_option Elab.async false
set_option linter.all false
set_option maxRecDepth 100000
set_option maxHeartbeats 4000000
/-! forms, rows, programs: how long, shown -/
namespace K86
open PySem PySem.Spec PyProof.Rows L2
theorem pairU_place {z : Str} {t : Kd × Int × Int} (h : pairU z = some t) : t.1.2.1.natAbs < 10 ^ 2 := by
  have hk := (pairU_kind h).1
  have h0 : 0 ≤ t.1.2.1 := by
    unfold pairU at h
    split at h
    · cases h
    · rename_i u v _
      unfold pairOf at h
      split at h
      · cases h
      · rename_i a r _
        cases q1 : shareU (tl a) with
        | none => rw [q1] at h; cases h
        | some s =>
          cases q2 : countU (tl (mkS v)) with
          | none => rw [q1, q2] at h; cases h
          | some c =>
            cases q3 : moT r with
            | none => rw [q1, q2, q3] at h; cases h
            | some m =>
              rw [q1, q2, q3] at h
              cases h
              show 0 ≤ c.1
              unfold countU at q2
              split at q2
              · split at q2
                · split at q2
                  · split at q2
                    · rename_i hn
                      cases q2
                      exact hn.1
                    · cases q2
                  · cases q2
                · cases q2
              · cases q2
  have : (10 : Nat) ^ 2 = 100 := rfl
  omega
/-- entries, each of so many terms -/
inductive Kn : List (Kd × Int × Int) → Nat → Prop
  | nil : Kn [] 0
  | cons {x : Kd × Int × Int} {r : List (Kd × Int × Int)} {k n : Nat} : 0 < x.2.2 → x.2.2.natAbs ≤ 10 ^ (40 * k) → x.2.1.natAbs ≤ k * 10 ^ (40 * k) → Kn r n → Kn (x :: r) (k + n)
theorem Kn.add {t : Kd × Int × Int} (ht : 0 < t.2.2 ∧ t.2.1.natAbs < 10 ^ 40 ∧ t.2.2.natAbs < 10 ^ 40) : ∀ {l : List (Kd × Int × Int)} {n : Nat}, Kn l n → Kn (addQ l t) (n + 1)
  | _, _, .nil => by
    obtain ⟨a, b, c⟩ := addF_le (x := (0, 1)) (y := t.2) (k := 0) (by decide) ht.1 (by decide) (by decide) ht.2.1 ht.2.2
    have := Kn.cons (x := (t.1, addF (0, 1) t.2)) (k := 1) (n := 0) a b c .nil
    exact this
  | _, _, .cons (x := x) (r := r) (k := k) (n := n) h1 h2 h3 h => by
    unfold addQ
    rw [upA]
    by_cases e : x.1 = t.1
    · rw [if_pos e]
      obtain ⟨a, b, c⟩ := addF_le (x := x.2) (y := t.2) (k := k) h1 ht.1 h2 h3 ht.2.1 ht.2.2
      have := Kn.cons (x := (t.1, addF x.2 t.2)) (k := k + 1) (n := n) a b c h
      rw [show k + n + 1 = k + 1 + n by omega]
      exact this
    · rw [if_neg e, show k + n + 1 = k + (n + 1) by omega]
      exact .cons h1 h2 h3 (Kn.add ht h)
theorem Kn.fold : ∀ (ts : List (Kd × Int × Int)) {l : List (Kd × Int × Int)} {n : Nat}, Kn l n → (∀ t ∈ ts, 0 < t.2.2 ∧ t.2.1.natAbs < 10 ^ 40 ∧ t.2.2.natAbs < 10 ^ 40) → Kn (ts.foldl addQ l) (n + ts.length)
  | [], _, _, h, _ => h
  | t :: ts, l, n, h, ht => by
    have := Kn.fold ts (h.add (ht t List.mem_cons_self)) fun u hu => ht u (List.mem_cons_of_mem _ hu)
    rw [List.foldl_cons, List.length_cons, show n + (ts.length + 1) = n + 1 + ts.length by omega]
    exact this
theorem Kn.filt {p : Kd × Int × Int → Bool} : ∀ {l : List (Kd × Int × Int)} {n : Nat}, Kn l n → ∃ m, m ≤ n ∧ Kn (l.filter p) m
  | _, _, .nil => ⟨0, Nat.le_refl _, .nil⟩
  | _, _, .cons (x := x) (r := r) (k := k) (n := n) h1 h2 h3 h => by
    obtain ⟨m, hm, h'⟩ := h.filt
    rw [List.filter_cons]
    split
    · exact ⟨k + m, by omega, .cons h1 h2 h3 h'⟩
    · exact ⟨m, by omega, h'⟩
def OkKd (k : Kd) : Prop := OkMo k.1 ∧ k.2.1.natAbs < 10 ^ 2 ∧ k.2.2.natAbs < 10 ^ 40
theorem fit_kd {k : Kd} (h : OkKd k) : Fit (kindD k) 306 3 :=
  (Fit.tup (FitL.cons (fit_mono h.1) (FitL.cons (Fit.int (by decide) h.2.1 (by decide)) (FitL.cons (Fit.int (by decide) h.2.2 (by decide)) (FitL.nil 2))))).mono (by decide) (Nat.le_refl _)
theorem Kn.cost {l : List (Kd × Int × Int)} {n : Nat} (h : Kn l n) (hn : n ≤ 12) (ok : ∀ x ∈ l, OkKd x.1) : (∀ x ∈ l, Fit (fermD x) (fermD x).shown.length 4) ∧ (l.map fun x => (fermD x).shown.length + 2).sum ≤ 325 * l.length + 80 * n := by
  induction h with
  | nil => exact ⟨(fun x hx => by cases hx), Nat.zero_le _⟩
  | @cons x r k n h1 h2 h3 h ih =>
    obtain ⟨i1, i2⟩ := ih (by omega) fun y hy => ok y (List.mem_cons_of_mem _ hy)
    have hp : 10 ^ (40 * k) < 10 ^ (40 * k + 1) := Nat.pow_lt_pow_right (by decide) (by omega)
    have hp2 : k * 10 ^ (40 * k) < 10 ^ (40 * k + 2) := by
      rw [Nat.pow_add, Nat.mul_comm]
      refine Nat.mul_lt_mul_of_pos_left ?_ (Nat.pow_pos (by decide))
      have : (10 : Nat) ^ 2 = 100 := rfl
      omega
    have f : Fit (fermD x) (80 * k + 323) 4 := by
      have fs : Fit (shareD x.2) (80 * k + 11) 3 := (Fit.tup (FitL.cons (Fit.int (by omega) (Nat.lt_of_le_of_lt h3 hp2) (by omega)) (FitL.cons (Fit.int (by omega) (Nat.lt_of_le_of_lt h2 hp) (by omega)) (FitL.nil 0)))).mono (by omega) (by decide)
      exact (Fit.tup (FitL.cons (fit_kd (ok x List.mem_cons_self)) (FitL.cons fs (FitL.nil 3)))).mono (by omega) (Nat.le_refl _)
    refine ⟨fun y hy => ?_, ?_⟩
    · rcases List.mem_cons.mp hy with e | e
      · rw [e]
        exact ⟨f.s, f.n, Nat.le_refl _, f.e⟩
      · exact i1 y e
    · rw [List.map_cons, List.sum_cons, List.length_cons]
      have := f.l
      omega
theorem addQ_kd : ∀ (ts : List (Kd × Int × Int)) (l : List (Kd × Int × Int)), (∀ x ∈ l, OkKd x.1) → (∀ t ∈ ts, OkKd t.1) → ∀ x ∈ ts.foldl addQ l, OkKd x.1
  | [], l, h, _ => h
  | t :: ts, l, h, ht => addQ_kd ts (addQ l t) (upA_keysOf h (ht t List.mem_cons_self)) fun u hu => ht u (List.mem_cons_of_mem _ hu)
theorem fit_form {ws : List Str} {i : Nat} {d : PyData} (hw : ws.length ≤ 20) (h : formR ws i = .ok d) : Fit d 4060 5 := by
  unfold formR formW at h
  by_cases h0 : (ws.drop i).take 1 = [("0" : Str)]
  · rw [if_pos h0] at h
    split at h
    · rename_i e
      split at e
      · cases e
        cases h
        exact (Fit.tup (FitL.nil 0)).mono (by decide) (by decide)
      · cases e
    · cases h
  rw [if_neg h0] at h
  cases q : terms pairU (ws.drop i) i with
  | error e => rw [q] at h; cases h
  | ok ts =>
    rw [q] at h
    cases h
    obtain ⟨hts, _⟩ := terms_all (p := fun t => (0 < t.2.2 ∧ t.2.1.natAbs < 10 ^ 40 ∧ t.2.2.natAbs < 10 ^ 40) ∧ OkKd t.1) (fun z t h => ⟨pairU_lt h, pairU_mo h, pairU_place h, (pairU_kind h).2⟩) _ _ _ _ (Nat.le_refl _) q
    have hh := terms_half _ _ _ _ (Nat.le_refl _) q
    rw [List.length_drop] at hh
    have kn := Kn.fold ts .nil fun t ht => (hts t ht).1
    rw [Nat.zero_add] at kn
    have ok := addQ_kd ts [] (fun x hx => by cases hx) fun t ht => (hts t ht).2
    obtain ⟨m, hm, kf⟩ := kn.filt (p := fun x => !decide (x.2.1 = 0))
    have okf : ∀ x ∈ (ts.foldl addQ []).filter fun x => !decide (x.2.1 = 0), OkKd x.1 := fun x hx => ok x (List.mem_filter.mp hx).1
    obtain ⟨c1, c2⟩ := kf.cost (by omega) okf
    have lf : ∀ {l : List (Kd × Int × Int)} {n : Nat}, Kn l n → True := fun _ => trivial
    have ln : ((ts.foldl addQ []).filter fun x => !decide (x.2.1 = 0)).length ≤ 10 := by
      refine Nat.le_trans (List.length_filter_le _ _) ?_
      have : ∀ (ts l : List (Kd × Int × Int)), (ts.foldl addQ l).length ≤ l.length + ts.length := by
        intro ts
        induction ts with
        | nil => exact fun l => Nat.le_refl _
        | cons t ts ih =>
          intro l
          have := ih (addQ l t)
          have h2 := upA_len t.1 (fun o => addF (o.getD (0, 1)) t.2) l
          rw [List.foldl_cons, List.length_cons]
          unfold addQ at this ⊢
          omega
      have := this ts []
      simp at this
      omega
    show Fit (formD (srtF ((ts.foldl addQ []).filter fun x => !decide (x.2.1 = 0)))) 4060 5
    generalize (ts.foldl addQ []).filter (fun x => !decide (x.2.1 = 0)) = l at c1 c2 ln ⊢
    have pm : (srtF l).Perm l := List.mergeSort_perm _ _
    have c1' : ∀ x ∈ srtF l, Fit (fermD x) (fermD x).shown.length 4 := fun x hx => c1 x (mem_srtF.mp hx)
    have e2 : ((srtF l).map fun x => (fermD x).shown.length + 2).sum = (l.map fun x => (fermD x).shown.length + 2).sum := List.Perm.sum_nat (pm.map _)
    have key : ((srtF l).map fun x => (fun x => (fermD x).shown.length) x + 2).sum + 2 ≤ 4060 := by
      show ((srtF l).map fun x => (fermD x).shown.length + 2).sum + 2 ≤ 4060
      omega
    exact (Fit.tup (FitL.sum (c := fun x => (fermD x).shown.length) c1')).mono key (Nat.le_refl _)
/-! ### rows -/
theorem nextW_ws {rows : List Str} (hok : RowsOk rows) {i : Nat} {ws : List Str} {hd : Str} (h : nextW rows i = .ok (ws, hd)) : ws.length ≤ 20 ∧ (hd = Str.empty → isN (ws.headD Str.empty) = true) := by
  unfold nextW at h
  cases q : rows[i]? with
  | none => rw [q] at h; cases h
  | some z =>
    have lz : (splitB z).length ≤ 20 := by
      rw [splitB_len]
      have := (hok.2 z (List.mem_of_getElem? q)).k
      omega
    rw [q] at h
    dsimp only at h
    split at h
    · cases h
    · split at h
      · split at h
        · rename_i h3
          cases h
          exact ⟨lz, fun _ => h3⟩
        · cases h
      · split at h
        · rename_i h3
          have e1 := congrArg (fun x => x.1) (Except.ok.inj h)
          have e2 := congrArg (fun x => x.2) (Except.ok.inj h)
          dsimp only at e1 e2
          refine ⟨by rw [← e1]; exact lz, fun e => ?_⟩
          rw [e2, e] at h3
          exact absurd h3 (by decide +kernel)
        · cases h
theorem pairsR_fit {rows : List Str} (hok : RowsOk rows) {last : Str} {most B : Nat} {rd : List Str → Nat → Except Nat PyData} (hrd : ∀ ws i d, ws.length ≤ 20 → rd ws i = .ok d → Fit d B 5) :
    ∀ (n : Nat) {acc : List (Str × PyData)} {i i' : Nat} {l : List (Str × PyData)}, acc.length ≤ most → (∀ x ∈ acc, Fit (prD x) (B + 16) 6) → pairsR rows last most rd n acc i = .ok (l, i') → l.length ≤ most ∧ ∀ x ∈ l, Fit (prD x) (B + 16) 6
  | 0, acc, i, i', l, _, _, h => by
    rw [pairsR] at h
    cases h
  | n + 1, acc, i, i', l, hl, ha, h => by
    rw [pairsR] at h
    split at h
    · cases h
    · rename_i ws hd hn
      split at h
      · rename_i e0
        split at h
        · rename_i hg
          split at h
          · cases h
          · rename_i d q
            obtain ⟨w1, w2⟩ := nextW_ws hok hn
            refine pairsR_fit hok hrd n (acc := acc ++ [(ws.headD Str.empty, d)]) ?_ (fun x hx => ?_) h
            · have := of_decide_eq_true (Bool.and_eq_true_iff.mp hg).1
              rw [List.length_append]
              simp
              omega
            · rcases List.mem_append.mp hx with hx | hx
              · exact ha x hx
              · rw [List.mem_singleton.mp hx]
                exact (Fit.tup (FitL.cons (Fit.name (w2 e0)) (FitL.cons (hrd _ _ _ w1 q) (FitL.nil 5)))).mono (by omega) (Nat.le_refl _)
        · cases h
      · split at h
        · split at h
          · cases h
            exact ⟨hl, ha⟩
          · cases h
        · cases h
theorem fit_pairsD {l : List (Str × PyData)} {B k : Nat} (hl : l.length ≤ k) (h : ∀ x ∈ l, Fit (prD x) (B + 16) 6) : Fit (pairsD l) (k * (B + 18) + 2) 7 := by
  refine Fit.tup (FitL.many (b := B + 16) (k := k) (fun d hd => ?_) (by rw [List.length_map]; exact hl))
  obtain ⟨x, hx, rfl⟩ := List.mem_map.mp hd
  exact h x hx
def KB : Nat := 190000
theorem lit_set (e : Nat) : Fit (.str "set") 10 e := Fit.lit (by decide +kernel)
theorem lit_both (e : Nat) : Fit (.str "both") 10 e := Fit.lit (by decide +kernel)
theorem lit_loop (e : Nat) : Fit (.str "loop") 10 e := Fit.lit (by decide +kernel)
theorem lit_jump (e : Nat) : Fit (.str "jump") 10 e := Fit.lit (by decide +kernel)
theorem lit_row (e : Nat) : Fit (.str "row") 10 e := Fit.lit (by decide +kernel)
mutual
theorem rowR_fit {rows : List Str} (hok : RowsOk rows) : ∀ (n : Nat) {ws : List Str} {h : Str} {D i m i' m' : Nat} {x : PyData}, ws.length ≤ 20 → (h = Str.empty → isN (ws.headD Str.empty) = true) → rowR rows n ws h D i m = .ok (x, i', m') → m < m' ∧ m' ≤ 60 ∧ Fit x (KB * (m' - m) - 2) (8 + 2 * D)
  | 0, _, _, _, _, _, _, _, _, _, _, e => by
    rw [rowR] at e
    cases e
  | n + 1, ws, h, D, i, m, i', m', x, hw, hs, e => by
    rw [rowR] at e
    split at e
    · cases e
    · rename_i hno
      have m60 : m < 60 := by
        have : ¬ 60 ≤ m := fun z => hno (.inl z)
        omega
      have one : KB * (m + 1 - m) = 190000 := by
        rw [show m + 1 - m = 1 by omega] <;> rfl
      split at e
      · rename_i h0
        split at e
        · cases e
        · rename_i d q
          cases e
          refine ⟨by omega, by omega, ?_⟩
          rw [one]
          exact (Fit.tup (FitL.cons (lit_set 4) (FitL.cons (Fit.name (hs h0)) (FitL.cons (fit_poly hw q) (FitL.nil 4))))).mono (by decide) (by omega)
      · split at e
        · split at e
          · split at e
            · cases e
            · rename_i l i1 q
              cases e
              refine ⟨by omega, by omega, ?_⟩
              rw [one]
              obtain ⟨f1, f2⟩ := pairsR_fit hok (B := 3060) (fun ws i d hl h => (fit_poly hl h).mono (Nat.le_refl _) (by decide)) _ (Nat.zero_le _) (fun x hx => by cases hx) q
              exact (Fit.tup (FitL.cons (lit_both 7) (FitL.cons (fit_pairsD f1 f2) (FitL.nil 7)))).mono (by decide) (by omega)
          · cases e
        · split at e
          · cases e
          · rename_i hD
            split at e
            · cases e
            · rename_i c qc
              have fc := fit_poly hw qc
              split at e
              · split at e
                · cases e
                · rename_i l a q
                  obtain ⟨a1, a2⟩ := a
                  cases e
                  obtain ⟨f1, f2, f3⟩ := withinR_fit hok n (c := 0) (by omega) (FitL.nil _) q
                  refine ⟨by omega, f2, ?_⟩
                  have e1 : KB * (m' - m) = KB * (m' - (m + 1)) + 190000 := by
                    rw [show m' - m = (m' - (m + 1)) + 1 by omega, Nat.mul_add] <;> rfl
                  rw [e1]
                  exact (Fit.tup (FitL.cons (lit_loop (8 + 2 * (D - 1) + 1)) (FitL.cons (fc.mono (Nat.le_refl _) (by omega)) (FitL.cons (Fit.tup f3) (FitL.nil _))))).mono (by omega) (by omega)
              · split at e
                · cases e
                · rename_i p i1 qp
                  obtain ⟨g1, g2⟩ := pairsR_fit hok (B := 4060) (fun ws i d hl h => fit_form hl h) _ (Nat.zero_le _) (fun x hx => by cases hx) qp
                  have fp := fit_pairsD g1 g2
                  split at e
                  · cases e
                  · rename_i l a q
                    obtain ⟨a1, a2⟩ := a
                    cases e
                    obtain ⟨f1, f2, f3⟩ := withinR_fit hok n (c := 0) (by omega) (FitL.nil _) q
                    refine ⟨by omega, f2, ?_⟩
                    have e1 : KB * (m' - m) = KB * (m' - (m + 1)) + 190000 := by
                      rw [show m' - m = (m' - (m + 1)) + 1 by omega, Nat.mul_add] <;> rfl
                    rw [e1]
                    exact (Fit.tup (FitL.cons (lit_jump (8 + 2 * (D - 1) + 1)) (FitL.cons (fc.mono (Nat.le_refl _) (by omega)) (FitL.cons (fp.mono (Nat.le_refl _) (by omega)) (FitL.cons (Fit.tup f3) (FitL.nil _)))))).mono (by omega) (by omega)
theorem withinR_fit {rows : List Str} (hok : RowsOk rows) : ∀ (n : Nat) {D : Nat} {acc : List PyData} {i m c i' m' : Nat} {l : List PyData}, m ≤ 60 → FitL acc c (8 + 2 * D) → withinR rows n D acc i m = .ok (l, i', m') → m ≤ m' ∧ m' ≤ 60 ∧ FitL l (c + KB * (m' - m)) (8 + 2 * D)
  | 0, _, _, _, _, _, _, _, _, _, _, e => by
    rw [withinR] at e
    cases e
  | n + 1, D, acc, i, m, c, i', m', l, hm, ha, e => by
    rw [withinR] at e
    split at e
    · cases e
    · rename_i ws hd hn
      split at e
      · split at e
        · split at e
          · cases e
            exact ⟨Nat.le_refl _, hm, ha.mono (by omega) (Nat.le_refl _)⟩
          · cases e
        · cases e
      · split at e
        · split at e
          · cases e
          · rename_i d i1 m1 q
            obtain ⟨w1, w2⟩ := nextW_ws hok hn
            obtain ⟨r1, r2, r3⟩ := rowR_fit hok n w1 w2 q
            obtain ⟨s1, s2, s3⟩ := withinR_fit hok n r2 (FitL.app ha (FitL.cons r3 (FitL.nil _))) e
            refine ⟨by omega, s2, s3.mono ?_ (Nat.le_refl _)⟩
            have e1 : KB * (m' - m) = KB * (m' - m1) + KB * (m1 - m) := by
              rw [← Nat.mul_add, show m' - m1 + (m1 - m) = m' - m by omega]
            have e2 : 2 ≤ KB * (m1 - m) := Nat.le_trans (by decide : 2 ≤ KB * 1) (Nat.mul_le_mul_left _ (by omega))
            omega
        · cases e
end
theorem allR_fit {rows : List Str} (hok : RowsOk rows) : ∀ (n : Nat) {acc : List PyData} {i m : Nat} {l : List PyData}, m ≤ 60 → FitL acc (KB * m) 14 → allR rows n acc i m = .ok l → FitL l (KB * 60) 14
  | 0, acc, i, m, l, hm, ha, e => by
    rw [allR] at e
    cases e
    exact ha.mono (Nat.mul_le_mul_left _ hm) (Nat.le_refl _)
  | n + 1, acc, i, m, l, hm, ha, e => by
    rw [allR] at e
    split at e
    · split at e
      · cases e
      · rename_i ws hd hn
        split at e
        · split at e
          · cases e
          · rename_i d i1 m1 q
            obtain ⟨w1, w2⟩ := nextW_ws hok hn
            obtain ⟨r1, r2, r3⟩ := rowR_fit hok _ w1 w2 q
            refine allR_fit hok n r2 ((FitL.app ha (FitL.cons r3 (FitL.nil _))).mono ?_ (Nat.le_refl _)) e
            have e1 : KB * m1 = KB * (m1 - m) + KB * m := by
              rw [← Nat.mul_add, show m1 - m + m = m1 by omega]
            have e2 : 2 ≤ KB * (m1 - m) := Nat.le_trans (by decide : 2 ≤ KB * 1) (Nat.mul_le_mul_left _ (by omega))
            omega
        · cases e
    · cases e
      exact ha.mono (Nat.mul_le_mul_left _ hm) (Nat.le_refl _)
/-! ### where a reader stops -/
def Sml (rows : List Str) (i e : Nat) : Prop := i ≤ rows.length + 2 ∧ e ≤ 60
theorem terms_err {τ : Type} {term : Str → Option τ} : ∀ (n : Nat) (ws : List Str) (i e : Nat), ws.length ≤ n → terms term ws i = .error e → e ≤ i + ws.length + 1
  | _, [], i, e, _, h => by cases h; simp
  | 0, w :: r, i, e, hn, _ => by simp at hn
  | n + 1, w :: r, i, e, hn, h => by
    cases q : term w with
    | none =>
      rw [terms_none q] at h
      cases h
      simp
    | some t =>
      rw [terms_some q] at h
      cases r with
      | nil => cases h
      | cons y r =>
        unfold termsB at h
        dsimp only at h
        by_cases q2 : y = "+"
        · rw [if_pos q2] at h
          cases q3 : terms term r (i + 1 + 1) with
          | ok us => rw [q3] at h; cases h
          | error x =>
            rw [q3] at h
            cases h
            have := terms_err n r _ _ (by simp at hn; omega) q3
            simp
            omega
        · rw [if_neg q2] at h
          cases h
          simp <;> omega
theorem polyR_err {ws : List Str} {i e : Nat} (hw : ws.length ≤ 20) (hi : i ≤ 2) (h : polyR ws i = .error e) : e ≤ 60 := by
  unfold polyR polyW at h
  cases q : terms termT (ws.drop i) i with
  | ok ts => rw [q] at h; cases h
  | error x =>
    rw [q] at h
    cases h
    have := terms_err _ _ _ _ (Nat.le_refl _) q
    rw [List.length_drop] at this
    omega
theorem formR_err {ws : List Str} {i e : Nat} (hw : ws.length ≤ 20) (hi : i ≤ 2) (h : formR ws i = .error e) : e ≤ 60 := by
  unfold formR formW at h
  by_cases h0 : (ws.drop i).take 1 = [("0" : Str)]
  · rw [if_pos h0] at h
    split at h
    · cases h
    · rename_i q
      split at q
      · cases q
      · cases q
        cases h
        omega
  rw [if_neg h0] at h
  cases q : terms pairU (ws.drop i) i with
  | ok ts => rw [q] at h; cases h
  | error x =>
    rw [q] at h
    cases h
    have := terms_err _ _ _ _ (Nat.le_refl _) q
    rw [List.length_drop] at this
    omega
theorem nextW_err {rows : List Str} {i e : Nat} (h : nextW rows i = .error e) : e ≤ 60 := by
  unfold nextW at h
  cases q : rows[i]? with
  | none => rw [q] at h; cases h; decide
  | some z =>
    rw [q] at h
    dsimp only at h
    split at h
    · cases h; decide
    · split at h
      · split at h
        · cases h
        · cases h; decide
      · split at h
        · cases h
        · cases h
          split <;> decide
theorem pairsR_err2 {rows : List Str} (hok : RowsOk rows) {last : Str} {most : Nat} {rd : List Str → Nat → Except Nat PyData} (hrd : ∀ ws e, ws.length ≤ 20 → rd ws 2 = .error e → e ≤ 60) :
    ∀ (n : Nat) {acc : List (Str × PyData)} {i r e : Nat}, i ≤ rows.length + 1 → pairsR rows last most rd n acc i = .error (r, e) → Sml rows r e
  | 0, acc, i, r, e, hi, h => by
    rw [pairsR] at h
    cases h
    exact ⟨by omega, by decide⟩
  | n + 1, acc, i, r, e, hi, h => by
    rw [pairsR] at h
    split at h
    · rename_i q
      cases h
      exact ⟨by omega, nextW_err q⟩
    · rename_i ws hd hn
      have hl := nextW_lt hn
      split at h
      · split at h
        · split at h
          · rename_i q
            cases h
            exact ⟨by omega, hrd _ _ (nextW_ws hok hn).1 q⟩
          · exact pairsR_err2 hok hrd n (by omega) h
        · cases h
          exact ⟨by omega, by decide⟩
      · split at h
        · split at h
          · cases h
          · cases h
            exact ⟨by omega, by decide⟩
        · cases h
          exact ⟨by omega, by decide⟩
theorem pairsR_end {rows : List Str} {last : Str} {most : Nat} {rd : List Str → Nat → Except Nat PyData} : ∀ (n : Nat) {acc l : List (Str × PyData)} {i i' : Nat}, pairsR rows last most rd n acc i = .ok (l, i') → i' ≤ rows.length
  | 0, acc, l, i, i', h => by
    rw [pairsR] at h
    cases h
  | n + 1, acc, l, i, i', h => by
    rw [pairsR] at h
    split at h
    · cases h
    · rename_i ws hd hn
      have hl := nextW_lt hn
      split at h
      · split at h
        · split at h
          · cases h
          · exact pairsR_end n h
        · cases h
      · split at h
        · split at h
          · cases h
            exact hl
          · cases h
        · cases h
mutual
theorem rowR_err {rows : List Str} (hok : RowsOk rows) : ∀ (n : Nat) {ws : List Str} {h : Str} {D i m r e : Nat}, ws.length ≤ 20 → i ≤ rows.length + 1 → rowR rows n ws h D i m = .error (r, e) → Sml rows r e
  | 0, _, _, _, _, _, _, _, _, hi, q => by
    rw [rowR] at q
    cases q
    exact ⟨by omega, by decide⟩
  | n + 1, ws, h, D, i, m, r, e, hw, hi, q => by
    rw [rowR] at q
    split at q
    · cases q
      exact ⟨by omega, by decide⟩
    · split at q
      · split at q
        · rename_i q2
          cases q
          exact ⟨by omega, polyR_err hw (by decide) q2⟩
        · cases q
      · split at q
        · split at q
          · split at q
            · rename_i q2
              cases q
              exact pairsR_err2 hok (fun ws e hl h => polyR_err hl (by decide) h) _ hi q2
            · cases q
          · cases q
            exact ⟨by omega, by decide⟩
        · split at q
          · cases q
            exact ⟨by omega, by decide⟩
          · split at q
            · rename_i q2
              cases q
              exact ⟨by omega, polyR_err hw (by decide) q2⟩
            · split at q
              · split at q
                · rename_i q2
                  cases q
                  exact withinR_err hok n hi q2
                · cases q
              · split at q
                · rename_i q2
                  cases q
                  exact pairsR_err2 hok (fun ws e hl h => formR_err hl (by decide) h) _ hi q2
                · rename_i q1
                  split at q
                  · rename_i q2
                    cases q
                    exact withinR_err hok n (Nat.le_trans (pairsR_end _ q1) (Nat.le_succ _)) q2
                  · cases q
theorem withinR_err {rows : List Str} (hok : RowsOk rows) : ∀ (n : Nat) {D : Nat} {acc : List PyData} {i m r e : Nat}, i ≤ rows.length + 1 → withinR rows n D acc i m = .error (r, e) → Sml rows r e
  | 0, _, _, _, _, _, _, hi, q => by
    rw [withinR] at q
    cases q
    exact ⟨by omega, by decide⟩
  | n + 1, D, acc, i, m, r, e, hi, q => by
    rw [withinR] at q
    split at q
    · rename_i q2
      cases q
      exact ⟨by omega, nextW_err q2⟩
    · rename_i ws hd hn
      have hl := nextW_lt hn
      split at q
      · split at q
        · split at q
          · cases q
          · cases q
            exact ⟨by omega, by decide⟩
        · cases q
          exact ⟨by omega, by decide⟩
      · split at q
        · split at q
          · rename_i q2
            cases q
            exact rowR_err hok n (nextW_ws hok hn).1 (by omega) q2
          · rename_i q1
            exact withinR_err hok n (Nat.le_trans (rowR_end n hl q1) (Nat.le_succ _)) q
        · cases q
          exact ⟨by omega, by decide⟩
theorem rowR_end {rows : List Str} : ∀ (n : Nat) {ws : List Str} {h : Str} {D i m i' m' : Nat} {x : PyData}, i < rows.length → rowR rows n ws h D (i + 1) m = .ok (x, i', m') → i' ≤ rows.length
  | 0, _, _, _, _, _, _, _, _, _, q => by
    rw [rowR] at q
    cases q
  | n + 1, ws, h, D, i, m, i', m', x, hi, q => by
    rw [rowR] at q
    split at q
    · cases q
    · split at q
      · split at q
        · cases q
        · cases q
          exact hi
      · split at q
        · split at q
          · split at q
            · cases q
            · rename_i q2
              cases q
              exact pairsR_end _ q2
          · cases q
        · split at q
          · cases q
          · split at q
            · cases q
            · split at q
              · split at q
                · cases q
                · rename_i l a q2
                  obtain ⟨a1, a2⟩ := a
                  cases q
                  exact withinR_end n q2
              · split at q
                · cases q
                · split at q
                  · cases q
                  · rename_i l a q2
                    obtain ⟨a1, a2⟩ := a
                    cases q
                    exact withinR_end n q2
theorem withinR_end {rows : List Str} : ∀ (n : Nat) {D : Nat} {acc l : List PyData} {i m i' m' : Nat}, withinR rows n D acc i m = .ok (l, i', m') → i' ≤ rows.length
  | 0, _, _, _, _, _, _, _, q => by
    rw [withinR] at q
    cases q
  | n + 1, D, acc, l, i, m, i', m', q => by
    rw [withinR] at q
    split at q
    · cases q
    · rename_i ws hd hn
      have hl := nextW_lt hn
      split at q
      · split at q
        · split at q
          · cases q
            exact hl
          · cases q
        · cases q
      · split at q
        · split at q
          · cases q
          · exact withinR_end n q
        · cases q
end
theorem allR_err {rows : List Str} (hok : RowsOk rows) : ∀ (n : Nat) {acc : List PyData} {i m r e : Nat}, allR rows n acc i m = .error (r, e) → Sml rows r e
  | 0, acc, i, m, r, e, q => by
    rw [allR] at q
    cases q
  | n + 1, acc, i, m, r, e, q => by
    rw [allR] at q
    split at q
    · rename_i hi
      split at q
      · rename_i q2
        cases q
        exact ⟨by omega, nextW_err q2⟩
      · rename_i ws hd hn
        split at q
        · split at q
          · rename_i q2
            cases q
            exact rowR_err hok _ (nextW_ws hok hn).1 (by omega) q2
          · exact allR_err hok n q
        · cases q
          exact ⟨by omega, by decide⟩
    · cases q
/-- what is told fits -/
theorem fit_due {rows : List Str} (hok : RowsOk rows) : Fit (dueD (allR rows rows.length [] 0 0)) 16000000 20 := by
  cases q : allR rows rows.length [] 0 0 with
  | ok l =>
    have f := allR_fit hok _ (by decide) ((FitL.nil 14).mono (Nat.zero_le _) (Nat.le_refl _)) q
    exact (Fit.lst (FitL.cons (Fit.tup f) (FitL.nil 15))).mono (by decide) (by decide)
  | error x =>
    obtain ⟨r, e⟩ := x
    obtain ⟨h1, h2⟩ := allR_err hok _ q
    have h3 := hok.1
    have p : (16777300 : Nat) < 10 ^ 8 := by decide
    exact (Fit.tup (FitL.cons (lit_row 0) (FitL.cons (Fit.int (k := 8) (by decide) (by omega) (by decide)) (FitL.cons (Fit.int (k := 8) (by decide) (by omega) (by decide)) (FitL.nil 0))))).mono (by decide) (by decide)
theorem fit_bad : Fit (badD 0 0) 16000000 20 :=
  (Fit.tup (FitL.cons (lit_row 0) (FitL.cons (Fit.int (k := 8) (by decide) (by decide) (by decide)) (FitL.cons (Fit.int (k := 8) (by decide) (by decide) (by decide)) (FitL.nil 0))))).mono (by decide) (by decide)
end K86
set_option Elab.async false
set_option linter.all false
set_option maxRecDepth 100000
set_option maxHeartbeats 4000000
/-! rows put together and cut again -/
namespace K86
open PySem PySem.Spec PyProof.Rows L2
theorem cut1_mid (s : Nat) (b : List Nat) : ∀ a : List Nat, cut1 s (a ++ s :: b) = cut1 s a ++ cut1 s b
  | [] => by
    show cut1 s (s :: b) = _
    unfold cut1
    rw [if_pos rfl]
    cases b <;> rfl
  | c :: a => by
    rw [List.cons_append, cut1, cut1_mid s b a, cut1]
    by_cases e : c = s
    · rw [if_pos e, if_pos e] <;> rfl
    · rw [if_neg e, if_neg e]
      cases q : cut1 s a with
      | nil => exact absurd q (cut1_ne s a)
      | cons p r => rfl
theorem cut1_sub (s : Nat) : ∀ l p, p ∈ cut1 s l → p.Sublist l
  | [], p, h => by
    rw [cut1] at h
    rw [List.mem_singleton.mp h]
    exact .slnil
  | c :: r, p, h => by
    rw [cut1] at h
    by_cases e : c = s
    · rw [if_pos e] at h
      rcases List.mem_cons.mp h with h | h
      · rw [h]
        exact List.nil_sublist _
      · exact .cons _ (cut1_sub s r p h)
    · rw [if_neg e] at h
      cases q : cut1 s r with
      | nil => exact absurd q (cut1_ne s r)
      | cons a b =>
        rw [q] at h
        rcases List.mem_cons.mp h with h | h
        · rw [h]
          exact .cons₂ _ (cut1_sub s r a (by rw [q]; exact List.mem_cons_self))
        · exact .cons _ (cut1_sub s r p (by rw [q]; exact List.mem_cons_of_mem _ h))
theorem cut_joinL (s : Nat) : ∀ (ps : List (List Nat)) (p : List Nat), ps ≠ [] → p ∈ cut1 s (TL.joinL [s] ps) → ∃ q ∈ ps, p.Sublist q
  | [], p, h, _ => absurd rfl h
  | [a], p, _, h => ⟨a, List.mem_cons_self, cut1_sub s a p h⟩
  | a :: b :: r, p, _, h => by
    rw [joinL_cons, List.singleton_append, cut1_mid] at h
    rcases List.mem_append.mp h with h | h
    · exact ⟨a, List.mem_cons_self, cut1_sub s a p h⟩
    · obtain ⟨q, hq, hs⟩ := cut_joinL s (b :: r) p (by simp) h
      exact ⟨q, List.mem_cons_of_mem _ hq, hs⟩
theorem Tt.sub {x y : Str} {n b : Nat} (h : Tt y n b) (g : (tl x).Sublist (tl y)) : Tt x n b := by
  refine ⟨fun c hc => h.a c (g.subset hc), ?_, Nat.le_trans (g.count_le 32) h.k⟩
  rw [len_tl]
  refine Nat.le_trans g.length_le ?_
  rw [← len_tl]
  exact h.l
theorem rows_of_join {rows : List Str} (h : ∀ y ∈ rows, Tt y 200000 19) (hl : (Txt.join (Str.ofString "\n") rows).length + 2 ≤ sizeLine) : RowsOk (rowsOf (Txt.join (Str.ofString "\n") rows)) := by
  unfold rowsOf
  split
  · exact ⟨Nat.zero_le _, fun y hy => by cases hy⟩
  · rename_i hne
    have hr : rows ≠ [] := fun e => hne (by
      rw [e]
      exact TL.ext_tl (by
        show tl _ = _
        rw [tl_joinT] <;> rfl))
    refine ⟨?_, fun y hy => ?_⟩
    · have := spl_few (c := 10) (by decide) (Txt.join (Str.ofString "\n") rows)
      have e : sizeLine = 16777216 := PySem.sizeLine_eq
      omega
    · have hm := spl_mem (c := 10) (by decide) hy
      rw [tl_joinT] at hm
      have e10 : tl (Str.ofString "\n") = [10] := by decide +kernel
      rw [e10] at hm
      obtain ⟨q, hq, hs⟩ := cut_joinL 10 _ _ (fun e => hr (List.map_eq_nil_iff.mp e)) hm
      obtain ⟨z, hz, rfl⟩ := List.mem_map.mp hq
      exact (h z hz).sub hs
theorem join_len (rows : List Str) : (Txt.join (Str.ofString "\n") rows).length ≤ sm rows + rows.length := by
  rw [len_tl, tl_joinT]
  have e10 : tl (Str.ofString "\n") = [10] := by decide +kernel
  rw [e10]
  induction rows with
  | nil => exact Nat.zero_le _
  | cons a r ih =>
    cases r with
    | nil =>
      show (tl a).length ≤ _
      rw [sm_cons, ← len_tl]
      omega
    | cons b r =>
      rw [List.map_cons, List.map_cons, joinL_cons, List.length_append, List.length_append, ← len_tl, sm_cons]
      rw [List.map_cons] at ih
      rw [show ([10] : List Nat).length = 1 from rfl]
      have e : (a :: b :: r).length = (b :: r).length + 1 := rfl
      omega
end K86
set_option Elab.async false
set_option linter.all false
set_option maxRecDepth 100000
set_option maxHeartbeats 4000000
/-! the law as the outermost call: nothing is being shown -/
namespace K86
open PySem PySem.Spec PyProof.Rows L2
/-- repr(data) -/
theorem call_reprD {X : Cx} (hg : X.A.guards = some []) (hu : X.A.units + 64 < cLine) : CallR X (.builtin "repr") (fun xs H Q => ∃ (v : V) (d : PyData) (a : Addr), xs = [v] ∧ v = .ref a ∧ Dp X.K H v d ∧ Fit d 16000000 20 ∧ Q (.str d.shown) H) := by
  intro pins s σ H xs us Q I r h
  obtain ⟨v, d, a, rfl, rfl, dp, f, q⟩ := h
  obtain ⟨u, rfl, rx⟩ := vals1 r
  cases (show u = Value.ref a from rx)
  obtain ⟨as, rd⟩ := Dp.reads I d (.ref a) _ dp rx
  have fe := f.e
  have fl := f.l
  have e : sizeLine = 16777216 := PySem.sizeLine_eq
  exact repr_of_reads' rd f.s (PyData.noDict_hsm f.n) hg (by omega) (fun _ _ e => e) (fun h' u tk k => ⟨.str d.shown, H, I.kept k, ⟨u, rfl⟩, q⟩) (by omega)
/-- a def that keeps sp where it is called and nothing is being shown -/
structure FnOkG (P : Program) (w : World) (K : PySem.W.Frag) (mg : Str → Option Value) (base : Heap) (k : Nat) (f : Addr) (fd : FuncData) (ps : List Str) (sp : Sp) : Prop where
  len : ∀ vs H Q E, sp vs H Q E → vs.length = ps.length
  run : ∀ (A : Around) (outer : List Env) (s : Shared) (H : Hp) (args : Args) (us : List Value) (vs : List V) (Q : VK) (E : XK), A.guards = some [] → Room k A → Env0 P w K mg base A outer s H → BindsTo s fd args (ps.zip us) → Vals vs us → sp vs H Q E → codeAny (model P w) A (.call (.ref f) args) (CR CX0 outer P w H s Q E) s
theorem fnG_of {P : Program} {w : World} {K : PySem.W.Frag} {mg : Str → Option Value} {base : Heap} {x : Str} {st : Stmt} {N ps : List Str} {k : Nat} {sp : Sp} {f : Addr} {fd : FuncData} (F : FnP K x st f fd) (S : FnScope N ps (defScope st)) (len : ∀ vs H Q E, sp vs H Q E → vs.length = ps.length)
    (hbody : ∀ (cdv : Value) (A : Around) (outer : List Env) (s : Shared) (H : Hp) (vs : List V) (Q : VK) (E : XK), A.guards = some [] → Room k (A.deeper (envOfC x (defScope st) s.heap.objs.size f cdv)) → sp vs H Q E →
      ∃ t, PSs (cxOf CX0 P w K mg base N x (defScope st) f cdv A outer s H E) (defBody st) t ∧ t { nx := fun _ H' => Q .non H', rt := Q } (start N vs) H) : FnOkG P w K mg base (k + 1) f fd ps sp := by
  obtain ⟨oc, od, dV, kV, doc, pm, an, cdv, ct, osl, rfl, lk, hcd, _, _⟩ := F.ex
  refine ⟨len, fun A outer s H args us vs Q E hg hr e0 hb r hsp => ?_⟩
  have hl := len _ _ _ _ hsp; have KX : K.In s.heap := e0.mod.kin.keeps fun b o e => (e0.bs b o e).1
  have lim : s.heap.NoLimit := e0.mod.nolimit.keeps fun b o e => (e0.bs b o e).1; have sc := S
  have hkind : ∀ y ∈ ps.zip us, (defScope st).names.lookup y.1 = some .local ∨ ((defScope st).names.lookup y.1 = some .cell ∧ ((cellsFrom (s.heap.objs.size + 1) (defScope st).names []).lookup y.1).isSome = true) := fun ⟨n, v⟩ hy => (S.par n (List.of_mem_zip hy).1).imp id fun q => ⟨q, PySem.W.cellsFrom_some _ _ _ (.inl q)⟩
  refine codeAny_call_function hr.depth (KX _ _ lk) rfl S.co S.gen rfl (PySem.W.codeRec_of KX hcd) (hb _ _ _ _ (wpAny_newFunctionEnv_cells S.kind hkind fun env he s1 x => ?_))
  subst he; refine ⟨lim.keeps x.toInCall.keep, codeAny_func ?_⟩
  obtain ⟨t, ht, hq⟩ := hbody cdv A outer s H vs Q E hg (hr.deeper _) hsp
  have I := inv_start (CX := CX0) (mg := mg) (base := base) (K := K) (P := P) (w := w) (outer := outer) (E := E) S hr.hd e0 hl r x
  refine wpAny_mono (ht.run [] s1 (start N vs) H _ I hq) (fun fl s' hs => ?_) fun e s' hs => hs
  cases fl with
  | ret u => obtain ⟨v, σ', H', J, rv, q⟩ := hs; exact ⟨v, H', J.os, J.bare, J.base, J.hok, rv, q⟩
  | next => obtain ⟨σ', H', J, q⟩ := hs; exact ⟨V.non, H', J.os, J.bare, J.base, J.hok, rfl, q⟩
  | brk => obtain ⟨_, _, _, q⟩ := hs; exact q.elim
  | cont => obtain ⟨_, _, _, q⟩ := hs; exact q.elim
/-- the law's call, from outside -/
theorem law_callG {P : Program} {w : World} {K : PySem.W.Frag} {mg mb : Str → Option Value} {k : Nat} {fa a : Addr} {fd : FuncData} {x : Str} {sp : Sp} {s₁ : Shared} {vs : List Value} {ns : List Int} (KX : K.In s₁.heap) (hns : s₁.heap.Ns mainGlobals mg) (hb : s₁.heap.Ns builtinsNs mb)
    (hbb : ∀ x : Str, x ≠ "__name__" → mb x = bootBuiltins x) (hlim : s₁.heap.NoLimit) (hg : s₁.gens = #[]) (ha : s₁.heap.get? a = some { cls := .type "list", data := .seq vs.toArray }) (hi : IntsAre vs ns) (hl : ns.length ≤ sizeLine) (hr : Room k callerA)
    (F : ∀ base : Heap, K.In base → base.Ns mainGlobals mg → FnOkG P w K mg base k fa fd [x] sp) (hbind : ∀ (s : Shared) (u : Value), BindsTo s fd ⟨[u], []⟩ [(x, u)]) (hsp : ∀ H : Hp, Only H → SqL K H a (ns.map V.int) → sp [.ref a] H (fun v _ => v = .bl true) fun _ _ _ => False) :
    codeAny (model P w) callerA (.call (.ref fa) ⟨[.ref a], []⟩) (fun r s' => r = .ok (.ret (.bool true)) ∧ OldK s₁.heap s'.heap ∧ s'.os = s₁.os ∧ AllBare s'.gens) s₁ := by
  have rv := vals_ints hi; have lenV := hi.length
  have core : ∀ H : Hp, Only H → SqL K H a (ns.map V.int) → HOk P w H s₁.heap → (∀ b, H b ≠ none → b = a) → (H a ≠ none → K.lookup a = none) → codeAny (model P w) callerA (.call (.ref fa) ⟨[.ref a], []⟩) (fun r s' => r = .ok (.ret (.bool true)) ∧ OldK s₁.heap s'.heap ∧ s'.os = s₁.os ∧ AllBare s'.gens) s₁ := by
    intro H hO hS hok hA hK
    have base_of : ∀ {b : Addr} {o : Obj}, s₁.heap.get? b = some o → H b = none → (hidT s₁.heap H).get? b = some o := hidT_get
    have noA : ∀ {b : Addr} {o : Obj} {es : Array DictEntry} {ep : Nat}, s₁.heap.get? b = some o → o.data = .dict es ep → H b = none := fun {b o es ep} e d => by
      cases q : H b with
      | none => rfl
      | some u =>
        obtain rfl : b = a := hA b (by rw [q]; simp)
        rw [ha] at e; cases e
        exact nomatch (show Data.seq vs.toArray _ = Data.dict es ep from d)
    have nsK : ∀ {b : Addr} {m : Str → Option Value}, s₁.heap.Ns b m → (hidT s₁.heap H).Ns b m := fun {b m} ⟨o, es, ep, e, d, r⟩ => ⟨o, es, ep, base_of e (noA e d), d, r⟩
    have hKb : K.In (hidT s₁.heap H) := fun b o e => base_of (KX b o e) (by
      cases q : H b with
      | none => rfl
      | some u =>
        obtain rfl : b = a := hA b (by rw [q]; simp)
        rw [hK (by rw [q]; simp)] at e; cases e)
    have hM : Mod K mg (hidT s₁.heap H) := ⟨hKb, nsK hns, ⟨mb, nsK hb, hbb⟩, let ⟨mc, h1, h2⟩ := hlim; ⟨mc, nsK h1, h2⟩⟩
    have e0 : Env0 P w K mg (hidT s₁.heap H) callerA [] s₁ H := ⟨rfl, hM, fun b o e => of_hidT e, Nat.le_of_eq (hidT_size _ _), trivial, fun b hb => absurd (show b ∈ ([] : List Addr) from hb) (by simp), hok, .of_eq hg⟩
    refine codeAny_mono ((F _ hKb (nsK hns)).run callerA [] s₁ H ⟨[.ref a], []⟩ [.ref a] [.ref a] _ _ rfl hr e0 (hbind s₁ (.ref a)) (.cons rfl .nil) (hsp H hO hS)) fun r s' h => ?_
    obtain ⟨u, rfl⟩ : ∃ u, r = .ok (.ret u) := by
      cases r with
      | error e => exact False.elim h
      | ok fl =>
        cases fl with
        | ret u => exact ⟨u, rfl⟩
        | next => exact False.elim h
        | brk => exact False.elim h
        | cont => exact False.elim h
    obtain ⟨v, H', os, bare, un, hok', r', q⟩ := h
    obtain rfl : v = .bl true := q
    obtain rfl : u = Value.bool true := r'
    refine ⟨rfl, OldK.of_keep fun b o e => ?_, os, bare⟩
    cases q : H b with
    | none => exact un.keep b o e q (by intro z; exact absurd (show b ∈ ([] : List Addr) from z) (by simp)) (by simp)
    | some u =>
      rcases hO b with z | ⟨ob, xs, z⟩
      · rw [q] at z; cases z
      · obtain ⟨e1, _⟩ := hok b _ z; obtain ⟨e2, _⟩ := hok' b _ (un.frzs b ob _ z)
        rw [e] at e1; cases e1; exact e2
  cases hk : K.lookup a with
  | some o =>
    have e := KX a o hk; rw [ha] at e; cases e
    exact core (fun _ => none) (fun _ => .inl rfl) (.inr ⟨_, vs.toArray, _, hk, rfl, rfl, rfl, by rw [List.size_toArray, lenV]; exact hl, by simpa using rv⟩) (fun b u z => nomatch (show (none : Option HO) = some u from z)) (fun b z => absurd rfl z) fun z => absurd rfl z
  | none =>
    refine core (fun b => if b = a then some (.frz { cls := .type "list", data := .seq vs.toArray } (.lst (ns.map V.int))) else none) (fun b => ?_) (.inl (.inr ⟨{ cls := .type "list", data := .seq vs.toArray }, if_pos rfl⟩)) (fun b u z => ?_) (fun b z => ?_) fun _ => hk
    · by_cases hb : b = a
      · exact .inr ⟨_, _, if_pos hb⟩
      · exact .inl (if_neg hb)
    · by_cases hb : b = a
      · have z' := (if_pos hb).symm.trans z
        cases z'; subst hb
        exact ⟨ha, by rw [List.length_map]; exact hl, vs, _, rv, ha⟩
      · exact nomatch (if_neg hb).symm.trans z
    · by_cases hb : b = a
      · exact hb
      · exact absurd (if_neg hb) z
end K86
set_option Elab.async false
set_option linter.all false
set_option maxRecDepth 100000
set_option maxHeartbeats 0
/-! rows bent, the walk -/
namespace K86
open PySem PySem.Spec PyProof.Rows L2
section
variable {P : Program} {w : World} {K : PySem.W.Frag} {mg : Str → Option Value} {base : Heap}
theorem ok_law_bent (T : Tx K mg) (F_law_take : TakeF P w K mg base) : Fn P w K mg base CX0 3 "_law_bent" ["_law_draw_here", "_law_rows_here"] sp_law_bent := by
  refine Fn.of T.f_law_bent sc_law_bent (fun _ _ _ _ _ _ us hl => match us, hl with | [_, _], _ => rfl) (fun vs H Q E h => ?_) (fun f cdv A outer s H vs Q E hr h => ⟨_, PSs.nox (pss_cons (ps_par3 (i := 2) (j := 3) (l := 4) rfl sc_law_bent.nd rfl rfl rfl (by decide) (by decide) (by decide) rfl rfl rfl (pa_cons (pe_fn F_law_take (hr.mono (by omega)) (pa_cons (pv 0) (pa_cons pe_int pa_nil))) (pa_cons (pe_fn F_law_take (hr.mono (by omega)) (pa_cons (pv 0) (pa_cons (pe_op op_add (pe_callB call_len_seq (by rfl) T.b_len (by decide +kernel) (pa_cons (pv 1) pa_nil)) pe_int) pa_nil))) (pa_cons (pe_fn F_law_take (hr.mono (by omega)) (pa_cons (pv 0) (pa_cons (pe_op op_add (pe_callB call_len_seq (by rfl) T.b_len (by decide +kernel) (pa_cons (pv 1) pa_nil)) pe_int) pa_nil))) pa_nil))) (by rfl))
  (pss_cons (ps_set (i := 5) sc_law_bent.nd rfl (Or.inl rfl) (pe_lst (pa_cons pe_str (pa_cons pe_str (pa_cons pe_str (pa_cons pe_str (pa_cons pe_str (pa_cons pe_str (pa_cons pe_str (pa_cons pe_str (pa_cons pe_str (pa_cons pe_str (pa_cons pe_str pa_nil)))))))))))))
  (pss_cons (ps_if (pt_cut (PW.pt (pw_or (pt_cmpR op_eq (pv 2) pe_int (nomark _)) (pw_or1 (pt_cmpR op_eq (pv 3) (pe_callB call_len_seq (by rfl) T.b_len (by decide +kernel) (pa_cons (pv 1) pa_nil)) (nomark _)))))) (pss_one (ps_ret (pe_op op_cat (pe_op op_cat (pe_slice sl_list (pv 1) po_none (po_some (pv 3))) (pe_lst (pa_cons (pe_ix ix_list (pv 5) (pe_fn F_law_take (hr.mono (by omega)) (pa_cons (pv 0) (pa_cons pe_int pa_nil))) (fun _ _ => rfl)) pa_nil))) (pe_slice sl_list (pv 1) (po_some (pv 3)) po_none)))) pss_nil)
  (pss_cons (ps_if (pt_cmpR op_eq (pv 2) pe_int (nomark _)) (pss_one (ps_ret (pe_op op_cat (pe_slice sl_list (pv 1) po_none (po_some (pv 3))) (pe_slice sl_list (pv 1) (po_some (pe_op op_add (pv 3) pe_int)) po_none)))) pss_nil)
  (pss_cons (ps_if (pt_cmpR op_eq (pv 2) pe_int (nomark _)) (pss_cons (ps_set (i := 6) sc_law_bent.nd rfl (Or.inl rfl) (pe_op op_add (pv 3) (pe_fn F_law_take (hr.mono (by omega)) (pa_cons (pv 0) (pa_cons pe_int pa_nil)))))
  (pss_one (ps_ret (pe_op op_cat (pe_op op_cat (pe_slice sl_list (pv 1) po_none (po_some (pv 3))) (pe_slice sl_list (pv 1) (po_some (pv 4)) (po_some (pe_op op_add (pv 4) pe_int)))) (pe_slice sl_list (pv 1) (po_some (pv 6)) po_none))))) pss_nil)
  (pss_cons (ps_set (i := 7) sc_law_bent.nd rfl (Or.inl rfl) (pe_split (pe_ix ix_list (pv 1) (pv 3) (fun _ _ => rfl)) pe_str))
  (pss_cons (ps_set (i := 8) sc_law_bent.nd rfl (Or.inl rfl) (pe_fn F_law_take (hr.mono (by omega)) (pa_cons (pv 0) (pa_cons (pe_callB call_len_seq (by rfl) T.b_len (by decide +kernel) (pa_cons (pv 7) pa_nil)) pa_nil))))
  (pss_cons (ps_set (i := 9) sc_law_bent.nd rfl (Or.inl rfl) (pe_split pe_str pe_str))
  (pss_cons (ps_set (i := 9) sc_law_bent.nd rfl (Or.inl rfl) (pe_op op_cat (pv 9) (pe_lst (pa_cons (pe_op op_add_str pe_str (pe_op op_repS pe_str pe_int)) (pa_cons (pe_op op_add_str pe_str (pe_op op_repS pe_str pe_int)) pa_nil)))))
  (pss_cons (ps_set (i := 9) sc_law_bent.nd rfl (Or.inl rfl) (pe_op op_cat (pv 9) (pe_lst (pa_cons pe_str (pa_cons pe_str (pa_cons pe_str (pa_cons pe_str (pa_cons pe_str (pa_cons pe_str (pa_cons pe_str (pa_cons pe_str (pa_cons pe_str pa_nil))))))))))))
  (pss_cons (ps_set (i := 9) sc_law_bent.nd rfl (Or.inl rfl) (pe_op op_cat (pv 9) (pe_lst (pa_cons pe_str (pa_cons pe_str (pa_cons pe_str (pa_cons pe_str (pa_cons (pe_op op_repS pe_str pe_int) (pa_cons (pe_op op_repS pe_str pe_int) (pa_cons pe_str (pa_cons pe_str (pa_cons pe_str (pa_cons (pe_ix ix_list (pv 7) pe_int (fun _ _ => rfl)) pa_nil)))))))))))))
  (pss_cons (ps_set (i := 10) sc_law_bent.nd rfl (Or.inl rfl) (pe_ix ix_list (pv 9) (pe_fn F_law_take (hr.mono (by omega)) (pa_cons (pv 0) (pa_cons (pe_callB call_len_seq (by rfl) T.b_len (by decide +kernel) (pa_cons (pv 9) pa_nil)) pa_nil))) (fun _ _ => rfl)))
  (pss_cons (ps_set (i := 11) sc_law_bent.nd rfl (Or.inl rfl) (pe_ix ix_list (pv 7) (pv 8) (fun _ _ => rfl)))
  (pss_cons (ps_set (i := 12) sc_law_bent.nd rfl (Or.inl rfl) (pe_ix ix_list (pe_lst (pa_cons (pe_lst (pa_cons (pv 10) pa_nil)) (pa_cons (pe_lst (pa_cons (pv 10) pa_nil)) (pa_cons (pe_lst (pa_cons (pv 10) (pa_cons (pv 11) pa_nil))) (pa_cons (pe_lst (pa_cons (pv 11) (pa_cons (pv 10) pa_nil))) (pa_cons (pe_lst pa_nil) (pa_cons (pe_lst (pa_cons (pv 11) (pa_cons pe_str (pa_cons (pv 10) pa_nil)))) (pa_cons (pe_lst (pa_cons (pv 11) (pa_cons (pv 11) pa_nil))) pa_nil)))))))) (pe_op op_sub (pv 2) pe_int) (fun _ _ => rfl)))
  (pss_cons (ps_set (i := 13) sc_law_bent.nd rfl (Or.inl rfl) (pe_join pe_str (pe_op op_cat (pe_op op_cat (pe_slice sl_list (pv 7) po_none (po_some (pv 8))) (pv 12)) (pe_slice sl_list (pv 7) (po_some (pe_op op_add (pv 8) pe_int)) po_none))))
  (pss_one (ps_ret (pe_op op_cat (pe_op op_cat (pe_slice sl_list (pv 1) po_none (po_some (pv 3))) (pe_lst (pa_cons (pv 13) pa_nil))) (pe_slice sl_list (pv 1) (po_some (pe_op op_add (pv 3) pe_int)) po_none))))))))))))))))))), ?_⟩)
  · obtain ⟨d, r, ys, n, L, b, rfl, _⟩ := h
    rfl
  · obtain ⟨d, r, ys, n, L, b, rfl, hd, hn, er, ly, ⟨L0, L1⟩, ⟨b0, b1⟩, ty, q⟩ := h
    rw [b36] at hn
    have big : 10000000 ≤ sizeLine := by decide
    have rd := hd.nel er
    have lm : (ys.map V.str).length = ys.length := List.length_map ..
    refine ⟨_, rfl, d, 10, n, rfl, by decide, by rw [b60]; decide, hd, by rw [b60]; omega, fun w1 H1 w10 w11 g1 d1 => ?_⟩
    have er1 := g1 _ _ er rd
    refine ⟨_, rfl, _, rfl, r, _, rfl, .inl (sl_of er1), _, _, rfl, rfl, d, _, _, rfl, by rw [lm]; omega, by rw [lm, b60]; omega, d1, by rw [b60]; omega, fun w2 H2 w20 w21 g2 d2 => ?_⟩
    have er2 := g2 _ _ er1 rd
    refine ⟨_, rfl, _, rfl, r, _, rfl, .inl (sl_of er2), _, _, rfl, rfl, d, _, _, rfl, by rw [lm]; omega, by rw [lm, b60]; omega, d2, by rw [b60]; omega, fun w3 H3 w30 w31 g3 d3 => ⟨_, _, _, rfl, by show 11 ≤ sizeLine; decide, fun p5 h5 => ?_⟩⟩
    rw [lm] at w21 w31
    have er3 := g3 _ _ er2 rd
    obtain ⟨k2, rfl⟩ := Int.eq_ofNat_of_zero_le w20
    obtain ⟨k3, rfl⟩ := Int.eq_ofNat_of_zero_le w30
    have hk2 : k2 ≤ ys.length := by omega
    have d4 := d3.upd (o := .lst (headsB.map V.str)) (d3.ne h5)
    have g4 : GrBut d H (upd H3 p5 (.lst (headsB.map V.str))) := ((g1.trans g2).trans g3).trans (Gr.new h5).but
    have e54 : (upd H3 p5 (.lst (headsB.map V.str))) p5 = some (.lst (headsB.map V.str)) := upd_same
    have er4 := (Gr.new (o := .lst (headsB.map V.str)) h5) _ _ er3
    show tSeq _ _ _ _ (upd H3 p5 (.lst (headsB.map V.str)))
    generalize upd H3 p5 (.lst (headsB.map V.str)) = H4 at d4 g4 e54 er4
    have p5d := d4.nel e54
    clear g1 d1 g2 d2 g3 d3 er1 er2 er3
    have fin_ : ∀ (p : Addr) (H' : Hp) (zs : List Str), GrBut d H4 H' → Draw H' d (n + 20) → H' p = some (.lst (zs.map V.str)) → zs.length ≤ ys.length + 1 → (∀ z ∈ zs, Tt z (2 * L + 100) (b + 2)) → sm zs ≤ sm ys + (2 * L + 100) → Q (.ref p) H' :=
      fun p H' zs g dd e l t s => q p H' zs (g4.trans g) dd e l t s
    have tL : ∀ y ∈ ys, Tt y (2 * L + 100) (b + 2) := fun y hy => (ty y hy).mono (by omega) (by omega)
    have tTake : ∀ k, ∀ y ∈ ys.take k, Tt y (2 * L + 100) (b + 2) := fun k y hy => tL y (List.mem_of_mem_take hy)
    have tDrop : ∀ k, ∀ y ∈ ys.drop k, Tt y (2 * L + 100) (b + 2) := fun k y hy => tL y (List.mem_of_mem_drop hy)
    refine ⟨fun b H' => H' = H4 ∧ (b = false → 1 ≤ w1 ∧ k2 < ys.length), ?_, ?_⟩
    · refine ⟨_, rfl, rfl, _, rfl, ite2 (fun c => ?_) (fun c => ?_)⟩
      · exact ⟨rfl, fun z => by cases z⟩
      · refine ⟨_, rfl, _, rfl, r, _, rfl, .inl (sl_of er4), rfl, _, rfl, rfl, fun z => ?_⟩
        have h1 : ¬ w1 = 0 := fun z => dF c (by rw [z])
        have h2 : ¬ ((k2 : Int) = ((ys.map V.str).length : Nat)) := fun z' => dF z (by rw [z'])
        rw [lm] at h2
        omega
    rintro b' H' ⟨rfl, hb⟩
    refine ite2 (fun c => ?_) (fun c => ?_)
    · -- a row more
      refine ⟨_, rfl, _, rfl, _, rfl, slice_to rfl er4 fun pa H5 ha g5 ea => ⟨_, rfl, _, rfl, d, 11, _, rfl, by decide, by rw [b60]; decide, d4.gr g5, by rw [b60]; omega, fun w4 H6 w40 w41 g6 d6 => ?_⟩⟩
      obtain ⟨k4, rfl⟩ := Int.eq_ofNat_of_zero_le w40
      have hk4 : k4 < headsB.length := by show k4 < 11; omega
      have pad := (d4.gr g5).nel ea
      have g56 := g5.thenBut g6
      refine ⟨p5, _, _, _, rfl, rfl, sl_of (g56 _ _ e54 p5d), at_str hk4, by show 1 ≤ sizeLine; decide, fun pb hb' => ?_⟩
      have gb : Gr H6 (upd H6 pb (.lst [.str headsB[k4]])) := Gr.new hb'
      refine cat_strs (xs := ys.take k2) (ys := [headsB[k4]]) (gb _ _ (g6 _ _ ea pad)) upd_same (by simp; omega) fun pc H7 hc g7 e7 => ?_
      refine ⟨_, rfl, _, rfl, _, rfl, ?_⟩
      unfold tNoPart
      refine slice_from rfl ((gb.trans g7) _ _ (g56 _ _ er4 rd)) fun pd' H8 hd' g8 e8 => ?_
      refine cat_strs (g8 _ _ e7) e8 (by simp; omega) fun pe' H9 he' g9 e9 => ?_
      have gg : GrBut d H' H9 := g56.trans (((gb.trans g7).trans g8).trans g9).but
      have th := headsB_tt _ (List.getElem_mem hk4)
      generalize headsB[k4] = hx at th e9
      refine fin_ _ _ _ gg (((d6.gr ((gb.trans g7).trans (g8.trans g9)))).mono (by omega)) e9 (by simp; omega) (fun z hz => ?_) ?_
      · rcases List.mem_append.mp hz with hz | hz
        · rcases List.mem_append.mp hz with hz | hz
          · exact tTake _ z hz
          · rw [List.mem_singleton.mp hz]
            exact th.mono (by omega) (by omega)
        · exact tDrop _ z hz
      · rw [sm_app, sm_app, sm_cons]
        have h1 := sm_split ys k2
        have h2 := th.l
        have h3 : sm [] = 0 := rfl
        omega
    obtain ⟨hw1, hk2'⟩ := hb c
    refine ⟨_, rfl, rfl, _, rfl, ite2 (fun c1 => ?_) (fun c1 => ?_)⟩
    · -- a row less
      have e1 : ((k2 : Int) + 1) = ((k2 + 1 : Nat) : Int) := by omega
      refine ⟨_, rfl, _, rfl, _, rfl, slice_to rfl er4 fun pa H5 ha g5 ea => ⟨_, rfl, _, rfl, _, _, rfl, rfl, _, rfl, ?_⟩⟩
      unfold tNoPart
      refine slice_from e1 (g5 _ _ er4) fun pb H6 hb' g6 eb => ?_
      refine cat_strs (g6 _ _ ea) eb (by simp; omega) fun pc H7 hc g7 e7 => ?_
      have gg := (g5.trans g6).trans g7
      refine fin_ _ _ _ gg.but ((d4.gr gg).mono (by omega)) e7 (by simp; omega) (fun z hz => ?_) ?_
      · rcases List.mem_append.mp hz with hz | hz
        · exact tTake _ z hz
        · exact tDrop _ z hz
      · rw [sm_app]
        have h1 := sm_two ys (a := k2) (b := k2 + 1) (by omega)
        omega
    refine ⟨_, rfl, rfl, _, rfl, ite2 (fun c2 => ?_) (fun c2 => ?_)⟩
    · -- a row told at another place
      refine ⟨_, rfl, _, rfl, d, 2, _, rfl, by decide, by rw [b60]; decide, d4, by rw [b60]; omega, fun w4 H5 w40 w41 g5 d5 => ⟨_, _, rfl, rfl, ?_⟩⟩
      obtain ⟨k4, rfl⟩ := Int.eq_ofNat_of_zero_le w40
      have e1 : ((k3 : Int) + 1) = ((k3 + 1 : Nat) : Int) := by omega
      have e2 : ((k2 : Int) + (k4 : Int)) = ((k2 + k4 : Nat) : Int) := by omega
      refine ⟨_, rfl, _, rfl, _, rfl, slice_to rfl (g5 _ _ er4 rd) fun pa H6 ha g6 ea => ⟨_, rfl, _, rfl, _, rfl, _, rfl, _, _, rfl, rfl, _, rfl, slice_mid rfl e1 (g6 _ _ (g5 _ _ er4 rd)) fun pb H7 zs hb' g7 eb lz mz => ?_⟩⟩
      refine cat_strs (g7 _ _ ea) eb (by simp; omega) fun pc H8 hc g8 e8 => ?_
      refine ⟨_, rfl, _, rfl, _, rfl, ?_⟩
      unfold tNoPart
      refine slice_from e2 (g8 _ _ (g7 _ _ (g6 _ _ (g5 _ _ er4 rd)))) fun pd' H9 hd' g9 e9 => ?_
      refine cat_strs (g9 _ _ e8) e9 (by simp; omega) fun pe' H10 he' g10 e10 => ?_
      have gg := (((g6.trans g7).trans g8).trans g9).trans g10
      refine fin_ _ _ _ (g5.trans gg.but) ((d5.gr gg).mono (by omega)) e10 (by simp; omega) (fun z hz => ?_) ?_
      · rcases List.mem_append.mp hz with hz | hz
        · rcases List.mem_append.mp hz with hz | hz
          · exact tTake _ z hz
          · exact tL z (mz z hz)
        · exact tDrop _ z hz
      · rw [sm_app, sm_app]
        have h1 := sm_two ys (a := k2) (b := k2 + k4) (by omega)
        have h2 : sm zs ≤ L := by
          match zs, lz, mz with
          | [], _, _ => exact Nat.zero_le _
          | [z], _, mz =>
            rw [sm_cons]
            have := (ty z (mz z List.mem_cons_self)).l
            have h3 : sm [] = 0 := rfl
            omega
          | _ :: _ :: _, lz, _ => simp at lz
        omega
    have hw3 : 3 ≤ w1 := by
      have h1 : ¬ w1 = 1 := fun z => dF c1 (by rw [z])
      have h2 : ¬ w1 = 2 := fun z => dF c2 (by rw [z])
      omega
    -- a word of a row
    refine ⟨_, rfl, _, rfl, r, _, _, _, rfl, rfl, sl_of er4, at_str hk2', ⟨_, rfl⟩, ys[k2], _, rfl, rfl, rfl, ?_, fun p7 h7 => ?_⟩
    · have := (ty _ (List.getElem_mem hk2')).l
      omega
    have trow := ty _ (List.getElem_mem hk2')
    have hsm : ys[k2].length + (sm (ys.take k2) + sm (ys.drop (k2 + 1))) ≤ sm ys := by
      have h1 := sm_split ys k2
      rw [List.drop_eq_getElem_cons hk2', sm_cons] at h1
      omega
    have e7 : (upd H' p7 (.lst ((splitB ys[k2]).map V.str))) p7 = some (.lst ((splitB ys[k2]).map V.str)) := upd_same
    have g7 : Gr H' (upd H' p7 (.lst ((splitB ys[k2]).map V.str))) := Gr.new h7
    show gName 7 _ _ (upd H' p7 (.lst ((splitB ys[k2]).map V.str))) _
    generalize upd H' p7 (.lst ((splitB ys[k2]).map V.str)) = H7 at e7 g7
    generalize ys[k2] = row at trow hsm e7
    have e7c := (cut1_ne 32 (tl row))
    have lw : (splitB row).length = (tl row).count 32 + 1 := splitB_len row
    have wsm := splitB_sm row
    have wd := fun y hy => splitB_wd trow (y := y) hy
    have wne := splitB_ne row
    have rk := trow.k
    have rl := trow.l
    have lwm : ((splitB row).map V.str).length = (splitB row).length := List.length_map ..
    generalize splitB row = ws at e7 lw wsm wd wne lwm
    have wl1 : 1 ≤ ws.length := by omega
    have wl2 : ws.length ≤ 200 := by omega
    have d7 := d4.gr g7
    have p7d := d7.nel e7
    refine ⟨_, rfl, _, rfl, p7, _, rfl, .inl (sl_of e7), d, _, _, rfl, ?_, ?_, d7, by rw [b60]; omega, fun w4 H8 w40 w41 g8 d8 => ?_⟩
    · show (0 : Int) < ((ws.map V.str).length : Nat)
      rw [lwm]
      omega
    · show (((ws.map V.str).length : Nat) : Int) < _
      rw [lwm, b60]
      omega
    obtain ⟨k4, rfl⟩ := Int.eq_ofNat_of_zero_le w40
    have hk4 : k4 < ws.length := by
      have h : ((k4 : Nat) : Int) < ((ws.map V.str).length : Nat) := w41
      rw [lwm] at h
      omega
    show gName 8 _ [some (.ref d), some (.ref r), some (.int w1), some (.int (k2 : Int)), some (.int (k3 : Int)), some (.ref p5), none, some (.ref p7), none, none, none, none, none, none] _ _
    have e78 := g8 _ _ e7 p7d
    have g48 : GrBut d H' H8 := g7.thenBut g8
    -- the words that may stand
    refine ⟨⟨_, rfl⟩, longB, _, rfl, rfl, rfl, by decide +kernel, fun p9 h9 => ?_⟩
    have g9 : Gr H8 (upd H8 p9 (.lst ((splitB longB).map V.str))) := Gr.new h9
    have e9 : (upd H8 p9 (.lst ((splitB longB).map V.str))) p9 = some (.lst ((splitB longB).map V.str)) := upd_same
    show tSeq _ _ _ _ (upd H8 p9 (.lst ((splitB longB).map V.str)))
    generalize upd H8 p9 (.lst ((splitB longB).map V.str)) = H9 at g9 e9
    have w1' := longB_wd
    have n1 : (splitB longB).length ≤ 100 := by
      rw [splitB_len]
      decide +kernel
    generalize splitB longB = s1 at e9 w1' n1
    refine ⟨_, rfl, "*x", 12, rfl, rfl, by decide +kernel, by decide, by decide, "1", _, rfl, rfl, by decide +kernel, "*x", 13, rfl, rfl, by decide +kernel, by decide, by decide, "1", _, rfl, rfl, by decide +kernel, by show 2 ≤ sizeLine; decide, fun p10 h10 => ?_⟩
    have g10 : Gr H9 (upd H9 p10 (.lst ([("1" : Str) ++ Txt.mul "*x" 12, ("1" : Str) ++ Txt.mul "*x" 13].map V.str))) := Gr.new h10
    have w2' : ∀ y ∈ [("1" : Str) ++ Txt.mul "*x" 12, ("1" : Str) ++ Txt.mul "*x" 13], Wd y 200 := by
      have h : [("1" : Str) ++ Txt.mul "*x" 12, ("1" : Str) ++ Txt.mul "*x" 13].all (fun z => (tl z).all (fun c => decide (c < 128) && !decide (c = 32)) && decide (z.length ≤ 200)) = true := by decide +kernel
      exact fun y hy => wd_lit y _ (List.all_eq_true.mp h y hy)
    refine cat_strs (xs := s1) (ys := [("1" : Str) ++ Txt.mul "*x" 12, ("1" : Str) ++ Txt.mul "*x" 13]) (g10 _ _ e9) upd_same (by simp; omega) fun p11 H11 h11 g11 e11 => ?_
    have w12 : ∀ y ∈ s1 ++ [("1" : Str) ++ Txt.mul "*x" 12, ("1" : Str) ++ Txt.mul "*x" 13], Wd y 200 := fun y hy => (List.mem_append.mp hy).elim (w1' y) (w2' y)
    have n2 : (s1 ++ [("1" : Str) ++ Txt.mul "*x" 12, ("1" : Str) ++ Txt.mul "*x" 13]).length ≤ 102 := by simp; omega
    generalize s1 ++ [("1" : Str) ++ Txt.mul "*x" 12, ("1" : Str) ++ Txt.mul "*x" 13] = s2 at e11 w12 n2
    refine ⟨_, rfl, by show 9 ≤ sizeLine; decide, fun p12 h12 => ?_⟩
    have g12 : Gr H11 (upd H11 p12 (.lst ((["1[0,1]", "1/2*x[1,2]", "0[0,0]", "2/4[3,-1]", "1/0[0,1]", "1[100,1]", "1[00,1]", "1[0,01]", "1[0,1"] : List Str).map V.str))) := Gr.new h12
    have w3' : ∀ y ∈ (["1[0,1]", "1/2*x[1,2]", "0[0,0]", "2/4[3,-1]", "1/0[0,1]", "1[100,1]", "1[00,1]", "1[0,01]", "1[0,1"] : List Str), Wd y 200 := by
      have h : (["1[0,1]", "1/2*x[1,2]", "0[0,0]", "2/4[3,-1]", "1/0[0,1]", "1[100,1]", "1[00,1]", "1[0,01]", "1[0,1"] : List Str).all (fun z => (tl z).all (fun c => decide (c < 128) && !decide (c = 32)) && decide (z.length ≤ 200)) = true := by decide +kernel
      exact fun y hy => wd_lit y _ (List.all_eq_true.mp h y hy)
    refine cat_strs (xs := s2) (ys := ["1[0,1]", "1/2*x[1,2]", "0[0,0]", "2/4[3,-1]", "1/0[0,1]", "1[100,1]", "1[00,1]", "1[0,01]", "1[0,1"]) (g12 _ _ e11) upd_same (by simp; omega) fun p13 H13 h13 g13 e13 => ?_
    have w13 := fun y (hy : y ∈ s2 ++ (["1[0,1]", "1/2*x[1,2]", "0[0,0]", "2/4[3,-1]", "1/0[0,1]", "1[100,1]", "1[00,1]", "1[0,01]", "1[0,1"] : List Str)) => (List.mem_append.mp hy).elim (w12 y) (w3' y)
    have n3 : (s2 ++ (["1[0,1]", "1/2*x[1,2]", "0[0,0]", "2/4[3,-1]", "1/0[0,1]", "1[100,1]", "1[00,1]", "1[0,01]", "1[0,1"] : List Str)).length ≤ 111 := by simp; omega
    generalize s2 ++ (["1[0,1]", "1/2*x[1,2]", "0[0,0]", "2/4[3,-1]", "1/0[0,1]", "1[100,1]", "1[00,1]", "1[0,01]", "1[0,1"] : List Str) = s3 at e13 w13 n3
    have g813 : Gr H8 H13 := (((g9.trans g10).trans g11).trans g12).trans g13
    clear g9 g10 g11 g12 g13
    have e713 := g813 _ _ e78
    obtain ⟨wd0, wt, ews⟩ : ∃ a t, ws = a :: t := by
      cases ws with
      | nil => exact absurd rfl wne
      | cons a t => exact ⟨a, t, rfl⟩
    have ww0 : Wd wd0 L := wd wd0 (by rw [ews]; exact List.mem_cons_self)
    have hat0 : atI (ws.map V.str) 0 = some (.str wd0) := by
      rw [ews]
      exact atI_nat (j := 0) rfl
    refine ⟨_, rfl, "1", 40, rfl, rfl, by decide +kernel, by decide, by decide, "1", 41, rfl, rfl, by decide +kernel, by decide, by decide, _, rfl, p7, _, 0, _, rfl, rfl, sl_of e713, hat0, by show 10 ≤ sizeLine; decide, fun p14 h14 => ?_⟩
    have g14 : Gr H13 (upd H13 p14 (.lst ((["1*x[0,1]", "1[0]", "1/2/3[0,1]", "-3/9*a*a[99,0]", Txt.mul "1" 40, Txt.mul "1" 41, "both", "loop", "", wd0] : List Str).map V.str))) := Gr.new h14
    have w4' : ∀ y ∈ (["1*x[0,1]", "1[0]", "1/2/3[0,1]", "-3/9*a*a[99,0]", Txt.mul "1" 40, Txt.mul "1" 41, "both", "loop", ""] : List Str), Wd y 200 := by
      have h : (["1*x[0,1]", "1[0]", "1/2/3[0,1]", "-3/9*a*a[99,0]", Txt.mul "1" 40, Txt.mul "1" 41, "both", "loop", ""] : List Str).all (fun z => (tl z).all (fun c => decide (c < 128) && !decide (c = 32)) && decide (z.length ≤ 200)) = true := by decide +kernel
      exact fun y hy => wd_lit y _ (List.all_eq_true.mp h y hy)
    have w5' : ∀ y ∈ (["1*x[0,1]", "1[0]", "1/2/3[0,1]", "-3/9*a*a[99,0]", Txt.mul "1" 40, Txt.mul "1" 41, "both", "loop", "", wd0] : List Str), Wd y L := fun y hy => by
      have hy' : y ∈ (["1*x[0,1]", "1[0]", "1/2/3[0,1]", "-3/9*a*a[99,0]", Txt.mul "1" 40, Txt.mul "1" 41, "both", "loop", ""] : List Str) ++ [wd0] := hy
      rcases List.mem_append.mp hy' with h | h
      · exact (w4' y h).mono (by omega)
      · rw [List.mem_singleton.mp h]
        exact ww0
    refine cat_strs (xs := s3) (ys := ["1*x[0,1]", "1[0]", "1/2/3[0,1]", "-3/9*a*a[99,0]", Txt.mul "1" 40, Txt.mul "1" 41, "both", "loop", "", wd0]) (g14 _ _ e13) upd_same (by simp; omega) fun p15 H15 h15 g15 e15 => ?_
    have w15 := fun y (hy : y ∈ s3 ++ (["1*x[0,1]", "1[0]", "1/2/3[0,1]", "-3/9*a*a[99,0]", Txt.mul "1" 40, Txt.mul "1" 41, "both", "loop", "", wd0] : List Str)) => (List.mem_append.mp hy).elim (fun h => (w13 y h).mono (by omega : 200 ≤ L)) (w5' y)
    have n4 : 1 ≤ (s3 ++ (["1*x[0,1]", "1[0]", "1/2/3[0,1]", "-3/9*a*a[99,0]", Txt.mul "1" 40, Txt.mul "1" 41, "both", "loop", "", wd0] : List Str)).length ∧ (s3 ++ (["1*x[0,1]", "1[0]", "1/2/3[0,1]", "-3/9*a*a[99,0]", Txt.mul "1" 40, Txt.mul "1" 41, "both", "loop", "", wd0] : List Str)).length ≤ 121 := by simp; omega
    generalize s3 ++ (["1*x[0,1]", "1[0]", "1/2/3[0,1]", "-3/9*a*a[99,0]", Txt.mul "1" 40, Txt.mul "1" 41, "both", "loop", "", wd0] : List Str) = s4 at e15 w15 n4
    have g815 : Gr H8 H15 := (g813.trans g14).trans g15
    clear g14 g15 g813
    show gName 9 _ [some (.ref d), some (.ref r), some (.int w1), some (.int (k2 : Int)), some (.int (k3 : Int)), some (.ref p5), none, some (.ref p7), some (.int (k4 : Int)), some (.ref p13), none, none, none, none] _ _
    have d15 := d8.gr g815
    have p15d := d15.nel e15
    have l4m : ((s4).map V.str).length = s4.length := List.length_map ..
    refine ⟨_, rfl, _, rfl, _, rfl, p15, _, rfl, .inl (sl_of e15), d, _, _, rfl, ?_, ?_, d15, by rw [b60]; omega, fun w5 H16 w50 w51 g16 d16 => ?_⟩
    · show (0 : Int) < ((s4.map V.str).length : Nat)
      rw [l4m]
      omega
    · show (((s4.map V.str).length : Nat) : Int) < _
      rw [l4m, b60]
      omega
    obtain ⟨k5, rfl⟩ := Int.eq_ofNat_of_zero_le w50
    have hk5 : k5 < s4.length := by
      have h : ((k5 : Nat) : Int) < ((s4.map V.str).length : Nat) := w51
      rw [l4m] at h
      omega
    have e716 := g16 _ _ (g815 _ _ e78) p7d
    have er16 := (g48.trans (g815.thenBut g16)) _ _ er4 rd
    have gg16 : GrBut d H' H16 := g48.trans (g815.thenBut g16)
    refine ⟨p15, _, _, _, rfl, rfl, sl_of (g16 _ _ e15 p15d), at_str hk5, ?_⟩
    have wv := w15 _ (List.getElem_mem hk5)
    generalize s4[k5] = word at wv
    refine ⟨_, rfl, _, rfl, p7, _, _, _, rfl, rfl, sl_of e716, at_str hk4, ?_⟩
    show gName 11 _ [some (.ref d), some (.ref r), some (.int w1), some (.int (k2 : Int)), some (.int (k3 : Int)), some (.ref p5), none, some (.ref p7), some (.int (k4 : Int)), some (.ref p15), some (.str _), none, none, none] _ _
    have hws : (ws.take k4).length + 1 + (ws.drop (k4 + 1)).length = ws.length := by
      rw [List.length_take, List.length_drop]
      omega
    have hsw : ws[k4].length + (sm (ws.take k4) + sm (ws.drop (k4 + 1))) = sm ws := by
      have h1 := sm_split ws k4
      rw [List.drop_eq_getElem_cons hk4, sm_cons] at h1
      omega
    have wo := wd _ (List.getElem_mem hk4)
    generalize ws[k4] = own at wo hsw
    refine more_words (K := K) (w1 := w1) (word := word) (own := own) (L := L) rfl rfl rfl hw3 (by omega) (by omega) wv wo fun am mv H17 GG em lmv wmv smv => ?_
    show gName 12 _ [some (.ref d), some (.ref r), some (.int w1), some (.int (k2 : Int)), some (.int (k3 : Int)), some (.ref p5), none, some (.ref p7), some (.int (k4 : Int)), some (.ref p15), some (.str _), some (.str _), none, none] _ _
    -- the line
    refine ⟨⟨_, rfl⟩, _, rfl, _, rfl, _, rfl, slice_to rfl (GG _ _ e716) fun q1 H18 hq1 g18 eq1 => ⟨_, rfl, cat_strs eq1 (g18 _ _ em) (by rw [List.length_take]; omega) fun q2 H19 hq2 g19 eq2 => ?_⟩⟩
    have e1 : ((k4 : Int) + 1) = ((k4 + 1 : Nat) : Int) := by omega
    refine ⟨_, rfl, _, rfl, _, _, rfl, rfl, _, rfl, ?_⟩
    unfold tNoPart
    refine slice_from e1 (g19 _ _ (g18 _ _ (GG _ _ e716))) fun q3 H20 hq3 g20 eq3 => ?_
    refine cat_strs (g20 _ _ eq2) eq3 (by rw [List.length_append, List.length_take, List.length_drop]; omega) fun q4 H21 hq4 g21 eq4 => ?_
    have wall : ∀ x ∈ ws.take k4 ++ mv ++ ws.drop (k4 + 1), Wd x L := fun x hx => by
      rcases List.mem_append.mp hx with hx | hx
      · rcases List.mem_append.mp hx with hx | hx
        · exact wd x (List.mem_of_mem_take hx)
        · exact wmv x hx
      · exact wd x (List.mem_of_mem_drop hx)
    have jt := join_words wall
    have s1' : sm (ws.take k4 ++ mv ++ ws.drop (k4 + 1)) + (ws.take k4 ++ mv ++ ws.drop (k4 + 1)).length ≤ row.length + L + 6 := by
      rw [sm_app, sm_app, List.length_append, List.length_append]
      omega
    have s2' : (ws.take k4 ++ mv ++ ws.drop (k4 + 1)).length ≤ ws.length + 2 := by
      rw [List.length_append, List.length_append]
      omega
    have tline : Tt (Txt.join " " (ws.take k4 ++ mv ++ ws.drop (k4 + 1))) (2 * L + 100) (b + 2) := jt.mono (by omega) (by omega)
    have e32 : (" " : Str).length = 1 := by decide +kernel
    refine ⟨" ", q4, _, rfl, rfl, .inl (sl_of eq4), ?_, ?_⟩
    · rw [e32]
      show sm _ + _ ≤ _
      omega
    have lline := tline.l
    generalize Txt.join " " (ws.take k4 ++ mv ++ ws.drop (k4 + 1)) = line at tline lline ⊢
    have g1721 := ((g18.trans g19).trans g20).trans g21
    have er21 := g1721 _ _ (GG _ _ er16)
    refine ⟨_, rfl, _, rfl, _, rfl, slice_to rfl er21 fun t1 H22 ht1 g22 et1 => ⟨_, rfl, by show 1 ≤ sizeLine; decide, fun t2 ht2 => ?_⟩⟩
    have g23 : Gr H22 (upd H22 t2 (.lst ([line].map V.str))) := Gr.new ht2
    refine cat_strs (ys := [line]) (g23 _ _ et1) upd_same (by simp; omega) fun t3 H24 ht3 g24 et3 => ?_
    have e1' : ((k2 : Int) + 1) = ((k2 + 1 : Nat) : Int) := by omega
    refine ⟨_, rfl, _, rfl, _, _, rfl, rfl, _, rfl, ?_⟩
    refine slice_from e1' (g24 _ _ (g23 _ _ (g22 _ _ er21))) fun t4 H25 ht4 g25 et4 => ?_
    refine cat_strs (g25 _ _ et3) et4 (by simp; omega) fun t5 H26 ht5 g26 et5 => ?_
    have gend := ((((GG.trans g1721).trans g22).trans g23).trans g24).trans (g25.trans g26)
    refine fin_ _ _ _ (gg16.trans gend.but) ((d16.gr gend).mono (by omega)) et5 (by simp; omega) (fun z hz => ?_) ?_
    · rcases List.mem_append.mp hz with hz | hz
      · rcases List.mem_append.mp hz with hz | hz
        · exact tTake _ z hz
        · rw [List.mem_singleton.mp hz]
          exact tline
      · exact tDrop _ z hz
    · rw [sm_app, sm_app, sm_cons]
      have h3 : sm [] = 0 := rfl
      omega
end
end K86
set_option Elab.async false
set_option linter.all false
set_option maxRecDepth 100000
set_option maxHeartbeats 4000000
/-! the law -/
namespace K86
open PySem PySem.Spec PyProof.Rows L2
/-- how long a row may be after so many turns -/
def LL : Nat → Nat
  | 0 => 2500
  | t + 1 => 2 * LL t + 100
def SS : Nat → Nat
  | 0 => 3200000
  | t + 1 => SS t + (2 * LL t + 100)
theorem ll_ok {t : Nat} (h : t < 6) : 2500 ≤ LL t ∧ LL t ≤ 83100 ∧ SS t ≤ 3600000 := by
  have key : ∀ t : Fin 6, 2500 ≤ LL t.val ∧ LL t.val ≤ 83100 ∧ SS t.val ≤ 3600000 := by decide
  exact key ⟨t, h⟩
theorem sm_mem : ∀ {ys : List Str} {n : Nat}, (∀ y ∈ ys, y.length ≤ n) → sm ys ≤ ys.length * n
  | [], n, _ => Nat.zero_le _
  | y :: ys, n, h => by
    have := sm_mem fun z hz => h z (List.mem_cons_of_mem _ hz)
    have h2 := h y List.mem_cons_self
    rw [sm_cons, List.length_cons, Nat.add_mul]
    omega
section
variable {P : Program} {w : World} {K : PySem.W.Frag} {mg : Str → Option Value} {base : Heap}
def OddOk (K : PySem.W.Frag) (H : Hp) (v : V) : Prop := (∃ z : Str, v = .str z ∧ z.length + 2 ≤ sizeLine ∧ RowsOk (rowsOf z)) ∨ NotStr K H v
theorem GrB2.gr {d e : Addr} {H H1 H2 : Hp} (g : GrB2 d e H1 H2) (a : Gr H H1) (n : H d = none) (m : H e = none) : Gr H H2 := fun b o q => g b o (a b o q) (ne_of_none q n) (ne_of_none q m)
/-- what is told of a value, by both -/
theorem told_one {H : Hp} {v : V} (h : OddOk K H v) : ∃ d : PyData, Fit d 16000000 20 ∧ (∀ H' v', Dp K H' v' d → ∃ a, v' = .ref a) ∧ ∀ H1, Gr H H1 → ∀ (Q : VK) (E : XK), (∀ v' H', Gr H1 H' → Dp K H' v' d → Q v' H') → sp_law_due K [v] H1 Q E := by
  rcases h with ⟨z, rfl, hz, hok⟩ | hn
  · refine ⟨dueD (allR (rowsOf z) (rowsOf z).length [] 0 0), fit_due hok, fun H' v' dp => ?_, fun H1 g Q E q => ⟨_, rfl, .inl ⟨z, rfl, hz, hok, q⟩⟩⟩
    cases hq : allR (rowsOf z) (rowsOf z).length [] 0 0 with
    | ok l =>
      rw [hq] at dp
      cases dp
      exact ⟨_, rfl⟩
    | error e =>
      obtain ⟨e1, e2⟩ := e
      rw [hq] at dp
      cases dp
      exact ⟨_, rfl⟩
  · refine ⟨badD 0 0, fit_bad, fun H' v' dp => ?_, fun H1 g Q E q => ⟨_, rfl, .inr ⟨hn.gr g, q⟩⟩⟩
    cases dp
    exact ⟨_, rfl⟩
def sp_law (K : PySem.W.Frag) : Sp := fun vs H Q _ => ∃ (a : Addr) (ns : List Int), vs = [.ref a] ∧ SqL K H a (ns.map V.int) ∧ ns.length ≤ 63 ∧ ∀ H', Q (.bl true) H'
theorem sc_law : FnScope ["_law_script", "_law_k", "_law_draw_here", "_law_rows_here", "_law_turn", "_law_text", "_law_due_here", "_law_odd"] ["_law_script"] (defScope s_law) := ⟨rfl, rfl, rfl, by decide +kernel, rfl, by decide +kernel, by decide +kernel⟩
theorem ok_law {f : Addr} {fd : FuncData} (T : Tx K mg) (F : FnP K "law" s_law f fd) (F_law_take : TakeF P w K mg base) (F_law_draw : Fn P w K mg base CX0 2 "_law_draw" ["_law_script", "_law_k"] (sp_law_draw K)) (F_law_rows : Fn P w K mg base CX0 14 "_law_rows" ["_law_draw_here", "_law_deep", "_law_many", "_law_room"] (sp_law_rows K 4))
    (F_law_text_rows : Fn P w K mg base CX0 7 "_law_text_rows" ["_law_program"] (sp_law_text_rows K 4)) (F_law_due : Fn P w K mg base CX0 16 "_law_due" ["_law_text"] (sp_law_due K)) (F_law_said : Fn P w K mg base CX0 18 "_law_said" ["_law_text"] (sp_law_due K))
    (F_law_bent : Fn P w K mg base CX0 3 "_law_bent" ["_law_draw_here", "_law_rows_here"] sp_law_bent) : FnOkG P w K mg base 20 f fd ["_law_script"] (sp_law K) := by
  refine fnG_of (k := 19) F sc_law (fun vs H Q E h => ?_) (fun cdv A outer s H vs Q E hgA hr h => ⟨_, PSs.nox (pss_cons (ps_for PassesOwn.never rfl (pi_range1 (by rfl) T.b_range (pa_cons (pe_op op_add pe_int (pe_callB (call_min2 rfl) (by rfl) T.b_min (by decide +kernel) (pa_cons (pe_callB call_len_seq (by rfl) T.b_len (by decide +kernel) (pa_cons (pv 0) pa_nil)) (pa_cons pe_int pa_nil)))) pa_nil)) (pg_name (i := 1) sc_law.nd rfl (Or.inl rfl))
  (pss_cons (ps_set (i := 2) sc_law.nd rfl (Or.inl rfl) (pe_fn F_law_draw (hr.mono (by omega)) (pa_cons (pv 0) (pa_cons (pv 1) pa_nil))))
  (pss_cons (ps_set (i := 3) sc_law.nd rfl (Or.inl rfl) (pe_fn F_law_text_rows (hr.mono (by omega)) (pa_cons (pe_fn F_law_rows (hr.mono (by omega)) (pa_cons (pv 2) (pa_cons pe_int (pa_cons (pe_fn F_law_take (hr.mono (by omega)) (pa_cons (pv 2) (pa_cons pe_int pa_nil))) (pa_cons (pe_lst (pa_cons pe_int pa_nil)) pa_nil))))) pa_nil)))
  (pss_cons (ps_for PassesOwn.never rfl (pi_range1 (by rfl) T.b_range (pa_cons pe_int pa_nil)) (pg_name (i := 4) sc_law.nd rfl (Or.inl rfl))
  (pss_cons (ps_set (i := 3) sc_law.nd rfl (Or.inl rfl) (pe_cut (pe_ifExp (pt_cmpR op_gt (pe_callB call_len_str (by rfl) T.b_len (by decide +kernel) (pa_cons (pe_join pe_str (pv 3)) pa_nil)) pe_int (nomark _)) (pe_slice sl_list (pv 3) po_none (po_some pe_int)) (pv 3))))
  (pss_cons (ps_set (i := 5) sc_law.nd rfl (Or.inl rfl) (pe_join pe_str (pv 3)))
  (pss_cons (ps_set (i := 6) sc_law.nd rfl (Or.inl rfl) (pe_fn F_law_due (hr.mono (by omega)) (pa_cons (pv 5) pa_nil)))
  (pss_cons (ps_if (pt_cut (PW.pt (pw_or (pt_cmpR op_ne (pe_callB (call_reprD hgA hr.units) (by rfl) T.b_repr (by decide +kernel) (pa_cons (pe_fn F_law_said (hr.mono (by omega)) (pa_cons (pv 5) pa_nil)) pa_nil)) (pe_callB (call_reprD hgA hr.units) (by rfl) T.b_repr (by decide +kernel) (pa_cons (pv 6) pa_nil)) (nomark _)) (pw_or1 (pt_cmpR op_ne (pe_callB (call_reprD hgA hr.units) (by rfl) T.b_repr (by decide +kernel) (pa_cons (pe_fn F_law_said (hr.mono (by omega)) (pa_cons (pv 5) pa_nil)) pa_nil)) (pe_callB (call_reprD hgA hr.units) (by rfl) T.b_repr (by decide +kernel) (pa_cons (pv 6) pa_nil)) (nomark _)))))) (pss_one (ps_ret pe_bl)) pss_nil)
  (pss_one (ps_set (i := 3) sc_law.nd rfl (Or.inl rfl) (pe_fn F_law_bent (hr.mono (by omega)) (pa_cons (pv 2) (pa_cons (pv 3) pa_nil))))))))))
  (pss_cons (ps_set (i := 7) sc_law.nd rfl (Or.inl rfl) (pe_ix ix_list (pe_lst (pa_cons pe_non (pa_cons pe_int (pa_cons pe_bl (pa_cons (pv 3) (pa_cons pe_dnewK (pa_cons (pe_tup (pa_cons pe_str pa_nil)) (pa_cons pe_str (pa_cons pe_str pa_nil))))))))) (pe_fn F_law_take (hr.mono (by omega)) (pa_cons (pv 2) (pa_cons pe_int pa_nil))) (fun _ _ => rfl)))
  (pss_one (ps_if (pt_cmpR op_ne (pe_callB (call_reprD hgA hr.units) (by rfl) T.b_repr (by decide +kernel) (pa_cons (pe_fn F_law_said (hr.mono (by omega)) (pa_cons (pv 7) pa_nil)) pa_nil)) (pe_callB (call_reprD hgA hr.units) (by rfl) T.b_repr (by decide +kernel) (pa_cons (pe_fn F_law_due (hr.mono (by omega)) (pa_cons (pv 7) pa_nil)) pa_nil)) (nomark _)) (pss_one (ps_ret pe_bl)) pss_nil)))))))
  (pss_one (ps_ret pe_bl))), ?_⟩)
  · obtain ⟨a, ns, rfl, _⟩ := h
    rfl
  · obtain ⟨a, ns, rfl, hS, hl, q⟩ := h
    refine ⟨_, rfl, a, _, rfl, .inl hS, ?_⟩
    refine ⟨_, _, rfl, _, _, rfl, rfl, _, rfl, ?_⟩
    rw [List.length_map]
    obtain ⟨N, hN, eN⟩ : ∃ N : Nat, N ≤ 10 ∧ (2 + (if (8 : Int) < ((ns.length : Nat) : Int) then (8 : Int) else ((ns.length : Nat) : Int))) = (N : Int) := by
      by_cases c : (8 : Int) < ((ns.length : Nat) : Int)
      · exact ⟨10, Nat.le_refl _, by rw [if_pos c] <;> rfl⟩
      · exact ⟨2 + ns.length, by omega, by rw [if_neg c]; omega⟩
    rw [eN]
    have b62 : (2 : Int) ^ 62 = 4611686018427387904 := by decide
    have b60 : (2 : Int) ^ 60 = 1152921504606846976 := by decide
    refine ⟨by rw [b62]; omega, by rw [b62]; omega, ?_⟩
    refine for_range (lo := 0) (fun i σ Hh => Gr H Hh ∧ ∃ z1 z2 z3 z4 z5 z6 z7, σ = [some (.ref a), z1, z2, z3, z4, z5, z6, z7]) ⟨Gr.rfl' _, none, none, none, none, none, none, none, rfl⟩ (fun i σ Hh hi pv => ?_) (fun σ Hh pv => ?_)
    · obtain ⟨gh, z1, z2, z3, z4, z5, z6, z7, rfl⟩ := pv
      refine ⟨_, rfl, _, rfl, a, ns, i, by rw [Int.zero_add], gh.sl hS, by omega, by omega, fun d H1 g1 hdn hD => ?_⟩
      have hdH : H d = none := gh.free hdn
      refine ⟨_, rfl, _, rfl, d, 5, 0, rfl, by decide, by rw [b60]; decide, hD, by rw [b60]; decide, fun rr H2 r0 r1 g2 d2 => ?_⟩
      obtain ⟨r, rfl⟩ : ∃ r : Nat, rr = (r : Int) := ⟨rr.toNat, by omega⟩
      refine ⟨by show 1 ≤ sizeLine; decide, fun e he => ?_⟩
      have b37 : (2 : Int) ^ 37 = 137438953472 := by decide
      have b36 : (2 : Int) ^ 36 = 68719476736 := by decide
      have c3 : costR 3 = 10000000 := by decide
      have de : e ≠ d := d2.ne he
      have d3 : Draw (upd H2 e (.lst [.int 40])) d 1 := d2.upd (d2.ne he)
      have g3 : GrBut d H1 (upd H2 e (.lst [.int 40])) := g2.trans (Gr.new he).but
      refine ⟨d, e, 3, r, 1, by decide, rfl, by omega, d3, by rw [b37, c3]; decide, ⟨40, upd_same⟩, fun p H3 xs g4 d4 _ lx okx dp => ?_⟩
      have G2 : Gr H H2 := GrBut.gr g2 (gh.trans g1) hdH
      have G3 : Gr H H3 := GrB2.gr g4 (G2.trans (Gr.new he)) hdH (G2.free he)
      refine ⟨.ref p, xs, 3, by decide, by decide, rfl, dp, okx, by omega, fun H4 p4 ys g5 hp4 ht hly => ?_⟩
      have d5 := d4.gr g5
      have G4 : Gr H H4 := G3.trans g5
      have cr : cntR 3 = 320 := by decide
      have hly2 : ys.length ≤ 1280 := by
        rw [cr, lx] at hly
        omega
      have d6 : Draw H4 d 40000001 := d5.mono (by
        rw [c3]
        have : (r : Int) * 10000000 ≤ 4 * 10000000 := Int.mul_le_mul_of_nonneg_right (by omega) (by decide)
        omega)
      clear dp okx lx d5 d4 d3 d2 hD
      refine ⟨6, rfl, by rw [b62]; decide, by rw [b62]; decide, for_range (lo := 0) (fun t σ H' => Gr H H' ∧ Draw H' d (40000001 + 20 * (t : Int)) ∧ ∃ (p : Addr) (ys : List Str) (z1 z4 z5 z6 z7 : Option V), σ = [some (.ref a), z1, some (.ref d), some (.ref p), z4, z5, z6, z7] ∧ H' p = some (.lst (ys.map V.str)) ∧
        (∀ y ∈ ys, Tt y (LL t) (6 + 2 * t)) ∧ ys.length ≤ 1280 + t ∧ sm ys ≤ SS t) ?_ (fun t σ Hh ht6 pv => ?_) (fun σ Hh pv => ?_)⟩
      · refine ⟨G4, d6.mono (by omega), p4, ys, _, _, _, _, _, rfl, hp4, ht, hly2, ?_⟩
        have := sm_mem fun y hy => (ht y hy).l
        show sm ys ≤ 3200000
        omega
      · clear G4 d6 hp4 ht hly hly2 ys p4
        obtain ⟨G5, d6, p, ys, z1, z4, z5, z6, z7, rfl, hp, ht, hly, hsm⟩ := pv
        have t6 : t < 6 := by omega
        obtain ⟨k1, k2, k3⟩ := ll_ok t6
        refine ⟨fun v H' => Gr Hh H' ∧ ∃ (p : Addr) (ys : List Str), v = .ref p ∧ H' p = some (.lst (ys.map V.str)) ∧ (∀ y ∈ ys, Tt y (LL t) (6 + 2 * t)) ∧ ys.length ≤ 1280 + t ∧ sm ys ≤ SS t, ?_, fun v H5 hv => ?_⟩
        · have jb : (ys.map (·.length)).sum + ys.length * (Str.ofString "\n").length ≤ 16777216 := by
            have e1 : (Str.ofString "\n").length = 1 := by decide +kernel
            have e2 : (ys.map (·.length)).sum = sm ys := rfl
            rw [e1, e2]
            omega
          refine ⟨⟨_, rfl⟩, _, rfl, _, p, ys, rfl, rfl, .inl (sl_of hp), jb, _, rfl, by have := join_len ys; have es : sizeLine = 16777216 := PySem.sizeLine_eq; omega, _, _, rfl, rfl, _, rfl, ite2 (fun c => ?_) (fun c => ?_)⟩
          · refine ⟨_, rfl, _, rfl, slice_to (k := 40) rfl hp fun pa H5 ha g5 ea => ⟨g5, pa, _, rfl, ea, fun y hy => ht y (List.mem_of_mem_take hy), ?_, Nat.le_trans (sm_take _ _) hsm⟩⟩
            rw [List.length_take]
            omega
          · exact ⟨_, rfl, Gr.rfl' _, p, ys, rfl, hp, ht, hly, hsm⟩
        · obtain ⟨g5, p, ys, rfl, hp, ht, hly, hsm⟩ := hv
          have jb : (ys.map (·.length)).sum + ys.length * (Str.ofString "\n").length ≤ 16777216 := by
            have e1 : (Str.ofString "\n").length = 1 := by decide +kernel
            have e2 : (ys.map (·.length)).sum = sm ys := rfl
            rw [e1, e2]
            omega
          have jl := join_len ys
          have es : sizeLine = 16777216 := PySem.sizeLine_eq
          have odd : OddOk K H5 (.str (Txt.join (Str.ofString "\n") ys)) := .inl ⟨_, rfl, by omega, rows_of_join (fun y hy => (ht y hy).mono (by omega) (by omega)) (by omega)⟩
          obtain ⟨d0, fit, href, hdue⟩ := told_one odd
          refine ⟨⟨_, rfl⟩, _, rfl, _, p, ys, rfl, rfl, .inl (sl_of hp), jb, ?_⟩
          refine ⟨_, rfl, hdue H5 (Gr.rfl' _) _ E0 fun vd H6 g6 dd => ?_⟩
          have ns : ∀ z : Str, (!decide (V.str z = V.str z)) = false := fun z => by rw [decide_eq_true rfl] <;> rfl
          refine ⟨fun z H' => z = false ∧ Gr H6 H', ?_, fun z H7 hz => ?_⟩
          · obtain ⟨ad, ed⟩ := href _ _ dd
            refine ⟨_, rfl, hdue H6 g6 _ E0 fun v1 H7 g7 d1 => ?_⟩
            obtain ⟨a1, e1⟩ := href _ _ d1
            refine ⟨v1, d0, a1, rfl, e1, d1, fit, _, rfl, vd, d0, ad, rfl, ed, Dp.gr g7 _ _ dd, fit, rfl, _, rfl, iteF (ns _) ?_⟩
            refine ⟨_, rfl, hdue H7 (g6.trans g7) _ E0 fun v2 H8 g8 d2 => ?_⟩
            obtain ⟨a2, e2⟩ := href _ _ d2
            exact ⟨v2, d0, a2, rfl, e2, d2, fit, _, rfl, vd, d0, ad, rfl, ed, Dp.gr (g7.trans g8) _ _ dd, fit, rfl, _, rfl, ns _, g7.trans g8⟩
          · obtain ⟨rfl, g7⟩ := hz
            refine iteF rfl ?_
            have G7 : Gr H H7 := ((G5.trans g5).trans g6).trans g7
            refine ⟨_, rfl, _, rfl, d, p, ys, 40000001 + 20 * (t : Int), LL t, 6 + 2 * t, rfl, d6.gr ((g5.trans g6).trans g7), by rw [b36]; omega, (g6.trans g7) _ _ hp, by omega, ⟨k1, by omega⟩, ⟨by omega, by omega⟩, ht, fun p8 H8 zs g8 d8 hp8 hlz htz hsz => ?_⟩
            refine ⟨GrBut.gr g8 G7 hdH, d8.mono (by omega), p8, zs, _, _, _, _, _, rfl, hp8, fun y hy => (htz y hy).mono (Nat.le_refl _) (by omega), by omega, ?_⟩
            show sm zs ≤ SS t + (2 * LL t + 100)
            omega
      · obtain ⟨G5, d6, p, ys, z1, z4, z5, z6, z7, rfl, hp, _, _, _⟩ := pv
        have pd : p ≠ d := fun e => by
          obtain ⟨_, _, _, q2, _⟩ := d6
          rw [e, q2] at hp
          cases hp
        refine ⟨_, rfl, fun dd hdd => ⟨by show 1 ≤ sizeLine; decide, fun tt htt => ⟨by show 8 ≤ sizeLine; decide, fun l hl => ?_⟩⟩⟩
        have n1 := Gr.new (o := .dK []) hdd
        have n2 := Gr.new (o := .tup [.str "x = 1"]) htt
        have n3 := Gr.new (o := .lst [.non, .int 5, .bl true, .ref p, .ref dd, .ref tt, .str "\n", .str "x = 1\n"]) hl
        have nH := (n1.trans n2).trans n3
        have e1 := n3 _ _ (n2 _ _ (upd_same (H := Hh) (a := dd) (o := .dK [])))
        have e2 := n3 _ _ (upd_same (H := upd Hh dd (.dK [])) (a := tt) (o := .tup [.str "x = 1"]))
        have e3 := nH _ _ hp
        have e4 : (upd (upd (upd Hh dd (.dK [])) tt (.tup [.str "x = 1"])) l (.lst [.non, .int 5, .bl true, .ref p, .ref dd, .ref tt, .str "\n", .str "x = 1\n"])) l = some (.lst [.non, .int 5, .bl true, .ref p, .ref dd, .ref tt, .str "\n", .str "x = 1\n"]) := upd_same
        have d7 := d6.gr nH
        have ddd : dd ≠ d := d6.ne hdd
        have ttd : tt ≠ d := (d6.gr n1).ne htt
        have ld : l ≠ d := (d6.gr (n1.trans n2)).ne hl
        generalize upd (upd (upd Hh dd (.dK [])) tt (.tup [.str "x = 1"])) l (.lst [.non, .int 5, .bl true, .ref p, .ref dd, .ref tt, .str "\n", .str "x = 1\n"]) = H5 at nH e1 e2 e3 e4 d7
        refine ⟨_, rfl, d, 8, _, rfl, by decide, by rw [b60]; decide, d7, by rw [b60]; omega, fun rr H6 r0 r1 g6 d8 => ?_⟩
        obtain ⟨r, rfl⟩ : ∃ r : Nat, rr = (r : Int) := ⟨rr.toNat, by omega⟩
        have r8 : r < 8 := by omega
        have h1 := g6 _ _ e1 ddd
        have h2 := g6 _ _ e2 ttd
        have h3 := g6 _ _ e3 pd
        have h4 := g6 _ _ e4 ld
        have G6 : Gr H H6 := GrBut.gr g6 (G5.trans nH) hdH
        have rowsA : RowsOk (rowsOf (Str.ofString "\n")) := by
          have e : rowsOf (Str.ofString "\n") = [Str.ofString "", Str.ofString ""] := by decide +kernel
          rw [e]
          refine ⟨by decide, fun y hy => ?_⟩
          simp at hy
          rw [hy]
          exact tt_lit _ _ _ (by decide +kernel)
        have rowsB : RowsOk (rowsOf (Str.ofString "x = 1\n")) := by
          have e : rowsOf (Str.ofString "x = 1\n") = [Str.ofString "x = 1", Str.ofString ""] := by decide +kernel
          rw [e]
          refine ⟨by decide, fun y hy => ?_⟩
          simp at hy
          rcases hy with hy | hy
          · rw [hy]
            exact tt_lit _ _ _ (by decide +kernel)
          · rw [hy]
            exact tt_lit _ _ _ (by decide +kernel)
        have odd : ∃ v, ([V.non, .int 5, .bl true, .ref p, .ref dd, .ref tt, .str "\n", .str "x = 1\n"] : List V)[r]? = some v ∧ OddOk K H6 v := by
          have hc : r = 0 ∨ r = 1 ∨ r = 2 ∨ r = 3 ∨ r = 4 ∨ r = 5 ∨ r = 6 ∨ r = 7 := by omega
          rcases hc with rfl | rfl | rfl | rfl | rfl | rfl | rfl | rfl
          · exact ⟨_, rfl, .inr ⟨_, .base .non, kit_ty (by decide +kernel)⟩⟩
          · exact ⟨_, rfl, .inr ⟨_, .base (.int _), kit_ty (by decide +kernel)⟩⟩
          · exact ⟨_, rfl, .inr ⟨_, .base (.bl _), kit_ty (by decide +kernel)⟩⟩
          · exact ⟨_, rfl, .inr ⟨_, .base (.lst h3), kit_ty (by decide +kernel)⟩⟩
          · exact ⟨_, rfl, .inr ⟨_, .base (.dK h1), kit_ty (by decide +kernel)⟩⟩
          · exact ⟨_, rfl, .inr ⟨_, .base (.tup h2), kit_ty (by decide +kernel)⟩⟩
          · exact ⟨_, rfl, .inl ⟨_, rfl, by decide, rowsA⟩⟩
          · exact ⟨_, rfl, .inl ⟨_, rfl, by decide, rowsB⟩⟩
        obtain ⟨v, ev, ov⟩ := odd
        obtain ⟨d0, fit, href, hdue⟩ := told_one ov
        have ns : ∀ z : Str, (!decide (V.str z = V.str z)) = false := fun z => by rw [decide_eq_true rfl] <;> rfl
        refine ⟨l, _, _, v, rfl, rfl, sl_of h4, atI_nat ev, ?_⟩
        refine ⟨_, rfl, hdue H6 (Gr.rfl' _) _ E0 fun v1 H7 g7 d1 => ?_⟩
        obtain ⟨a1, e1⟩ := href _ _ d1
        refine ⟨v1, d0, a1, rfl, e1, d1, fit, _, rfl, hdue H7 g7 _ E0 fun v2 H8 g8 d2 => ?_⟩
        obtain ⟨a2, e2⟩ := href _ _ d2
        refine ⟨v2, d0, a2, rfl, e2, d2, fit, rfl, _, rfl, iteF (ns _) ?_⟩
        exact ⟨(G6.trans g7).trans g8, _, _, _, _, _, _, _, rfl⟩
    · obtain ⟨gh, z1, z2, z3, z4, z5, z6, z7, rfl⟩ := pv
      exact q _
end
end K86
set_option Elab.async false
set_option linter.all false
set_option maxRecDepth 100000
set_option maxHeartbeats 4000000
/-! a drawn row -/
namespace K86
open PySem PySem.Spec PyProof.Rows L2
section
variable {P : Program} {w : World} {K : PySem.W.Frag} {mg : Str → Option Value} {base : Heap}
abbrev BoxesF (P : Program) (w : World) (K : PySem.W.Frag) (mg : Str → Option Value) (base : Heap) : Prop := Fn P w K mg base CX0 3 "_law_boxes" ["_law_draw_here", "_law_most"] sp_law_boxes
abbrev PolyF (P : Program) (w : World) (K : PySem.W.Frag) (mg : Str → Option Value) (base : Heap) : Prop := Fn P w K mg base CX0 5 "_law_poly" ["_law_draw_here"] (sp_law_poly K)
abbrev FormF (P : Program) (w : World) (K : PySem.W.Frag) (mg : Str → Option Value) (base : Heap) : Prop := Fn P w K mg base CX0 5 "_law_form" ["_law_draw_here"] (sp_law_form K)
theorem hF_poly {d : Addr} (H : Hp) (n : Int) (Q : VK) (hd : Draw H d n) (hn : n < 2 ^ 38) (q : ∀ (p : Addr) (H' : Hp) (a : List (Mo × Int)), GrBut d H H' → Draw H' d (n + 1000) → okP a → Dp K H' (.ref p) (polyD a) → Q (.ref p) H') : sp_law_poly K [.ref d] H Q E0 := ⟨d, n, rfl, hd, hn, q⟩
theorem hF_form {d : Addr} (H : Hp) (n : Int) (Q : VK) (hd : Draw H d n) (hn : n < 2 ^ 38) (q : ∀ (p : Addr) (H' : Hp) (a : List (Kd × Int × Int)), GrBut d H H' → Draw H' d (n + 1000) → okF a → Dp K H' (.ref p) (formD a) → Q (.ref p) H') : sp_law_form K [.ref d] H Q E0 := ⟨d, n, rfl, hd, hn, q⟩
theorem RoomL.gr {H H1 : Hp} {e : Addr} (h : RoomL H e) (g : Gr H H1) : RoomL H1 e := by
  obtain ⟨r, q⟩ := h
  exact ⟨r, g _ _ q⟩
theorem ok_law_row (T : Tx K mg) (D0 : Nat) (F_law_take : TakeF P w K mg base) (F_law_boxes : BoxesF P w K mg base) (F_law_poly : PolyF P w K mg base) (F_law_form : FormF P w K mg base)
    (F_law_rows : Fn P w K mg base CX0 (6 + 2 * D0) "_law_rows" ["_law_draw_here", "_law_deep", "_law_many", "_law_room"] (sp_law_rows K D0)) : Fn P w K mg base CX0 (7 + 2 * D0) "_law_row" ["_law_draw_here", "_law_deep", "_law_room"] (sp_law_row K D0) := by
  refine Fn.mono (j := 6 + 2 * D0 + 1) (Fn.of T.f_law_row sc_law_row (fun _ _ _ _ _ _ us hl => match us, hl with | [_, _, _], _ => rfl) (fun vs H Q E h => ?_) (fun f cdv A outer s H vs Q E hr h => ⟨_, PSs.nox (pss_cons (ps_set (i := 3) sc_law_row.nd rfl (Or.inl rfl) (pe_fn F_law_take (hr.mono (by omega)) (pa_cons (pv 0) (pa_cons pe_int pa_nil))))
  (pss_cons (ps_if (pt_cut (PW.pt (pw_or (pt_cmpR op_lt (pv 3) pe_int (nomark _)) (pw_or1 (PW.pt (pw_and (pt_cmpR op_eq (pv 1) pe_int (nomark _)) (pw_and1 (pt_cmpR op_gt (pv 3) pe_int (nomark _))))))))) (pss_one (ps_ret (pe_tup (pa_cons pe_str (pa_cons (pe_ix ix_list (pe_fn F_law_boxes (hr.mono (by omega)) (pa_cons (pv 0) (pa_cons pe_int pa_nil))) pe_int (fun _ _ => rfl)) (pa_cons (pe_fn F_law_poly (hr.mono (by omega)) (pa_cons (pv 0) pa_nil)) pa_nil)))))) pss_nil)
  (pss_cons (ps_if (pt_cmpR op_eq (pv 3) pe_int (nomark _)) (pss_one (ps_ret (pe_tup (pa_cons pe_str (pa_cons (pe_callTy call_tuple_of (by rfl) T.b_tuple (by decide +kernel) (pa_cons (pe_lc (own := [("_law_box", 6)]) (g := (gName 6)) (tt := tYes) (by rfl) sc_law_row.nd (pi_list (pe_fn F_law_boxes (hr.mono (by omega)) (pa_cons (pv 0) (pa_cons pe_int pa_nil)))) (blkOk_by (own := [("_law_box", 6)]) (N := ["_law_draw_here", "_law_deep", "_law_room", "_law_way", "_law_count", "_law_pairs_here", "_law_box"]) (sc := defScope s_law_row) (by decide +kernel)) (fun _ _ _ _ _ => (pg_name (i := 6) sc_law_row.nd rfl (Or.inl rfl))) (fun _ _ _ _ _ => pts_nil) (fun _ _ _ _ _ => (pe_tup (pa_cons (pv 6) (pa_cons (pe_fn F_law_poly (hr.mono (by omega)) (pa_cons (pv 0) pa_nil)) pa_nil))))) pa_nil)) pa_nil))))) pss_nil)
  (pss_cons (ps_set (i := 4) sc_law_row.nd rfl (Or.inl rfl) (pe_fn F_law_poly (hr.mono (by omega)) (pa_cons (pv 0) pa_nil)))
  (pss_cons (ps_if (pt_cmpR op_lt (pv 3) pe_int (nomark _)) (pss_one (ps_ret (pe_tup (pa_cons pe_str (pa_cons (pv 4) (pa_cons (pe_fn F_law_rows (hr.mono (by omega)) (pa_cons (pv 0) (pa_cons (pe_op op_sub (pv 1) pe_int) (pa_cons (pe_op op_add pe_int (pe_fn F_law_take (hr.mono (by omega)) (pa_cons (pv 0) (pa_cons pe_int pa_nil)))) (pa_cons (pv 2) pa_nil))))) pa_nil)))))) pss_nil)
  (pss_cons (ps_set (i := 5) sc_law_row.nd rfl (Or.inl rfl) (pe_callTy call_tuple_of (by rfl) T.b_tuple (by decide +kernel) (pa_cons (pe_lc (own := [("_law_box", 6)]) (g := (gName 6)) (tt := tYes) (by rfl) sc_law_row.nd (pi_list (pe_fn F_law_boxes (hr.mono (by omega)) (pa_cons (pv 0) (pa_cons pe_int pa_nil)))) (blkOk_by (own := [("_law_box", 6)]) (N := ["_law_draw_here", "_law_deep", "_law_room", "_law_way", "_law_count", "_law_pairs_here", "_law_box"]) (sc := defScope s_law_row) (by decide +kernel)) (fun _ _ _ _ _ => (pg_name (i := 6) sc_law_row.nd rfl (Or.inl rfl))) (fun _ _ _ _ _ => pts_nil) (fun _ _ _ _ _ => (pe_tup (pa_cons (pv 6) (pa_cons (pe_fn F_law_form (hr.mono (by omega)) (pa_cons (pv 0) pa_nil)) pa_nil))))) pa_nil)))
  (pss_one (ps_ret (pe_tup (pa_cons pe_str (pa_cons (pv 4) (pa_cons (pv 5) (pa_cons (pe_fn F_law_rows (hr.mono (by omega)) (pa_cons (pv 0) (pa_cons (pe_op op_sub (pv 1) pe_int) (pa_cons (pe_op op_add pe_int (pe_fn F_law_take (hr.mono (by omega)) (pa_cons (pv 0) (pa_cons pe_int pa_nil)))) (pa_cons (pv 2) pa_nil))))) pa_nil))))))))))))), ?_⟩)) (by omega)
  · obtain ⟨d, e, D, n, _, rfl, _⟩ := h
    rfl
  · obtain ⟨d, e, D, n, hD, rfl, hd, hn, he, q⟩ := h
    rw [b37] at hn
    have hc := costR_pos D
    have ed := he.ned hd
    refine ⟨_, rfl, d, 6, n, rfl, by decide, by rw [b60]; decide, hd, by rw [b60]; omega, fun r H1 r0 r1 g1 d1 => ?_⟩
    have he1 := he.but g1 ed
    refine ⟨fun b H' => H' = H1 ∧ (b = false → 2 ≤ r ∧ (D = 0 → r ≤ 2)), ?_, ?_⟩
    · refine ⟨_, rfl, _, _, rfl, rfl, _, rfl, ite2 (fun c => ?_) (fun c => ?_)⟩
      · exact ⟨rfl, fun z => by cases z⟩
      · refine ⟨_, rfl, rfl, _, rfl, ite2 (fun c1 => ?_) (fun c1 => ?_)⟩
        · refine ⟨_, rfl, _, _, rfl, rfl, _, rfl, rfl, fun z => ?_⟩
          have := dF z
          have h2 := dF c
          omega
        · have h2 := dF c
          refine ⟨rfl, fun _ => ⟨by omega, fun z => ?_⟩⟩
          exact absurd (by rw [z] <;> rfl : V.int (D : Int) = V.int 0) (dF c1)
    rintro b H' ⟨rfl, hb⟩
    refine ite2 (fun c => ?_) (fun c => ?_)
    · -- set
      refine ⟨_, rfl, d, 1, _, rfl, by decide, by decide, d1, by rw [b40]; omega, fun p H2 ys g2 d2 e2 ny l1 l2 => ?_⟩
      obtain ⟨y, t, rfl⟩ : ∃ y t, ys = y :: t := by
        cases ys with
        | nil => simp at l1
        | cons y t => exact ⟨y, t, rfl⟩
      refine ⟨p, _, 0, .str y, rfl, rfl, sl_of e2, atI_nat (j := 0) rfl, _, rfl, d, _, rfl, d2, by rw [b38]; omega, fun p3 H3 l g3 d3 okl dl => ⟨by show 3 ≤ sizeLine; decide, fun t4 h4 => ?_⟩⟩
      have td := d3.ne h4
      have gg := (g1.trans g2).trans g3
      have he3 := he.but gg ed
      have gt : Gr H3 (upd H3 t4 (.tup [.str "set", .str y, .ref p3])) := Gr.new h4
      refine q t4 _ _ (gg.mut (gg.free h4 td)).b2 ((d3.upd td).mono (by omega)) (he3.gr gt) (okRow_base (.inl ⟨y, l, ny y List.mem_cons_self, okl, rfl⟩)) (.tup (st_of upd_same) (.cons (.str _) (.cons (.str _) (.cons (Dp.gr gt _ _ dl) .nil))))
    have hb2 := hb c
    refine ⟨_, rfl, rfl, _, rfl, ite2 (fun c1 => ?_) (fun c1 => ?_)⟩
    · -- both
      refine ⟨_, rfl, d, 6, _, rfl, by decide, by decide, d1, by rw [b40]; omega, fun p H2 ys g2 d2 e2 ny l1 l2 => ⟨p, rfl, ⟨_, sl_of e2⟩, fun D' hD' => ?_⟩⟩
      refine lc_draws (sp_law_poly K) polyD okP nl_poly hD' (n := n + 1 + 100) (d := d) (b := p) (ys := ys) (by rw [b38]; omega) (by omega) d2 e2 hF_poly (i := 6) (fun _ => by rfl) (fun _ => by rfl) (fun _ => by rfl) (fun H3 xs l g3 d3 e3 dx ll ok => ?_)
      refine ⟨D', xs, rfl, .inl ⟨sl_of e3, fun t ht => ⟨by show 2 ≤ sizeLine; decide, fun t2 ht2 => ?_⟩⟩⟩
      have gg := (g1.trans g2).trans g3
      have he3 := he.but gg ed
      have gt : Gr H3 (upd H3 t (.tup xs)) := Gr.new ht
      have gt2 : Gr (upd H3 t (.tup xs)) (upd (upd H3 t (.tup xs)) t2 (.tup [.str "both", .ref t])) := Gr.new ht2
      have dt : Dp K (upd H3 t (.tup xs)) (.ref t) (bothD l) := .tup (st_of upd_same) (DpAll.gr gt _ _ dx)
      refine q t2 _ _ ((gg.trans gt.but).trans gt2.but).b2 (((d3.gr gt).gr gt2).mono (by omega)) ((he3.gr gt).gr gt2) (okRow_base (.inr ⟨l, by omega, fun y hy => ⟨ny _ (ok y hy).1, (ok y hy).2⟩, rfl⟩)) (.tup (st_of upd_same) (.cons (.str _) (.cons (Dp.gr gt2 _ _ dt) .nil)))
    -- count
    have hr2 : D ≠ 0 := fun z => by
      have h1 : ¬ r = 2 := fun z => dF c1 (by rw [z])
      have h2 := hb2.1
      have h3 := hb2.2 z
      omega
    obtain ⟨D1, rfl⟩ : ∃ D1, D = D1 + 1 := ⟨D - 1, by omega⟩
    have hc1 := costR_pos D1
    rw [costR_succ] at hn q
    refine ⟨_, rfl, d, _, rfl, d1, by rw [b38]; omega, fun pc H2 cl g2 d2 okc dc => ?_⟩
    have he2 := he1.but g2 ed
    have k12 := d1.kt g2
    refine ⟨_, rfl, _, _, rfl, rfl, _, rfl, ite2 (fun c2 => ?_) (fun c2 => ?_)⟩
    · -- loop
      refine ⟨_, rfl, _, rfl, _, rfl, _, _, rfl, rfl, _, rfl, d, 3, _, rfl, by decide, by rw [b60]; decide, d2, by rw [b60]; omega, fun r3 H3 r30 r31 g3 d3 => ⟨_, _, rfl, rfl, _, rfl, d, e, D1, (1 + r3).toNat, _, by omega, ?_, by omega, d3, by rw [b37]; omega, he2.but g3 ed, fun p4 H4 xs g4 d4 r4 lx okx dx => ?_⟩⟩
      · show [V.ref d, V.int (((D1 + 1 : Nat) : Int) - 1), V.int (1 + r3), V.ref e] = _
        rw [show (((D1 + 1 : Nat) : Int) - 1) = D1 by omega, show (((1 + r3).toNat : Nat) : Int) = 1 + r3 by omega]
      · refine ⟨by show 3 ≤ sizeLine; decide, fun t ht => ?_⟩
        have gt : Gr H4 (upd H4 t (.tup [.str "loop", .ref pc, .ref p4])) := Gr.new ht
        have k24 : Kt H2 H4 := (g3.b2.trans g4).kt d2.nt he2.nt
        have gg : GrB2 d e H H4 := ((g1.trans g2).trans g3).b2.trans g4
        refine q t _ _ (gg.trans gt.b2) ((d4.gr gt).mono ?_) (r4.gr gt) (.inr (.inl ⟨cl, xs, okc, by omega, okx, rfl⟩)) (.tup (st_of upd_same) (.cons (.str _) (.cons (Dp.gr gt _ _ (Dp.kt k24 _ _ (nl_poly _) dc)) (.cons (Dp.gr gt _ _ dx) .nil))))
        have : (((1 + r3).toNat : Nat) : Int) * costR D1 ≤ 3 * costR D1 := Int.mul_le_mul_of_nonneg_right (by omega) (by omega)
        omega
    · -- jump
      refine ⟨_, rfl, d, 4, _, rfl, by decide, by decide, d2, by rw [b40]; omega, fun p H3 ys g3 d3 e3 ny l1 l2 => ⟨p, rfl, ⟨_, sl_of e3⟩, fun D' hD' => ?_⟩⟩
      refine lc_draws (sp_law_form K) formD okF nl_form hD' (n := n + 1 + 1000 + 100) (d := d) (b := p) (ys := ys) (by rw [b38]; omega) (by omega) d3 e3 hF_form (i := 6) (fun _ => by rfl) (fun _ => by rfl) (fun _ => by rfl) (fun H4 xs l g4 d4 e4 dx ll ok => ?_)
      refine ⟨D', xs, rfl, .inl ⟨sl_of e4, fun t ht => ?_⟩⟩
      have gt : Gr H4 (upd H4 t (.tup xs)) := Gr.new ht
      have dt : Dp K (upd H4 t (.tup xs)) (.ref t) (jumpD l) := .tup (st_of upd_same) (DpAll.gr gt _ _ dx)
      have d5 := d4.gr gt
      have he5 := (he2.but (g3.trans g4) ed).gr gt
      have g25 : GrBut d H2 (upd H4 t (.tup xs)) := (g3.trans g4).trans gt.but
      generalize upd H4 t (.tup xs) = H5 at dt d5 he5 g25
      refine ⟨_, rfl, _, rfl, _, rfl, _, rfl, _, _, rfl, rfl, _, rfl, d, 3, _, rfl, by decide, by rw [b60]; decide, d5, by rw [b60]; omega, fun r3 H6 r30 r31 g6 d6 => ⟨_, _, rfl, rfl, _, rfl, d, e, D1, (1 + r3).toNat, _, by omega, ?_, by omega, d6, by rw [b37]; omega, he5.but g6 ed, fun p7 H7 xs7 g7 d7 r7 lx okx dx7 => ?_⟩⟩
      · show [V.ref d, V.int (((D1 + 1 : Nat) : Int) - 1), V.int (1 + r3), V.ref e] = _
        rw [show (((D1 + 1 : Nat) : Int) - 1) = D1 by omega, show (((1 + r3).toNat : Nat) : Int) = 1 + r3 by omega]
      · refine ⟨by show 4 ≤ sizeLine; decide, fun t8 ht8 => ?_⟩
        have gt8 : Gr H7 (upd H7 t8 (.tup [.str "jump", .ref pc, .ref t, .ref p7])) := Gr.new ht8
        have k57 : Kt H5 H7 := (g6.b2.trans g7).kt d5.nt he5.nt
        have k27 : Kt H2 H7 := ((g25.trans g6).b2.trans g7).kt d2.nt he2.nt
        have gg : GrB2 d e H H7 := (((g1.trans g2).trans g25).trans g6).b2.trans g7
        refine q t8 _ _ (gg.trans gt8.b2) ((d7.gr gt8).mono ?_) (r7.gr gt8) (.inr (.inr ⟨cl, l, xs7, okc, by omega, fun y hy => ⟨ny _ (ok y hy).1, (ok y hy).2⟩, by omega, okx, rfl⟩)) (.tup (st_of upd_same) (.cons (.str _) (.cons (Dp.gr gt8 _ _ (Dp.kt k27 _ _ (nl_poly _) dc)) (.cons (Dp.gr gt8 _ _ (Dp.kt k57 _ _ (nl_jump _) dt)) (.cons (Dp.gr gt8 _ _ dx7) .nil)))))
        have : (((1 + r3).toNat : Nat) : Int) * costR D1 ≤ 3 * costR D1 := Int.mul_le_mul_of_nonneg_right (by omega) (by omega)
        omega
end
end K86
set_option Elab.async false
set_option linter.all false
set_option maxRecDepth 100000
set_option maxHeartbeats 4000000
/-! all together -/
namespace K86
open PySem PySem.Spec PyProof.Rows L2
section
variable {P : Program} {w : World} {K : PySem.W.Frag} {mg : Str → Option Value} {base : Heap}
theorem all_rows0 (T : Tx K mg) : Fn P w K mg base CX0 6 "_law_rows" ["_law_draw_here", "_law_deep", "_law_many", "_law_room"] (sp_law_rows K 0) := by
  refine Fn.mono (j := 0 + 1) (Fn.of T.f_law_rows sc_law_rows (fun _ _ _ _ _ _ us hl => match us, hl with | [_, _, _, _], _ => rfl) (fun vs H Q E h => ?_) (fun f cdv A outer s H vs Q E hr h => ?_)) (by omega)
  · obtain ⟨d, e, D, m, n, hD, _⟩ := h
    exact absurd hD (Nat.not_lt_zero _)
  · obtain ⟨d, e, D, m, n, hD, _⟩ := h
    exact absurd hD (Nat.not_lt_zero _)
theorem all_texts0 (T : Tx K mg) : Fn P w K mg base CX0 3 "_law_text_rows" ["_law_program"] (sp_law_text_rows K 0) := by
  refine Fn.mono (j := 0 + 1) (Fn.of T.f_law_text_rows sc_law_text_rows (fun _ _ _ _ _ _ us hl => match us, hl with | [_], _ => rfl) (fun vs H Q E h => ?_) (fun f cdv A outer s H vs Q E hr h => ?_)) (by omega)
  · obtain ⟨v, ds, D, hD, _⟩ := h
    exact absurd hD (Nat.not_lt_zero _)
  · obtain ⟨v, ds, D, hD, _⟩ := h
    exact absurd hD (Nat.not_lt_zero _)
theorem all_law {f : Addr} {fd : FuncData} (T : Tx K mg) (F : FnP K "law" s_law f fd) : FnOkG P w K mg base 20 f fd ["_law_script"] (sp_law K) := by
  have mixed := ok_law_mixed (P := P) (w := w) (base := base) T
  have take := ok_law_take T mixed
  have draw := ok_law_draw T mixed
  have boxes := ok_law_boxes T take
  have mono := ok_law_mono T take boxes
  have number := ok_law_number T take
  have poly := ok_law_poly T take mono number
  have form := ok_law_form T take mono
  have rows1 := ok_law_rows T 0 (ok_law_row T 0 take boxes poly form (all_rows0 T))
  have rows2 := ok_law_rows T 1 (ok_law_row T 1 take boxes poly form rows1)
  have rows3 := ok_law_rows T 2 (ok_law_row T 2 take boxes poly form rows2)
  have rows4 := ok_law_rows T 3 (ok_law_row T 3 take boxes poly form rows3)
  have tt := ok_law_term_text (P := P) (w := w) (base := base) T
  have pt := ok_law_poly_text T tt
  have ft := ok_law_form_text T tt
  have texts := ok_law_text_rows T 3 pt ft (ok_law_text_rows T 2 pt ft (ok_law_text_rows T 1 pt ft (ok_law_text_rows T 0 pt ft (all_texts0 T))))
  have bent := ok_law_bent T take
  have isn := ok_law_is_name (P := P) (w := w) (base := base) T
  have figs := ok_law_figures (P := P) (w := w) (base := base) T
  have isnum := ok_law_is_number T figs
  have monoof := ok_law_mono_of T isn
  have pterm := poly_term_G (ok_law_poly_term T monoof isnum)
  have fterm := form_term_G (ok_law_form_term T monoof isnum figs)
  have lplus := ok_law_plus (P := P) (w := w) (base := base) T
  have psum := ok_law_sum_in (eG := eM) T lplus termL termL_small (by decide +kernel) (fun k => ⟨_, rfl⟩) srt_gM
  have fsum := ok_law_sum_in (eG := eK) T lplus pairU (fun z t h => pairU_lt h) (by decide +kernel) (fun k => ⟨_, rfl⟩) (fun l => srtOk_ferm l)
  have lpoly := rd_poly (ok_law_poly_in T pterm psum)
  have lform := rd_form (ok_law_form_in T fterm fsum)
  have fail := ok_law_fail (P := P) (w := w) (base := base) T
  have next := ok_law_next T fail isn
  have told := ok_law_told T fail
  have pairs := ok_law_pairs T fail next told
  have one0 := ok_law_one T 0 fail lpoly lform told pairs (ok_law_within0 T)
  have one1 := ok_law_one T 1 fail lpoly lform told pairs (ok_law_within T 0 fail next one0)
  have one2 := ok_law_one T 2 fail lpoly lform told pairs (ok_law_within T 1 fail next one1)
  have one3 := ok_law_one T 3 fail lpoly lform told pairs (ok_law_within T 2 fail next one2)
  have due := ok_law_due T fail next one3
  have pisn := ok_is_name (P := P) (w := w) (base := base) T
  have numof := ok_number_of (P := P) (w := w) (base := base) T
  have mprod := ok_mono_product (P := P) (w := w) (base := base) T
  have frac := ok_fraction T (ok_common_divisor (P := P) (w := w) (base := base) T)
  have plus := ok_plus T frac
  have termin := ok_term_in T numof pisn mprod
  have pairin := ok_pair_in T pisn mprod (ok_share_in T numof frac) (ok_count_in T numof)
  have bad := ok_bad_init (P := P) (w := w) (base := base) T
  have small := ok_is_small (P := P) (w := w) (base := base) T
  have polyin := ok_poly_in T bad termin (ok_poly_of T)
  have formin := ok_form_in T bad pairin (ok_added T plus) (ok_form_of T small (ok_pairs_of T small))
  have need := ok_need T bad
  have alone := ok_need_alone T need
  have ptake := ok_take T (ok_words2 T) pisn need
  have ppairs := ok_take_pairs T need alone ptake
  have row0 := ok_take_row T 0 polyin formin need alone ppairs (ok_take_within0 T)
  have row1 := ok_take_row T 1 polyin formin need alone ppairs (ok_take_within T 0 need alone ptake row0)
  have row2 := ok_take_row T 2 polyin formin need alone ppairs (ok_take_within T 1 need alone ptake row1)
  have row3 := ok_take_row T 3 polyin formin need alone ppairs (ok_take_within T 2 need alone ptake row2)
  have read := ok_read_program T bad (ok_lines_init T) (ok_take_all T need ptake row3)
  have said := ok_law_said T read
  exact ok_law T F take draw rows4 texts due said bent
end
end K86
set_option Elab.async false
set_option linter.all false
set_option maxRecDepth 100000
set_option maxHeartbeats 0
/-! the end -/
namespace K86
open PySem PySem.Spec PyProof.Rows L2
theorem walked {q : Program} {loose : List PySem.Str} {XP : (PySem.Str → Option Value) → Heap → Prop} {d : DefRec} (hdf : d.params.defaults = []) (hd : d.name = ("law" : PySem.Str)) :
    PySem.W.WalkO q loose XP hk.says PySem.Challenge.rw_roundless_k86_whole_any_text_of_programs.row.toRowW d [] (fun f vs => PySem.call f vs) := by
  refine Att.attach_call (l := PySem.Challenge.rw_roundless_k86_whole_any_text_of_programs) (n := 63) rfl hdf fun w s₀ s₁ mg mb fa o pm cd doc a vs ns G Y ho hd2 hcd hmg hobj hints hlen hg => ?_
  obtain ⟨K, KX, S⟩ := Y
  have T : Tx K mg := ⟨S, _, KX, G.T.g⟩
  rw [hd] at hmg
  obtain ⟨f, fd, F, hf⟩ := T.f_law
  rw [hmg] at hf
  cases hf
  have hb := FunD.bindsA (ps := ["_law_script"]) F fun _ _ _ _ _ _ us hl => match us, hl with | [_], _ => rfl
  have e : sizeLine = 16777216 := PySem.sizeLine_eq
  exact law_callG KX G.T.g G.T.b G.T.builtins G.T.nolimit hg hobj hints (by omega) ⟨rfl, by decide, by decide⟩ (k := 20) (sp := sp_law K) (fun base _ _ => all_law T F) (fun s v => hb s [v] rfl) fun H _ hS => ⟨a, ns, rfl, hS, hlen, fun _ => rfl⟩
end K86
open PySem PySem.W PySem.Calls PyProof.Rows
theorem PySem.Challenge.cw_roundless_k86_whole_any_text_of_programs_holds : PySem.Challenge.rw_roundless_k86_whole_any_text_of_programs.Holds := by
  w_on; o_law
  refine HandSHeadRun.head_any (r := K86.R) (q := view K86.R.prog [87]) (H := K86.hk) (ob := K86.ob) (M := 6000) (loose := K86.loose) (d := HandSHeadRun.topDef K86.R.prog 87) (kwd := []) K86.ob_eq
    (by kernel_rfl) (fun s => by kernel_rfl) K86.run (by kernel_rfl) (by kernel_rfl) (by kernel_rfl) (by rfl) (by first | assumption | decide +kernel) (by decide +kernel) ⟨rfl, rfl, rfl, rfl, rfl, by decide +kernel⟩ ?hw ?hc
  case hw => w_witness2
  case hc => exact K86.walked (by kernel_rfl) (by kernel_rfl)
