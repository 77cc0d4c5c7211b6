import PyProof.Rows.All
import Wide.All
import OpenK.AllK
import Wide.FinOn
import HandS.ForMost
import HandS.IsInst
import HandS.Slots
import HandS.SlotsOwn
import HandS.Style
import HandS.Flow
import HandS.Conv
import HandS.Star
import HandS.Deep
import HandS.Zip
import HandS.DictComp
import HandS.SortInts
import HandS.Strs
import HandS.Evl
import HandS.Defaults
import HandS.WordsExc
import HandS.TryOnly
import HandS.ExcInit
import HandS.ExcField
import HandS.AnyAll
import HandS.EndTab
import HandS.HeadWalk
import HandS.TupAny
import KE.KExcSuper
import KE.KStateDown
import KE.GoesEnum
import KE.GoesZip
import HandS.Head2
import HandS.HeadHook2
import HandS.Head0
import HandS.Head1
import HandS.HeadEnd
import HandS.HeadHook1
import HandS.HeadHook3
import HandS.HeadHook4
import KE.KDictZip
import HandS.Nested
import KE.KExcInit
import HandS.Property
import HandS.WideBits
import HandS.Wide
import HandS.SetFor
import HandS.ExcOwn
import PySem.Challenge.RW_squaretimes_k74_whole_lots_make_formulas
set_option Elab.async false
set_option linter.all false
set_option maxRecDepth 100000
set_option maxHeartbeats 4000000
/-! text SqA -/
namespace Sq
open PySem PySem.Spec PyProof.Rows L2
/-! ### the text, by places; the names of each def by slot (printed by gen.py) -/
def topS (i : Nat) : Stmt :=
  PySem.Challenge.pw_squaretimes_k74_whole_lots_make_formulas.main.body.getD i (.Pass ⟨0, 0, 0, 0⟩)
abbrev s_Refused_init : Stmt := inClass (topS 10) 0
abbrev s_is_whole : Stmt := topS 15
theorem n_is_whole : FnScope ["value"] ["value"] (defScope s_is_whole) :=
  ⟨rfl, rfl, rfl, by decide +kernel, rfl, by decide +kernel, by decide +kernel⟩
abbrev s_is_integer : Stmt := topS 16
theorem n_is_integer : FnScope ["value"] ["value"] (defScope s_is_integer) :=
  ⟨rfl, rfl, rfl, by decide +kernel, rfl, by decide +kernel, by decide +kernel⟩
abbrev s_common_of : Stmt := topS 18
theorem n_common_of : FnScope ["one", "other"] ["one", "other"] (defScope s_common_of) :=
  ⟨rfl, rfl, rfl, by decide +kernel, rfl, by decide +kernel, by decide +kernel⟩
abbrev s_Terms_init : Stmt := inClass (topS 20) 1
theorem n_Terms_init : FnScope ["self", "top", "bottom"] ["self", "top", "bottom"] (defScope s_Terms_init) :=
  ⟨rfl, rfl, rfl, by decide +kernel, rfl, by decide +kernel, by decide +kernel⟩
abbrev s_Ratio_init : Stmt := inClass (topS 21) 1
theorem n_Ratio_init : FnScope ["self", "top", "bottom", "shared", "less"] ["self", "top", "bottom"] (defScope s_Ratio_init) :=
  ⟨rfl, rfl, rfl, by decide +kernel, rfl, by decide +kernel, by decide +kernel⟩
abbrev s_Ratio_top : Stmt := inClass (topS 21) 3
theorem n_Ratio_top : FnScope ["self"] ["self"] (defScope s_Ratio_top) :=
  ⟨rfl, rfl, rfl, by decide +kernel, rfl, by decide +kernel, by decide +kernel⟩
abbrev s_Ratio_bottom : Stmt := inClass (topS 21) 4
theorem n_Ratio_bottom : FnScope ["self"] ["self"] (defScope s_Ratio_bottom) :=
  ⟨rfl, rfl, rfl, by decide +kernel, rfl, by decide +kernel, by decide +kernel⟩
abbrev s_Ratio_bool : Stmt := inClass (topS 21) 13
theorem n_Ratio_bool : FnScope ["self"] ["self"] (defScope s_Ratio_bool) :=
  ⟨rfl, rfl, rfl, by decide +kernel, rfl, by decide +kernel, by decide +kernel⟩
abbrev s_ratio_of : Stmt := topS 23
theorem n_ratio_of : FnScope ["top", "bottom"] ["top", "bottom"] (defScope s_ratio_of) :=
  ⟨rfl, rfl, rfl, by decide +kernel, rfl, by decide +kernel, by decide +kernel⟩
abbrev s_are_even_rows : Stmt := topS 29
theorem n_are_even_rows : FnScope ["value", "row"] ["value"] (defScope s_are_even_rows) :=
  ⟨rfl, rfl, rfl, by decide +kernel, rfl, by decide +kernel, by decide +kernel⟩
abbrev s_is_table : Stmt := topS 30
theorem n_is_table : FnScope ["value", "row", "entry"] ["value"] (defScope s_is_table) :=
  ⟨rfl, rfl, rfl, by decide +kernel, rfl, by decide +kernel, by decide +kernel⟩
abbrev s_common_bottom : Stmt := topS 32
theorem n_common_bottom : FnScope ["table", "found", "row", "entry"] ["table"] (defScope s_common_bottom) :=
  ⟨rfl, rfl, rfl, by decide +kernel, rfl, by decide +kernel, by decide +kernel⟩
abbrev s_Plain_init : Stmt := inClass (topS 33) 1
theorem n_Plain_init : FnScope ["self", "table", "bottom", "row", "told", "place", "entry"] ["self", "table"] (defScope s_Plain_init) :=
  ⟨rfl, rfl, rfl, by decide +kernel, rfl, by decide +kernel, by decide +kernel⟩
abbrev s_dot : Stmt := topS 34
theorem n_dot : FnScope ["one", "other", "place", "entry"] ["one", "other"] (defScope s_dot) :=
  ⟨rfl, rfl, rfl, by decide +kernel, rfl, by decide +kernel, by decide +kernel⟩
abbrev s_keeps_size : Stmt := topS 35
theorem n_keeps_size : FnScope ["plain", "whole", "rows", "at", "row", "other"] ["plain"] (defScope s_keeps_size) :=
  ⟨rfl, rfl, rfl, by decide +kernel, rfl, by decide +kernel, by decide +kernel⟩
abbrev s_keeps_apart : Stmt := topS 36
theorem n_keeps_apart : FnScope ["one", "other", "pairs", "at", "first", "second", "less", "more"] ["one", "other"] (defScope s_keeps_apart) :=
  ⟨rfl, rfl, rfl, by decide +kernel, rfl, by decide +kernel, by decide +kernel⟩
abbrev s_least_broken : Stmt := topS 37
theorem n_least_broken : FnScope ["plains", "at", "one", "to", "is_kept"] ["plains"] (defScope s_least_broken) :=
  ⟨rfl, rfl, rfl, by decide +kernel, rfl, by decide +kernel, by decide +kernel⟩
abbrev s_are_tables : Stmt := topS 40
theorem n_are_tables : FnScope ["value", "table", "rows", "columns"] ["value"] (defScope s_are_tables) :=
  ⟨rfl, rfl, rfl, by decide +kernel, rfl, by decide +kernel, by decide +kernel⟩
abbrev s_Kept_init : Stmt := inClass (topS 42) 1
theorem n_Kept_init : FnScope ["self", "tables"] ["self", "tables"] (defScope s_Kept_init) :=
  ⟨rfl, rfl, rfl, by decide +kernel, rfl, by decide +kernel, by decide +kernel⟩
abbrev s_told_tables : Stmt := topS 43
theorem n_told_tables : FnScope ["tables"] ["tables"] (defScope s_told_tables) :=
  ⟨rfl, rfl, rfl, by decide +kernel, rfl, by decide +kernel, by decide +kernel⟩
abbrev s_is_formula : Stmt := topS 45
theorem n_is_formula : FnScope ["value", "table"] ["value"] (defScope s_is_formula) :=
  ⟨rfl, rfl, rfl, by decide +kernel, rfl, by decide +kernel, by decide +kernel⟩
abbrev s_Formula_init : Stmt := inClass (topS 46) 1
theorem n_Formula_init : FnScope ["self", "tables", "table"] ["self", "tables"] (defScope s_Formula_init) :=
  ⟨rfl, rfl, rfl, by decide +kernel, rfl, by decide +kernel, by decide +kernel⟩
abbrev s_Formula_sizes : Stmt := inClass (topS 46) 2
theorem n_Formula_sizes : FnScope ["self"] ["self"] (defScope s_Formula_sizes) :=
  ⟨rfl, rfl, rfl, by decide +kernel, rfl, by decide +kernel, by decide +kernel⟩
abbrev s_Formula_tables : Stmt := inClass (topS 46) 3
theorem n_Formula_tables : FnScope ["self"] ["self"] (defScope s_Formula_tables) :=
  ⟨rfl, rfl, rfl, by decide +kernel, rfl, by decide +kernel, by decide +kernel⟩
abbrev s_Formula_is_whole : Stmt := inClass (topS 46) 4
theorem n_Formula_is_whole : FnScope ["self", "plain"] ["self"] (defScope s_Formula_is_whole) :=
  ⟨rfl, rfl, rfl, by decide +kernel, rfl, by decide +kernel, by decide +kernel⟩
abbrev s_kept_formula : Stmt := topS 47
theorem n_kept_formula : FnScope ["tables", "table", "row"] ["tables"] (defScope s_kept_formula) :=
  ⟨rfl, rfl, rfl, by decide +kernel, rfl, by decide +kernel, by decide +kernel⟩
abbrev s_letters_of : Stmt := topS 56
theorem n_letters_of : FnScope ["x", "many", "place"] ["x", "many"] (defScope s_letters_of) :=
  ⟨rfl, rfl, rfl, by decide +kernel, rfl, by decide +kernel, by decide +kernel⟩
abbrev s_weight_of : Stmt := topS 57
theorem n_weight_of : FnScope ["x", "found"] ["x"] (defScope s_weight_of) :=
  ⟨rfl, rfl, rfl, by decide +kernel, rfl, by decide +kernel, by decide +kernel⟩
abbrev s_sign_of_words : Stmt := topS 58
theorem n_sign_of_words : FnScope ["x", "y", "many", "firsts", "odd", "before", "weight", "first", "second", "left"] ["x", "y", "many"] (defScope s_sign_of_words) :=
  ⟨rfl, rfl, rfl, by decide +kernel, rfl, by decide +kernel, by decide +kernel⟩
abbrev s_require_many : Stmt := topS 59
theorem n_require_many : FnScope ["value", "most"] ["value", "most"] (defScope s_require_many) :=
  ⟨rfl, rfl, rfl, by decide +kernel, rfl, by decide +kernel, by decide +kernel⟩
abbrev s_is_word : Stmt := topS 60
theorem n_is_word : FnScope ["value", "many"] ["value", "many"] (defScope s_is_word) :=
  ⟨rfl, rfl, rfl, by decide +kernel, rfl, by decide +kernel, by decide +kernel⟩
abbrev s_require_lot : Stmt := topS 61
theorem n_require_lot : FnScope ["value", "many", "word", "one", "other"] ["value", "many"] (defScope s_require_lot) :=
  ⟨rfl, rfl, rfl, by decide +kernel, rfl, by decide +kernel, by decide +kernel⟩
abbrev s_require_lots : Stmt := topS 62
theorem n_require_lots : FnScope ["firsts", "seconds", "many"] ["firsts", "seconds", "many"] (defScope s_require_lots) :=
  ⟨rfl, rfl, rfl, by decide +kernel, rfl, by decide +kernel, by decide +kernel⟩
abbrev s_pair_with : Stmt := topS 63
theorem n_pair_with : FnScope ["lot", "members", "apart"] ["lot", "members", "apart"] (defScope s_pair_with) :=
  ⟨rfl, rfl, rfl, by decide +kernel, rfl, by decide +kernel, by decide +kernel⟩
abbrev s_clash_in : Stmt := topS 64
theorem n_clash_in : FnScope ["firsts", "seconds", "many", "left", "right", "word", "apart", "one", "other"] ["firsts", "seconds", "many"] (defScope s_clash_in) :=
  ⟨rfl, rfl, rfl, by decide +kernel, rfl, by decide +kernel, by decide +kernel⟩
abbrev s_are_let : Stmt := topS 65
theorem n_are_let : FnScope ["firsts", "seconds", "many"] ["firsts", "seconds", "many"] (defScope s_are_let) :=
  ⟨rfl, rfl, rfl, by decide +kernel, rfl, by decide +kernel, by decide +kernel⟩
abbrev s_clash : Stmt := topS 66
theorem n_clash : FnScope ["firsts", "seconds", "many"] ["firsts", "seconds", "many"] (defScope s_clash) :=
  ⟨rfl, rfl, rfl, by decide +kernel, rfl, by decide +kernel, by decide +kernel⟩
abbrev s_is_clash : Stmt := topS 67
theorem n_is_clash : FnScope ["firsts", "seconds", "many", "value", "word", "a", "b", "c", "d"] ["firsts", "seconds", "many", "value"] (defScope s_is_clash) :=
  ⟨rfl, rfl, rfl, by decide +kernel, rfl, by decide +kernel, by decide +kernel⟩
abbrev s_words_formula : Stmt := topS 68
theorem n_words_formula : FnScope ["firsts", "seconds", "many", "size", "found", "x", "rows", "y", "sign", "place"] ["firsts", "seconds", "many"] (defScope s_words_formula) :=
  ⟨rfl, rfl, rfl, by decide +kernel, rfl, by decide +kernel, by decide +kernel⟩
abbrev s_L_jug : Stmt := topS 70
theorem n_L_jug : FnScope ["_law_script", "_law_spot", "_law_cell", "_law_great", "_law_mixed"] ["_law_script", "_law_spot"] (defScope s_L_jug) :=
  ⟨rfl, rfl, rfl, by decide +kernel, rfl, by decide +kernel, by decide +kernel⟩
abbrev s_L_pour : Stmt := topS 71
theorem n_L_pour : FnScope ["_law_jug_here", "_law_many", "_law_found", "_law_one", "_law_two"] ["_law_jug_here", "_law_many"] (defScope s_L_pour) :=
  ⟨rfl, rfl, rfl, by decide +kernel, rfl, by decide +kernel, by decide +kernel⟩
abbrev s_L_letters : Stmt := topS 72
theorem n_L_letters : FnScope ["_law_x", "_law_many", "_law_found", "_law_left", "_law_turn"] ["_law_x", "_law_many"] (defScope s_L_letters) :=
  ⟨rfl, rfl, rfl, by decide +kernel, rfl, by decide +kernel, by decide +kernel⟩
abbrev s_L_odd : Stmt := topS 73
theorem n_L_odd : FnScope ["_law_x", "_law_y", "_law_many", "_law_one", "_law_other", "_law_total", "_law_k", "_law_j", "_law_i"] ["_law_x", "_law_y", "_law_many"] (defScope s_L_odd) :=
  ⟨rfl, rfl, rfl, by decide +kernel, rfl, by decide +kernel, by decide +kernel⟩
abbrev s_L_sign : Stmt := topS 74
theorem n_L_sign : FnScope ["_law_x", "_law_y", "_law_many"] ["_law_x", "_law_y", "_law_many"] (defScope s_L_sign) :=
  ⟨rfl, rfl, rfl, by decide +kernel, rfl, by decide +kernel, by decide +kernel⟩
abbrev s_L_xor : Stmt := topS 75
theorem n_L_xor : FnScope ["_law_x", "_law_y", "_law_found", "_law_power_here", "_law_one", "_law_other"] ["_law_x", "_law_y"] (defScope s_L_xor) :=
  ⟨rfl, rfl, rfl, by decide +kernel, rfl, by decide +kernel, by decide +kernel⟩
abbrev s_L_weight : Stmt := topS 76
theorem n_L_weight : FnScope ["_law_x", "_law_found", "_law_left"] ["_law_x"] (defScope s_L_weight) :=
  ⟨rfl, rfl, rfl, by decide +kernel, rfl, by decide +kernel, by decide +kernel⟩
abbrev s_L_clashes : Stmt := topS 77
theorem n_L_clashes : FnScope ["_law_firsts", "_law_seconds", "_law_found", "_law_heads", "_law_at", "_law_c", "_law_d", "_law_word", "_law_a", "_law_b"] ["_law_firsts", "_law_seconds"] (defScope s_L_clashes) :=
  ⟨rfl, rfl, rfl, by decide +kernel, rfl, by decide +kernel, by decide +kernel⟩
abbrev s_L_lot : Stmt := topS 78
theorem n_L_lot : FnScope ["_law_jug_here", "_law_many", "_law_most", "_law_size", "_law_way", "_law_turn", "_law_wanted", "_law_left", "_law_found", "_law_word"] ["_law_jug_here", "_law_many", "_law_most"] (defScope s_L_lot) :=
  ⟨rfl, rfl, rfl, by decide +kernel, rfl, by decide +kernel, by decide +kernel⟩
abbrev s_L_power : Stmt := topS 79
theorem n_L_power : FnScope ["_law_many", "_law_found", "_law_turn"] ["_law_many"] (defScope s_L_power) :=
  ⟨rfl, rfl, rfl, by decide +kernel, rfl, by decide +kernel, by decide +kernel⟩
abbrev s_L_rows : Stmt := topS 80
theorem n_L_rows : FnScope ["_law_firsts", "_law_seconds", "_law_many", "_law_found", "_law_size", "_law_x", "_law_table", "_law_y", "_law_line"] ["_law_firsts", "_law_seconds", "_law_many"] (defScope s_L_rows) :=
  ⟨rfl, rfl, rfl, by decide +kernel, rfl, by decide +kernel, by decide +kernel⟩
abbrev s_L_do_keep : Stmt := topS 81
theorem n_L_do_keep : FnScope ["_law_firsts", "_law_seconds", "_law_many", "_law_at", "_law_a", "_law_b", "_law_c", "_law_d", "_law_one"] ["_law_firsts", "_law_seconds", "_law_many"] (defScope s_L_do_keep) :=
  ⟨rfl, rfl, rfl, by decide +kernel, rfl, by decide +kernel, by decide +kernel⟩
abbrev s_L_made : Stmt := topS 82
theorem n_L_made : FnScope ["_law_firsts", "_law_seconds", "_law_many", "error"] ["_law_firsts", "_law_seconds", "_law_many"] (defScope s_L_made) :=
  ⟨rfl, rfl, rfl, by decide +kernel, rfl, by decide +kernel, by decide +kernel⟩
abbrev s_L_right : Stmt := topS 83
theorem n_L_right : FnScope ["_law_jug_here", "_law_many", "_law_firsts", "_law_seconds", "_law_due", "_law_told"] ["_law_jug_here"] (defScope s_L_right) :=
  ⟨rfl, rfl, rfl, by decide +kernel, rfl, by decide +kernel, by decide +kernel⟩
abbrev s_L_is_made : Stmt := topS 84
theorem n_L_is_made : FnScope ["_law_firsts", "_law_seconds", "_law_many", "_law_formula", "_law_rows_here", "_law_table", "_law_row", "_law_entry"] ["_law_firsts", "_law_seconds", "_law_many"] (defScope s_L_is_made) :=
  ⟨rfl, rfl, rfl, by decide +kernel, rfl, by decide +kernel, by decide +kernel⟩
abbrev s_law : Stmt := topS 85
theorem n_law : FnScope ["_law_script", "_law_spot", "_law_jug_here", "_law_every", "_law_told"] ["_law_script"] (defScope s_law) :=
  ⟨rfl, rfl, rfl, by decide +kernel, rfl, by decide +kernel, by decide +kernel⟩
/-! ### how a def stands behind the top, and a def that keeps its promise -/
abbrev Fr := PySem.W.Frag
/-- the def x of the module: its text st, its parameters ps -/
structure At (K : Fr) (mg : Str → Option Value) (x : Str) (st : Stmt) (ps : List Str) : Prop where
  ex : ∃ f fd, Fun K x x st f fd ∧ mg x = some (.ref f) ∧ Binds K fd ps []
/-- the def x of the module keeps the promise sp, by k levels of calls -/
structure Df (P : Program) (w : World) (K : Fr) (mg : Str → Option Value) (base : Heap) (CX : CXT) (k : Nat) (x : Str) (sp : Sp) : Prop where
  ex : ∃ f fd ps, FnOk P w K mg base CX k f fd ps sp ∧ mg x = some (.ref f) ∧ Binds K fd ps [] ∧ PySem.W.keepIn K (.ref f) = true
section
variable {P : Program} {w : World} {K : Fr} {mg : Str → Option Value} {base : Heap} {CX : CXT} {k : Nat} {x : Str} {st : Stmt} {ps : List Str} {sp : Sp}
theorem At.df (D : At K mg x st ps) (h : ∀ f fd, Fun K x x st f fd → FnOk P w K mg base CX k f fd ps sp) : Df P w K mg base CX k x sp := by
  obtain ⟨f, fd, F, g, b⟩ := D.ex
  exact ⟨f, fd, ps, h f fd F, g, b, F.kp⟩
end
/-- f(e, ..) by such a fact -/
def tDf (sp : Sp) (E : XK) (t : TA) : TE := fun σ H Q => t σ H fun vs H1 => sp vs H1 Q E
theorem pe_df {X : Cx} {CX : CXT} {j k : Nat} {x : Str} {sp : Sp} {E : XK} {e : Expr} {es : List Expr} {t : TA} {p pos : Pos} (D : Df X.prog X.w X.K X.mg X.base CX k x sp) (hr : Room j X.A) (hj : k ≤ j) (hx : Passes CX X E)
    (ha : PA X (e :: es) t) (hg : Gl X x := by rfl) (hdb : (x == ("__debug__" : Str)) = false := by decide)
    (he : starEach (e :: es) X.env = (false, eval e X.env) :: starEach es X.env := by rfl) (hpl : (backTo pos (starEach es X.env)).any (·.1) = false := by rfl) :
    PE X (.Call (.Name x p) (e :: es) [] pos) (tDf sp E t) := by
  obtain ⟨f, fd, ps, F, g, b, kp⟩ := D.ex
  have q := pe_call (p := p) (pos := pos) (dvs := []) (ds := []) F (hr.mono hj) hg g kp b .nil hx ha hdb he hpl
  refine ⟨fun pins s σ H Q I h => q.run pins s σ H Q I ?_⟩
  have h' : t σ H fun vs H1 => sp vs H1 Q E := h
  have e1 : (fun (vs : List V) (H1 : Hp) => sp (vs ++ []) H1 Q E) = fun vs H1 => sp vs H1 Q E := by
    funext vs H1
    rw [List.append_nil]
  show t σ H fun vs H1 => sp (vs ++ []) H1 Q E
  rw [e1]
  exact h'
/-! ### heaps -/
theorem same_new {H : Hp} {p : Addr} {o : HO} (h : H p = none) : Same H (upd H p o) := fun b x e => by
  rw [upd_ne (ne_of_none e h)]
  exact e
theorem same_mut {H H' : Hp} {p : Addr} {o : HO} (s : Same H H') (h : H p = none) : Same H (upd H' p o) := fun b x e => by
  rw [upd_ne (ne_of_none e h)]
  exact s b x e
theorem same_tup {K : Fr} {H H' : Hp} {a : Addr} {xs : List V} (e : Same H H') (h : SqT K H a xs) : SqT K H' a xs := by
  rcases h with (h | ⟨o, h⟩) | h
  · exact .inl (.inl (e _ _ h))
  · exact .inl (.inr ⟨o, e _ _ h⟩)
  · exact .inr h
theorem none_back {H H' : Hp} {l : Addr} (e : Same H H') (h : H' l = none) : H l = none := e.free h
theorem szl {n : Nat} (h : n ≤ 100000) : n ≤ sizeLine := Nat.le_trans h (by decide)
theorem szt {n : Nat} (h : n ≤ 100000) : n < sizeLine := Nat.lt_of_le_of_lt h (by decide)
/-! ### what is new between two heaps -/
def np (H H' : Hp) : Hp := fun b => match H b with
  | none => H' b
  | some _ => none
theorem np_none {H H' : Hp} {b : Addr} (h : H b = none) : np H H' b = H' b := by
  unfold np
  rw [h]
theorem np_some {H H' : Hp} {b : Addr} {o : HO} (h : H b = some o) : np H H' b = none := by
  unfold np
  rw [h]
theorem np_at {H H' : Hp} {b : Addr} {o : HO} (h : np H H' b = some o) : H b = none ∧ H' b = some o := by
  cases e : H b with
  | none => exact ⟨rfl, (np_none e).symm.trans h⟩
  | some u =>
    rw [np_some e] at h
    cases h
theorem np_same {H H' : Hp} : Same (np H H') H' := fun b o e => (np_at e).2
/-- old is old, later is later -/
theorem np_mono {H0 H H1 H2 : Hp} (s : Same H0 H) (t : ∀ b o, H b = none → H1 b = some o → H2 b = some o) : Same (np H H1) (np H0 H2) := fun b o e => by
  obtain ⟨e1, e2⟩ := np_at e
  rw [np_none (s.free e1)]
  exact t b o e1 e2
theorem np_later {H H1 H2 : Hp} (t : Same H1 H2) : Same (np H H1) (np H H2) := np_mono (Same.refl H) fun b o _ e => t b o e
theorem np_early {H0 H H1 : Hp} (s : Same H0 H) : Same (np H H1) (np H0 H1) := np_mono s fun _ _ _ e => e
theorem np_both {H0 H H1 H2 : Hp} (s : Same H0 H) (t : Same H1 H2) : Same (np H H1) (np H0 H2) := np_mono s fun b o _ e => t b o e
abbrev aeTail : List Value := [.type "ArithmeticError", .type "Exception", .type "BaseException", .type "object"]
end Sq
/-! text SqHa -/
namespace Sq
open PySem PySem.Spec PyProof.Rows L2
/-! ### the head's Hook: an own list of addresses, functions at any address, an own Boolean, tables of code objects -/
/-- what hangs below an address: a function's code, cells, defaults; a class's dict; a dict's wanted entries; a property's getter -/
def belowZ (ms : List Str) : Option Obj → List Addr
  | some ⟨_, _, .func fd, _⟩ => He.refV fd.code ++ (He.refV fd.defaults ++ fd.closure.map (·.2))
  | some ⟨_, _, .cls cd, _⟩ => [cd.ns]
  | some ⟨_, _, .dict es _, _⟩ => es.toList.flatMap fun e => match ms.any fun m => e.key.isStr m with
    | true => He.refV e.val
    | false => []
  | some ⟨.type t, _, .fields vs, _⟩ => match decide (t = "property") with
    | true => He.refV (vs.getD 0 .none)
    | false => []
  | _ => []
def downZ (g : Addr → Option Obj) (ms : List Str) (as : List Addr) : List Addr := as.flatMap fun a => belowZ ms (g a)
/-- the module's wanted names, then four steps down -/
def asZ (xs ms : List Str) (g : Addr → Option Obj) : List Addr :=
  (fun l1 => (fun l2 => (fun l3 => (fun l4 => mainGlobals :: cStatics :: (l1 ++ (l2 ++ (l3 ++ (l4 ++ downZ g ms l4))))) (downZ g ms l3)) (downZ g ms l2)) (downZ g ms l1)) (belowZ xs (g mainGlobals))
abbrev FnA : Type := Option (Str × Str × Arguments × FuncBody × Scope × Addr × List Str × Addr)
def fnA (K : Fr) (a : Addr) : FnA := match K.lookup a with
  | some ⟨_, _, .func fd, _⟩ => some (fd.name, fd.qualname, fd.params, fd.body, fd.scope, fd.globals, fd.closure.map (·.1), fd.builtins)
  | _ => none
/-- one function: where it stands, its name, its qualified name, its text, its closure's names, its defaults -/
structure FD where
  at_ : Fr → Addr
  name : Str
  qual : Str
  st : Stmt
  clo : List Str := []
  dfl : List V := []
def FD.val (d : FD) : FnA := some (d.name, d.qual, defArgs d.st, .stmts (defBody d.st), defScope d.st, mainGlobals, d.clo, builtinsNs)
def FD.ok (K : Fr) (d : FD) : Bool := PySem.W.keepIn K (.ref (d.at_ K)) && (match K.lookup (d.at_ K) with
  | some ⟨_, _, .func fd, _⟩ => PySem.W.codeIn K fd.code d.qual && He.dflB K fd.defaults d.dfl
  | _ => false)
def obK (fa : List He.Fa) (fns : List FD) (tf : List He.Defn) (ex : Fr → Bool) (g : Addr → Option Obj) (K : Fr) : Bool × List FnA :=
  ((fa.all fun f => f.ok K) && ((fns.all fun d => d.ok K) && (ex K && He.tabsB g tf K)), fns.map fun d => fnA K (d.at_ K))
def obY (as : (Addr → Option Obj) → List Addr) (fa : List He.Fa) (fns : List FD) (tf : List He.Defn) (ex : Fr → Bool) (g : Addr → Option Obj) : Bool × List FnA := obK fa fns tf ex g (He.frT g (as g))
structure SaysY (fa : List He.Fa) (fns : List FD) (tf : List He.Defn) (ex : Fr → Bool) (h : Heap) (K : Fr) : Prop where
  fa_ : ∀ f ∈ fa, f.ok K = true
  fn_ : ∀ d ∈ fns, d.ok K = true ∧ fnA K (d.at_ K) = d.val
  more : ex K = true
  hd : ∀ p ∈ tf, PySem.W.codeHdIn K (He.cT K p).1 (He.cT K p).2 = true
  out : ∀ p ∈ tf, K.lookup (He.cT K p).2 = none
  empty : ∀ p ∈ tf, h.get? (He.cT K p).2 = some { cls := .none, data := .fields #[] }
theorem saysY_of {as : (Addr → Option Obj) → List Addr} {fa : List He.Fa} {fns : List FD} {tf : List He.Defn} {ex : Fr → Bool} {h : Heap} (e : obY as fa fns tf ex h.get? = (true, fns.map FD.val)) : SaysY fa fns tf ex h (He.frT h.get? (as h.get?)) := by
  obtain ⟨K, eK⟩ : ∃ K, K = He.frT h.get? (as h.get?) := ⟨_, rfl⟩
  unfold obY at e
  have out := fun (a : Addr) (o : Obj) => He.frT_none (g := h.get?) (as := as h.get?) (a := a) (o := o)
  rw [← eK] at e out ⊢
  have e1 := congrArg (fun z : Bool × List FnA => z.1) e
  have e2 : (fns.map fun d => fnA K (d.at_ K)) = fns.map FD.val := congrArg (fun z : Bool × List FnA => z.2) e
  obtain ⟨h1, e1⟩ := He.ba e1
  obtain ⟨h2, e1⟩ := He.ba e1
  obtain ⟨h3, h4⟩ := He.ba e1
  have key : ∀ p ∈ tf, PySem.W.codeHdIn K (He.cT K p).1 (He.cT K p).2 = true ∧ ∃ o, h.get? (He.cT K p).2 = some o ∧ He.emptyTab o = true := fun p hp => by
    obtain ⟨k1, k2⟩ := He.ba (List.all_eq_true.mp h4 p hp)
    refine ⟨k1, ?_⟩
    cases q : h.get? (He.cT K p).2 with
    | none =>
      rw [q] at k2
      cases k2
    | some o =>
      rw [q] at k2
      exact ⟨o, rfl, k2⟩
  refine ⟨fun f hf => List.all_eq_true.mp h1 f hf, fun d hd => ⟨List.all_eq_true.mp h2 d hd, ?_⟩, h3, fun p hp => (key p hp).1, fun p hp => ?_, fun p hp => ?_⟩
  · obtain ⟨i, hi, ed⟩ := List.mem_iff_getElem.mp hd
    have e3 : (fns.map fun d => fnA K (d.at_ K))[i]? = (fns.map FD.val)[i]? := by rw [e2]
    rw [List.getElem?_map, List.getElem?_map, List.getElem?_eq_getElem hi, ed] at e3
    exact Option.some.inj e3
  · obtain ⟨_, o, q, z⟩ := key p hp
    exact out _ _ q z
  · obtain ⟨_, o, q, z⟩ := key p hp
    rw [q, He.emptyTab_eq z]
def hookY (as : (Addr → Option Obj) → List Addr) (fa : List He.Fa) (fns : List FD) (tf : List He.Defn) (ex : Fr → Bool) : PySem.W.Hook where
  α := Bool × List FnA
  obs := fun s => obY as fa fns tf ex s.heap.get?
  val := fun _ => (true, fns.map FD.val)
  says := fun _ h => ∃ K : Fr, K.In h ∧ SaysY fa fns tf ex h K
  of := fun _ _ e => ⟨_, He.frT_in, saysY_of e⟩
  keeps := fun _ _ _ ⟨K, hK, c⟩ k => ⟨K, PySem.W.Frag.In.keeps hK k, ⟨c.fa_, c.fn_, c.more, c.hd, c.out, fun p hp => k _ _ (c.empty p hp)⟩⟩
theorem obY_eq {as : (Addr → Option Obj) → List Addr} {fa : List He.Fa} {fns : List FD} {tf : List He.Defn} {ex : Fr → Bool} {g : Addr → Option Obj} {s : Shared} (h : ∀ a, g a = s.heap.get? a) : obY as fa fns tf ex g = (hookY as fa fns tf ex).obs s := by
  have e : g = s.heap.get? := funext h
  rw [e] <;> rfl
end Sq
/-! text SqHc -/
namespace Sq
open PySem PySem.Spec PyProof.Rows L2
/-- the getter behind a property -/
def getA (K : Fr) (C f : Str) : Addr := match PySem.W.recIn K (He.ma K (He.ga K C) f) "property" with
  | some (.ref g :: _) => g
  | _ => 0
def fnsY : List FD := [
  ⟨fun K => He.ga K "_law_clashes", "_law_clashes", "_law_clashes", s_L_clashes, [], []⟩,
  ⟨fun K => He.ga K "_law_do_keep", "_law_do_keep", "_law_do_keep", s_L_do_keep, [], []⟩,
  ⟨fun K => He.ga K "_law_is_made", "_law_is_made", "_law_is_made", s_L_is_made, [], []⟩,
  ⟨fun K => He.ga K "_law_jug", "_law_jug", "_law_jug", s_L_jug, [], []⟩,
  ⟨fun K => He.ga K "_law_letters", "_law_letters", "_law_letters", s_L_letters, [], []⟩,
  ⟨fun K => He.ga K "_law_lot", "_law_lot", "_law_lot", s_L_lot, [], []⟩,
  ⟨fun K => He.ga K "_law_made", "_law_made", "_law_made", s_L_made, [], []⟩,
  ⟨fun K => He.ga K "_law_odd", "_law_odd", "_law_odd", s_L_odd, [], []⟩,
  ⟨fun K => He.ga K "_law_pour", "_law_pour", "_law_pour", s_L_pour, [], []⟩,
  ⟨fun K => He.ga K "_law_power", "_law_power", "_law_power", s_L_power, [], []⟩,
  ⟨fun K => He.ga K "_law_right", "_law_right", "_law_right", s_L_right, [], []⟩,
  ⟨fun K => He.ga K "_law_rows", "_law_rows", "_law_rows", s_L_rows, [], []⟩,
  ⟨fun K => He.ga K "_law_sign", "_law_sign", "_law_sign", s_L_sign, [], []⟩,
  ⟨fun K => He.ga K "_law_weight", "_law_weight", "_law_weight", s_L_weight, [], []⟩,
  ⟨fun K => He.ga K "_law_xor", "_law_xor", "_law_xor", s_L_xor, [], []⟩,
  ⟨fun K => He.ga K "are_even_rows", "are_even_rows", "are_even_rows", s_are_even_rows, [], []⟩,
  ⟨fun K => He.ga K "are_let", "are_let", "are_let", s_are_let, [], []⟩,
  ⟨fun K => He.ga K "are_tables", "are_tables", "are_tables", s_are_tables, [], []⟩,
  ⟨fun K => He.ga K "clash", "clash", "clash", s_clash, [], []⟩,
  ⟨fun K => He.ga K "clash_in", "clash_in", "clash_in", s_clash_in, [], []⟩,
  ⟨fun K => He.ga K "common_bottom", "common_bottom", "common_bottom", s_common_bottom, [], []⟩,
  ⟨fun K => He.ga K "common_of", "common_of", "common_of", s_common_of, [], []⟩,
  ⟨fun K => He.ga K "dot", "dot", "dot", s_dot, [], []⟩,
  ⟨fun K => He.ga K "is_clash", "is_clash", "is_clash", s_is_clash, [], []⟩,
  ⟨fun K => He.ga K "is_formula", "is_formula", "is_formula", s_is_formula, [], []⟩,
  ⟨fun K => He.ga K "is_integer", "is_integer", "is_integer", s_is_integer, [], []⟩,
  ⟨fun K => He.ga K "is_table", "is_table", "is_table", s_is_table, [], []⟩,
  ⟨fun K => He.ga K "is_whole", "is_whole", "is_whole", s_is_whole, [], []⟩,
  ⟨fun K => He.ga K "is_word", "is_word", "is_word", s_is_word, [], []⟩,
  ⟨fun K => He.ga K "keeps_apart", "keeps_apart", "keeps_apart", s_keeps_apart, [], []⟩,
  ⟨fun K => He.ga K "keeps_size", "keeps_size", "keeps_size", s_keeps_size, [], []⟩,
  ⟨fun K => He.ga K "kept_formula", "kept_formula", "kept_formula", s_kept_formula, [], []⟩,
  ⟨fun K => He.ga K "law", "law", "law", s_law, [], []⟩,
  ⟨fun K => He.ga K "least_broken", "least_broken", "least_broken", s_least_broken, [], []⟩,
  ⟨fun K => He.ga K "letters_of", "letters_of", "letters_of", s_letters_of, [], []⟩,
  ⟨fun K => He.ga K "ratio_of", "ratio_of", "ratio_of", s_ratio_of, [], []⟩,
  ⟨fun K => He.ga K "require_lot", "require_lot", "require_lot", s_require_lot, [], []⟩,
  ⟨fun K => He.ga K "require_lots", "require_lots", "require_lots", s_require_lots, [], []⟩,
  ⟨fun K => He.ga K "require_many", "require_many", "require_many", s_require_many, [], []⟩,
  ⟨fun K => He.ga K "sign_of_words", "sign_of_words", "sign_of_words", s_sign_of_words, [], []⟩,
  ⟨fun K => He.ga K "told_tables", "told_tables", "told_tables", s_told_tables, [], []⟩,
  ⟨fun K => He.ga K "weight_of", "weight_of", "weight_of", s_weight_of, [], []⟩,
  ⟨fun K => He.ga K "words_formula", "words_formula", "words_formula", s_words_formula, [], []⟩,
  ⟨fun K => He.ga K "pair_with", "pair_with", "pair_with", s_pair_with, [], []⟩,
  ⟨fun K => getA K "Formula" "is_whole", "is_whole", "Formula.is_whole", s_Formula_is_whole, [], []⟩,
  ⟨fun K => getA K "Formula" "sizes", "sizes", "Formula.sizes", s_Formula_sizes, [], []⟩,
  ⟨fun K => getA K "Formula" "tables", "tables", "Formula.tables", s_Formula_tables, [], []⟩,
  ⟨fun K => getA K "Ratio" "bottom", "bottom", "Ratio.bottom", s_Ratio_bottom, [], []⟩,
  ⟨fun K => getA K "Ratio" "top", "top", "Ratio.top", s_Ratio_top, [], []⟩,
  ⟨fun K => He.ma K (He.ga K "Ratio") "__bool__", "__bool__", "Ratio.__bool__", s_Ratio_bool, [], []⟩,
  ⟨fun K => He.ma K (He.ga K "Formula") "__init__", "__init__", "Formula.__init__", s_Formula_init, [], []⟩,
  ⟨fun K => He.ma K (He.ga K "Kept") "__init__", "__init__", "Kept.__init__", s_Kept_init, [], []⟩,
  ⟨fun K => He.ma K (He.ga K "Plain") "__init__", "__init__", "Plain.__init__", s_Plain_init, [], []⟩,
  ⟨fun K => He.ma K (He.ga K "Ratio") "__init__", "__init__", "Ratio.__init__", s_Ratio_init, [], [.int 1]⟩,
  ⟨fun K => He.ma K (He.ga K "Terms") "__init__", "__init__", "Terms.__init__", s_Terms_init, [], []⟩,
  ⟨fun K => He.ma K (He.ga K "Refused") "__init__", "__init__", "Refused.__init__", s_Refused_init, ["__class__"], []⟩]
def faY : List He.Fa := [.glo "Terms", .glo "Ratio", .glo "Plain", .glo "Kept", .glo "Formula", .glo "Refused", .glo "_law_clashes", .glo "_law_do_keep", .glo "_law_is_made", .glo "_law_jug", .glo "_law_letters", .glo "_law_lot", .glo "_law_made", .glo "_law_odd", .glo "_law_pour", .glo "_law_power", .glo "_law_right", .glo "_law_rows", .glo "_law_sign", .glo "_law_weight", .glo "_law_xor", .glo "are_even_rows", .glo "are_let", .glo "are_tables", .glo "clash", .glo "clash_in", .glo "common_bottom", .glo "common_of", .glo "dot", .glo "is_clash", .glo "is_formula", .glo "is_integer", .glo "is_table", .glo "is_whole", .glo "is_word", .glo "keeps_apart", .glo "keeps_size", .glo "kept_formula", .glo "law", .glo "least_broken", .glo "letters_of", .glo "ratio_of", .glo "require_lot", .glo "require_lots", .glo "require_many", .glo "sign_of_words", .glo "told_tables", .glo "weight_of", .glo "words_formula", .glo "pair_with", .free "isinstance", .free "int", .free "bool", .free "tuple", .free "list", .free "set", .free "len", .free "all", .free "any", .free "sum", .free "abs", .free "min", .free "max", .free "range", .free "zip", .free "enumerate", .free "next", .free "sorted", .free "super", .int "BEYOND" 1000000000000000000000000000000000000000000000000000000000000, .int "MAX_LETTERS" 10, .int "MAX_MADE" 5, .int "MAX_SIDE_tables" 32, .int "MAX_SIDE_formulas" 32, .str "CLASH" "clash"]
def slotB (K : Fr) (C f : Str) (i : Nat) : Bool := He.eqO (PySem.W.findIn K (.ref (He.ga K C)) f) (some (some (.ref (He.ma K (He.ga K C) f)))) && (He.eqO (PySem.W.specialIn K (.ref (He.ma K (He.ga K C) f)) "__get__") (some (some (.builtin "member_descriptor.__get__"))) &&
  (decide (PySem.W.takesIn K (.ref (He.ma K (He.ga K C) f)) = some true) && (decide (PySem.W.typeIn K (.ref (He.ma K (He.ga K C) f)) = some (.type "member_descriptor")) && decide (PySem.W.slotIn K (He.ma K (He.ga K C) f) (He.ga K C) = some i))))
def propB (K : Fr) (C f : Str) : Bool := He.eqO (PySem.W.findIn K (.ref (He.ga K C)) f) (some (some (.ref (He.ma K (He.ga K C) f)))) && (He.eqO (PySem.W.specialIn K (.ref (He.ma K (He.ga K C) f)) "__get__") (some (some (.builtin "property.__get__"))) &&
  (decide (PySem.W.takesIn K (.ref (He.ma K (He.ga K C) f)) = some true) && (match PySem.W.recIn K (He.ma K (He.ga K C) f) "property" with
    | some (.ref _ :: _) => true
    | _ => false)))
def klB (K : Fr) (C : Str) : Bool := (PySem.W.plainGet K (He.ga K C) Str.empty && (PySem.W.isClsIn K (He.ga K C) && (PySem.W.plainOver K (He.ga K C) && He.eqO (PySem.W.findIn K (.ref (He.ga K C)) "__setattr__") (some (some (.builtin "object.__setattr__")))))) &&
  ((He.eqO (PySem.W.findIn K (.ref (He.ga K C)) "__class__") (some (some (.builtin "object.__class__"))) && (He.eqO (PySem.W.specialIn K (.builtin "object.__class__") "__get__") (some (some (.builtin "getset_descriptor.__get__"))) &&
  (decide (PySem.W.takesIn K (.builtin "object.__class__") = some true) && decide (PySem.W.mroIn K (He.ga K C) (.type "object") = some true)))) && decide (PySem.W.kitOne K (.ref (He.ga K C)) (.ref (He.ga K C)) = some true))
def exList (K : Fr) : List Bool := [
  klB K "Terms",
  klB K "Ratio",
  klB K "Plain",
  klB K "Kept",
  klB K "Formula",
  slotB K "Formula" "own_plains" 0,
  slotB K "Formula" "own_tables" 1,
  slotB K "Kept" "own_tables" 0,
  slotB K "Plain" "own_bottom" 0,
  slotB K "Plain" "own_rows" 1,
  slotB K "Ratio" "own_bottom" 0,
  slotB K "Ratio" "own_top" 1,
  slotB K "Terms" "own_bottom" 0,
  slotB K "Terms" "own_top" 1,
  propB K "Formula" "is_whole",
  propB K "Formula" "sizes",
  propB K "Formula" "tables",
  propB K "Ratio" "bottom",
  propB K "Ratio" "top",
  (He.Fa.meth "Ratio" "__bool__").ok K,
  (He.Fa.mkr "Formula").ok K,
  (He.Fa.mkr "Kept").ok K,
  (He.Fa.mkr "Plain").ok K,
  (He.Fa.mkr "Ratio").ok K,
  (He.Fa.mkr "Terms").ok K]
def xsY1 : List Str := ["Terms", "Ratio", "Plain", "Kept", "Formula", "Refused", "_law_clashes", "_law_do_keep", "_law_is_made", "_law_jug", "_law_letters", "_law_lot", "_law_made", "_law_odd", "_law_pour", "_law_power", "_law_right", "_law_rows", "_law_sign", "_law_weight", "_law_xor", "are_even_rows", "are_let", "are_tables", "clash", "clash_in", "common_bottom", "common_of", "dot", "is_clash"]
def xsY2 : List Str := ["is_formula", "is_integer", "is_table", "is_whole", "is_word", "keeps_apart", "keeps_size", "kept_formula", "law", "least_broken", "letters_of", "ratio_of", "require_lot", "require_lots", "require_many", "sign_of_words", "told_tables", "weight_of", "words_formula", "pair_with"]
def xsY : List Str := xsY1 ++ xsY2
def msY : List Str := ["__bool__", "__init__", "bottom", "is_whole", "own_bottom", "own_plains", "own_rows", "own_tables", "own_top", "sizes", "tables", "top"]
end Sq
/-! text SqHd -/
namespace Sq
open PySem PySem.Spec PyProof.Rows L2
/-! ### Refused, read from the heap -/
def refB (K : Fr) (C : Addr) : Bool := match K.lookup C with
  | some ⟨.type t, _, .cls cd, sl⟩ => (match sl.toList with
    | [_, _, _, _, some (.builtin n), _] => decide (t = "type") && (decide (cd.mro = .ref C :: aeTail) && (cd.hasDict && (!cd.hasDel && decide (n = "ArithmeticError.__new__"))))
    | _ => false)
  | _ => false
theorem refB_ok {K : Fr} {C : Addr} (h : refB K C = true) : ∃ nm q N bs sn sub ab col dd k0 k1 k2 k3 k5, K.lookup C = some (excClassObj nm q C N bs aeTail true sn sub ab col dd k0 k1 k2 k3 k5 "ArithmeticError.__new__") := by
  unfold refB at h
  split at h
  · rename_i t dd cd sl lk
    split at h
    · rename_i k0 k1 k2 k3 n k5 hs
      obtain ⟨h1, h⟩ := He.ba h
      obtain ⟨h2, h⟩ := He.ba h
      obtain ⟨h3, h⟩ := He.ba h
      obtain ⟨h4, h5⟩ := He.ba h
      have h1 := of_decide_eq_true h1
      have h2 := of_decide_eq_true h2
      have h5 := of_decide_eq_true h5
      obtain ⟨nm, bs, mro, ns, qn, hd, sn, sub, ab, col, del⟩ := cd
      dsimp only at h2 h3 h4
      have h4 : del = false := by simpa using h4
      subst h1 h2 h3 h4 h5
      have hsl : sl = #[k0, k1, k2, k3, some (.builtin "ArithmeticError.__new__"), k5] := by
        obtain ⟨l⟩ := sl
        simp only at hs
        rw [hs]
      subst hsl
      exact ⟨nm, qn, ns, bs, sn, sub, ab, col, dd, k0, k1, k2, k3, k5, lk⟩
    · cases h
  · cases h
/-- the code object's file, the closure's cell -/
def refFnB (K : Fr) (file : Str) (C : Addr) : Bool := match K.lookup (He.ma K C "__init__") with
  | some ⟨_, _, .func fd, _⟩ => (match fd.closure, fd.code with
    | [(_, cc)], .ref cda => (match K.lookup cc, K.lookup cda with
      | some ⟨_, _, .cell (some (.ref C')), _⟩, some ⟨_, _, .fields vs, _⟩ => decide (C' = C) && (match (vs[2]? : Option Value) with
        | some (Value.str f _) => file == f
        | _ => false)
      | _, _ => false)
    | _, _ => false)
  | _ => false
def refX (K : Fr) (file : Str) (C : Addr) : Bool := refB K C && (PySem.W.excInitIn K C aeTail "ArithmeticError.__new__" && (PySem.W.excOver K C aeTail && (He.eqO (PySem.W.findIn K (.ref C) "__setattr__") (some (some (.builtin "object.__setattr__"))) &&
  (decide (PySem.W.takerIn K C "reason" = some none) && (decide (PySem.W.ks_superIn K C C "__init__" = some (some (.builtin "ArithmeticError.__init__"))) && (decide (PySem.W.subIn K (.ref C) (.type "ArithmeticError") = some true) && (decide (PySem.W.mroIn K C (.ref C) = some true) &&
  (decide (PySem.W.nsIn K cStatics "thirdparty.any" = some none) && (PySem.W.keepIn K (.ref C) && (decide (PySem.W.subIn K (.ref C) (.type "BaseException") = some true) && (decide (PySem.W.typeIn K (.ref C) = some (.type "type")) &&
  (refFnB K file C && (decide (PySem.W.findIn K (.ref C) "__init__" = some (some (.ref (He.ma K C "__init__")))) && (decide (PySem.W.typeIn K (.ref (He.ma K C "__init__")) = some (.type "function")) &&
  (xfB K C && (He.eqO (PySem.W.findIn K (.ref C) "reason") (some none) && decide (PySem.W.exmOne K (.ref C) (.ref C) = some true)))))))))))))))))
abbrev rowY : PySem.W.OpenRow := PySem.W.OpenLaw.row PySem.Challenge.rw_squaretimes_k74_whole_lots_make_formulas
def tfY : List He.Defn := [("pair_with", none)]
def exY (K : Fr) : Bool := (exList K).all id && refX K rowY.prog.main.file (He.ga K "Refused")
end Sq
/-! text SqHe -/
set_option maxHeartbeats 0
namespace Sq
open PySem PySem.Spec PyProof.Rows L2
abbrev hkY : PySem.W.Hook := hookY (asZ xsY msY) faY fnsY tfY exY
def obYT (s : PySem.W.SharedT) : Bool × List FnA := obY (asZ xsY msY) faY fnsY tfY exY (HandSHeadRun.getT s)
theorem obYT_eq (s : PySem.W.SharedT) : obYT s = hkY.obs s.abs := obY_eq (HandSHeadRun.getT_eq s)
def looY : List Str := (rowY.prog.main.scope.names.map (·.1)).filter (fun x => !(x == "law"))
theorem runY (w : World) : HandSHeadRun.RunEq rowY (PySem.W.view rowY.prog [85]) hkY obYT 7000 looY w := by
  intro os
  kernel_rfl
end Sq
set_option maxHeartbeats 4000000
/-! text SqHb -/
namespace Sq
open PySem PySem.Spec PyProof.Rows L2
theorem FD.raw {K : Fr} {d : FD} (c : d.ok K = true) (e : fnA K (d.at_ K) = d.val) : ∃ (oc : Value) (od : Option Addr) (fd : FuncData) (osl : Array (Option Value)),
    K.lookup (d.at_ K) = some ⟨oc, od, .func fd, osl⟩ ∧ PySem.W.codeIn K fd.code d.qual = true ∧ DflV K fd.defaults d.dfl ∧ PySem.W.keepIn K (.ref (d.at_ K)) = true ∧
    (fd.name, fd.qualname, fd.params, fd.body, fd.scope, fd.globals, fd.closure.map (·.1), fd.builtins) = (d.name, d.qual, defArgs d.st, FuncBody.stmts (defBody d.st), defScope d.st, mainGlobals, d.clo, builtinsNs) := by
  obtain ⟨kp, c2⟩ := He.ba c
  unfold fnA at e
  cases q : K.lookup (d.at_ K) with
  | none =>
    rw [q] at c2
    cases c2
  | some o =>
    obtain ⟨oc, od, dt, osl⟩ := o
    rw [q] at c2 e
    cases dt with
    | func fd =>
      obtain ⟨k1, k2⟩ := He.ba (show (PySem.W.codeIn K fd.code d.qual && He.dflB K fd.defaults d.dfl) = true from c2)
      exact ⟨oc, od, fd, osl, rfl, k1, He.dflB_ok k2, kp, Option.some.inj e⟩
    | _ => cases c2
theorem FD.funD {K : Fr} {d : FD} (c : d.ok K = true) (e : fnA K (d.at_ K) = d.val) (h0 : d.clo = []) : ∃ fd, FunD K d.name d.qual (defArgs d.st) (defBody d.st) (defScope d.st) d.dfl [] (d.at_ K) fd := by
  obtain ⟨oc, od, fd, osl, lk, cd, df, kp, ev⟩ := FD.raw c e
  rw [h0] at ev
  obtain ⟨n1, n2, n3, n4, n5, n6, n7, n8, n9, n10, n11, n12, n13, n14, n15⟩ := fd
  simp only [Prod.mk.injEq, List.map_eq_nil_iff] at ev df cd
  obtain ⟨h1, h2, h3, h4, h5, h6, h7, h8⟩ := ev
  subst h1 h2 h3 h4 h5 h6 h7 h8
  exact ⟨_, ⟨oc, od, n8, n9, n10, n11, n12, n13, n14, osl, rfl, lk, cd, df, .inl rfl⟩, kp⟩
theorem FD.fun {K : Fr} {d : FD} (c : d.ok K = true) (e : fnA K (d.at_ K) = d.val) (h0 : d.clo = []) (h1 : d.dfl = []) : ∃ fd, Fun K d.name d.qual d.st (d.at_ K) fd := by
  obtain ⟨oc, od, fd, osl, lk, cd, df, kp, ev⟩ := FD.raw c e
  rw [h0] at ev
  rw [h1] at df
  have df0 : fd.defaults = .none := by
    rcases df with ⟨_, z⟩ | ⟨z, _⟩
    · exact z
    · exact absurd rfl z
  clear df
  obtain ⟨n1, n2, n3, n4, n5, n6, n7, n8, n9, n10, n11, n12, n13, n14, n15⟩ := fd
  simp only [Prod.mk.injEq, List.map_eq_nil_iff] at ev df0 cd
  obtain ⟨h1, h2, h3, h4, h5, h6, h7, h8⟩ := ev
  subst h1 h2 h3 h4 h5 h6 h7 h8 df0
  exact ⟨_, ⟨oc, od, n9, n10, n11, n12, n13, n14, osl, rfl, lk, cd⟩, kp⟩
theorem Fun.d {K : Fr} {x q : Str} {st : Stmt} {f : Addr} {fd : FuncData} (F : Fun K x q st f fd) : ∃ dvs kws, FunD K x q (defArgs st) (defBody st) (defScope st) dvs kws f fd := by
  obtain ⟨⟨oc, od, kV, doc, pm, an, cdv, ct, osl, h1, h2, h3⟩, kp⟩ := F
  exact ⟨[], [], ⟨oc, od, .none, kV, doc, pm, an, cdv, ct, osl, h1, h2, h3, .inl ⟨rfl, rfl⟩, .inl rfl⟩, kp⟩
end Sq
/-! text SqB -/
namespace Sq
open PySem PySem.Spec PyProof.Rows L2
/-! ### numbers: is_whole, is_integer, common_of -/
structure Nms (mg : Str → Option Value) : Prop where
  isi : mg "isinstance" = none
  int : mg "int" = none
  bool : mg "bool" = none
  tup : mg "tuple" = none
  lst : mg "list" = none
  set_ : mg "set" = none
  len : mg "len" = none
  all_ : mg "all" = none
  any_ : mg "any" = none
  sum_ : mg "sum" = none
  abs_ : mg "abs" = none
  min_ : mg "min" = none
  max_ : mg "max" = none
  rng : mg "range" = none
  zip_ : mg "zip" = none
  enu : mg "enumerate" = none
  nxt : mg "next" = none
  srt : mg "sorted" = none
  bey : ∃ t, mg "BEYOND" = some (.int 1000000000000000000000000000000000000000000000000000000000000 t)
  let_ : ∃ t, mg "MAX_LETTERS" = some (.int 10 t)
  mad : ∃ t, mg "MAX_MADE" = some (.int 5 t)
  st : ∃ t, mg "MAX_SIDE_tables" = some (.int 32 t)
  sf : ∃ t, mg "MAX_SIDE_formulas" = some (.int 32 t)
  cla : ∃ t, mg "CLASH" = some (.str "clash" t)
section
variable {P : Program} {w : World} {K : Fr} {mg : Str → Option Value} {base : Heap}
theorem qbl {Q : VK} {H : Hp} {b c : Bool} (h : b = c) (q : Q (.bl c) H) : Q (.bl b) H := by
  rw [h]
  exact q
theorem qin {Q : VK} {H : Hp} {i j : Int} (h : i = j) (q : Q (.int j) H) : Q (.int i) H := by
  rw [h]
  exact q
theorem pe_gi {X : Cx} {x : Str} {i : Int} {t : Tok} {pos : Pos} (hm : X.mg x = some (.int i t)) (hg : Gl X x := by rfl) (hd : (x == ("__debug__" : Str)) = false := by decide) : PE X (.Name x pos) (tC (.int i)) :=
  pe_glob (v := .int i) hg hm ⟨t, rfl⟩ hd
theorem kit_int_int : PySem.W.kitOne K (.type "int") (.type "int") = some true := kit_ty (by decide +kernel)
theorem kit_int_bool : PySem.W.kitOne K (.type "int") (.type "bool") = some false := kit_ty (by decide +kernel)
def spIsWhole : Sp := fun vs H Q _ => ∃ i : Int, vs = [.int i] ∧ Q (.bl true) H
theorem df_is_whole (N : Nms mg) (D : At K mg "is_whole" s_is_whole ["value"]) : Df P w K mg base CX0 1 "is_whole" spIsWhole := by
  refine D.df fun f fd F => F.ok n_is_whole (fun vs H Q E h => ?_) (fun cdv A outer s H vs Q E hr h => ?_)
  · obtain ⟨i, rfl, _⟩ := h
    rfl
  · obtain ⟨i, rfl, q⟩ := h
    refine ⟨_, pss_one (ps_ret (pe_and (pe_callB call_isi (by rfl) N.isi (by decide +kernel) (pa_cons (pv 0) (pa_cons (pe_bltn (by rfl) N.int (by decide +kernel) (v := .ty "int") rfl) pa_nil)))
      (pe_one (pe_not (pe_callB call_isi (by rfl) N.isi (by decide +kernel) (pa_cons (pv 0) (pa_cons (pe_bltn (by rfl) N.bool (by decide +kernel) (v := .ty "bool") rfl) pa_nil))))))), ?_⟩
    refine ⟨_, rfl, _, _, _, _, true, rfl, .ty _, .base (.int _), kit_int_int, true, rfl, iteT ?_⟩
    exact ⟨_, rfl, _, _, _, _, false, rfl, .ty _, .base (.int _), kit_int_bool, false, rfl, q⟩
def spIsInteger : Sp := fun vs H Q _ => ∃ i : Int, vs = [.int i] ∧ -1000000 < i ∧ i < 1000000 ∧ Q (.bl true) H
theorem df_is_integer (N : Nms mg) (D : At K mg "is_integer" s_is_integer ["value"]) (W : Df P w K mg base CX0 1 "is_whole" spIsWhole) : Df P w K mg base CX0 2 "is_integer" spIsInteger := by
  refine D.df fun f fd F => F.ok n_is_integer (fun vs H Q E h => ?_) (fun cdv A outer s H vs Q E hr h => ?_)
  · obtain ⟨i, rfl, _⟩ := h
    rfl
  · obtain ⟨i, rfl, h1, h2, q⟩ := h
    obtain ⟨t, hb⟩ := N.bey
    refine ⟨_, pss_one (ps_ret (pe_and (pe_df W hr (by decide) pass0 (pa_cons (pv 0) pa_nil))
      (pe_one (pe_chain op_lt op_lt (pe_un un_neg (pe_gi hb)) (pv 0) (pe_gi hb))))), ?_⟩
    refine ⟨_, rfl, i, rfl, true, rfl, iteT ?_⟩
    refine ⟨_, rfl, _, rfl, _, _, rfl, rfl, _, rfl, ?_⟩
    rw [decide_eq_true (by omega)]
    refine iteT ?_
    refine ⟨_, _, rfl, rfl, ?_⟩
    exact qbl (Q := Q) (decide_eq_true (by omega)) q
end
end Sq
/-! text SqC -/
namespace Sq
open PySem PySem.Spec PyProof.Rows L2
/-! ### a class called -/
/-- the class x of the module, called: the promise sp (of the written arguments), by k levels for its __init__ -/
structure Dc (P : Program) (w : World) (K : Fr) (mg : Str → Option Value) (base : Heap) (k : Nat) (x : Str) (sp : Sp) : Prop where
  ex : ∃ C f fd ps spI, FnOk P w K mg base CX0 k f fd ps spI ∧ Mk K C f ∧ mg x = some (.ref C) ∧ Binds K fd ps [] ∧
    ∀ vs H Q, sp vs H Q E0 → ∀ a dx, H a = none → H dx = none → dx ≠ a → spI (.ref a :: vs) (upd (upd H dx (.own a)) a (.ins C dx [])) (fun v H2 => v = .non ∧ Q (.ref a) H2) E0
theorem pe_dc {X : Cx} {j k : Nat} {x : Str} {sp : Sp} {e : Expr} {es : List Expr} {t : TA} {p pos : Pos} (D : Dc X.prog X.w X.K X.mg X.base k x sp) (hr : Room j X.A) (hj : k + 1 ≤ j)
    (ha : PA X (e :: es) t) (hg : Gl X x := by rfl) (hdb : (x == ("__debug__" : Str)) = false := by decide)
    (he : starEach (e :: es) X.env = (false, eval e X.env) :: starEach es X.env := by rfl) (hpl : (backTo pos (starEach es X.env)).any (·.1) = false := by rfl) :
    PE X (.Call (.Name x p) (e :: es) [] pos) (tDf sp E0 t) := by
  obtain ⟨C, f, fd, ps, spI, F, M, gC, b, i⟩ := D.ex
  refine ⟨fun pins s σ H Q I hs => wpAny_Call_Name_kw (ld_glob I hg gC ?_ hdb)⟩
  refine PySem.W.callWith_K (h₀ := X.base) I.ok.mod.kin M.kp (thn (ha.run pos pins s σ H _ I hs) fun us s1 ⟨vs, H1, I1, r1, q1⟩ => ⟨I1.kIn, ?_⟩) he hpl
  exact run_make (dvs := []) (ds := []) M F (hr.mono hj) b .nil pass0 I1 r1 fun a dx n1 n2 ne => by
    rw [List.append_nil]
    exact i vs H1 Q q1 a dx n1 n2 ne
/-- an instance of the class C stands at p, its slots vs -/
def Ob (C : Addr) (vs : List (Option V)) (H : Hp) (p : Addr) : Prop := ∃ dx, H p = some (SlX.SlO p C dx vs) ∧ H dx = some (.xd [])
theorem Ob.mono {C : Addr} {vs : List (Option V)} {H H' : Hp} {p : Addr} (e : Same H H') (h : Ob C vs H p) : Ob C vs H' p := by
  obtain ⟨dx, h1, h2⟩ := h
  exact ⟨dx, e _ _ h1, e _ _ h2⟩
theorem Ob.slt {C : Addr} {vs : List (Option V)} {H : Hp} {p : Addr} (h : Ob C vs H p) : ∃ dx, SlX.Slt H p C dx vs := by
  obtain ⟨dx, h1, h2⟩ := h
  exact ⟨dx, .inr ⟨h1, h2⟩⟩
/-- just made -/
theorem slt_new {H : Hp} {a C dx : Addr} : SlX.Slt (upd (upd H dx (.own a)) a (.ins C dx [])) a C dx [] := .inl ⟨upd_same, rfl⟩
/-- what stands behind stores into the new instance -/
theorem slH_new {H H1 : Hp} {a C dx : Addr} {vs : List (Option V)} (s : Same H H1) (n1 : H a = none) (n2 : H dx = none) (ne : dx ≠ a) : Same H (SlX.slH H1 a C dx vs) ∧ Ob C vs (np H (SlX.slH H1 a C dx vs)) a := by
  refine ⟨fun b o e => ?_, dx, (np_none n1).trans upd_same, (np_none n2).trans ?_⟩
  · rw [SlX.slH_ne (ne_of_none e n1) (ne_of_none e n2)]
    exact s b o e
  · unfold SlX.slH
    rw [upd_ne ne, upd_same]
theorem same_made {H : Hp} {a C dx : Addr} (n1 : H a = none) (n2 : H dx = none) : Same H (upd (upd H dx (.own a)) a (.ins C dx [])) := fun b o e => by
  rw [upd_ne (ne_of_none e n1), upd_ne (ne_of_none e n2)]
  exact e
/-- what the text says of a class with slots -/
structure Kl (K : Fr) (mg : Str → Option Value) (x : Str) (C : Addr) : Prop where
  g : mg x = some (.ref C)
  sc : SlX.SCls K C
  si : SlX.SIsi K C
  kit : PySem.W.kitOne K (.ref C) (.ref C) = some true
/-- its __init__ -/
structure In (K : Fr) (C : Addr) (q : Str) (st : Stmt) (ps : List Str) : Prop where
  ex : ∃ f fd, (∃ dvs kws, FunD K "__init__" q (defArgs st) (defBody st) (defScope st) dvs kws f fd) ∧ Mk K C f ∧ Binds K fd ps []
/-- the classes' addresses -/
structure Ad where
  terms : Addr
  ratio : Addr
  plain : Addr
  kept : Addr
  formula : Addr
  refused : Addr
structure TTerms (K : Fr) (mg : Str → Option Value) (A : Ad) : Prop where
  k : Kl K mg "Terms" A.terms
  b : ∃ p, SlX.Slot1 K A.terms "own_bottom" p 0
  t : ∃ p, SlX.Slot1 K A.terms "own_top" p 1
  i : In K A.terms "Terms.__init__" s_Terms_init ["self", "top", "bottom"]
section
variable {P : Program} {w : World} {K : Fr} {mg : Str → Option Value} {base : Heap} {A : Ad}
/-- a Terms object with the integers a over b -/
abbrev IsTerms (A : Ad) (a b : Int) : Hp → Addr → Prop := Ob A.terms [some (.int b), some (.int a)]
def spTerms (A : Ad) : Sp := fun vs H Q _ => ∃ a b : Int, vs = [.int a, .int b] ∧ ∀ p H', Same H H' → IsTerms A a b (np H H') p → Q (.ref p) H'
def spTermsI (A : Ad) : Sp := fun vs H Q _ => ∃ (x dx : Addr) (a b : Int), vs = [.ref x, .int a, .int b] ∧ dx ≠ x ∧ SlX.Slt H x A.terms dx [] ∧ Q .non (SlX.slH H x A.terms dx [some (.int b), some (.int a)])
theorem dc_Terms (T : TTerms K mg A) : Dc P w K mg base 1 "Terms" (spTerms A) := by
  obtain ⟨f, fd, ⟨dvs, kws, F⟩, M, b⟩ := T.i.ex
  refine ⟨A.terms, f, fd, ["self", "top", "bottom"], spTermsI A, F.ok n_Terms_init (fun vs H Q E h => ?_) (fun cdv A' outer s H vs Q E hr h => ?_), M, T.k.g, b, fun vs H Q h a dx n1 n2 ne => ?_⟩
  · obtain ⟨x, dx, a, b, rfl, _⟩ := h
    rfl
  · obtain ⟨x, dx, a, b, rfl, ne, hs, q⟩ := h
    obtain ⟨p0, S0⟩ := T.b
    obtain ⟨p1, S1⟩ := T.t
    refine ⟨_, PSs.nox (pss_cons (SlX.ps_sl (pv 0) (pv 1)) (pss_one (SlX.ps_sl (pv 0) (pv 2)))), ?_⟩
    refine ⟨_, rfl, _, rfl, x, A.terms, dx, p1, [], 1, rfl, hs, T.k.sc, S1, ?_⟩
    refine ⟨_, rfl, _, rfl, x, A.terms, dx, p0, _, 0, rfl, SlX.slH_slt ne, T.k.sc, S0, ?_⟩
    show Q .non (SlX.slH (SlX.slH H x A.terms dx _) x A.terms dx _)
    rw [SlX.slH_twice ne]
    exact q
  · obtain ⟨i, j, rfl, q⟩ := h
    refine ⟨a, dx, i, j, rfl, ne, slt_new, rfl, ?_⟩
    obtain ⟨s, o⟩ := slH_new (C := A.terms) (vs := [some (.int j), some (.int i)]) (same_made (C := A.terms) n1 n2) n1 n2 ne
    exact q a _ s o
end
end Sq
/-! text SqD -/
namespace Sq
open PySem PySem.Spec PyProof.Rows L2
structure TRatio (K : Fr) (mg : Str → Option Value) (A : Ad) : Prop where
  k : Kl K mg "Ratio" A.ratio
  b : ∃ p, SlX.Slot1 K A.ratio "own_bottom" p 0
  t : ∃ p, SlX.Slot1 K A.ratio "own_top" p 1
  i : In K A.ratio "Ratio.__init__" s_Ratio_init ["self", "top", "bottom"]
section
variable {P : Program} {w : World} {K : Fr} {mg : Str → Option Value} {base : Heap} {A : Ad}
/-! ### common_of(a, 1) -/
def spCommon : Sp := fun vs H Q _ => ∃ a : Int, vs = [.int a, .int 1] ∧ Q (.int 1) H
theorem df_common_of (N : Nms mg) (D : At K mg "common_of" s_common_of ["one", "other"]) : Df P w K mg base CX0 1 "common_of" spCommon := by
  refine D.df fun f fd F => F.ok n_common_of (fun vs H Q E h => ?_) (fun cdv A outer s H vs Q E hr h => ?_)
  · obtain ⟨i, rfl, _⟩ := h
    rfl
  · obtain ⟨i, rfl, q⟩ := h
    refine ⟨_, pss_cons (ps_par (i := 0) (j := 1) rfl n_common_of.nd rfl rfl (by decide) rfl rfl (pa_cons (pe_callB call_abs (by rfl) N.abs_ (by decide +kernel) (pa_cons (pv 0) pa_nil)) (pa_cons (pe_callB call_abs (by rfl) N.abs_ (by decide +kernel) (pa_cons (pv 1) pa_nil)) pa_nil)) (by rfl))
      (pss_cons (ps_while PassesOwn.never (pt_cmpR op_ne (pv 1) pe_int (nomark _))
        (pss_one (ps_par (i := 0) (j := 1) rfl n_common_of.nd rfl rfl (by decide) rfl rfl (pa_cons (pv 1) (pa_cons (pe_op op_mod (pv 0) (pv 1)) pa_nil)) (by rfl))))
      (pss_one (ps_ret (pv 0)))), ?_⟩
    refine ⟨_, rfl, i, rfl, _, rfl, 1, rfl, _, _, rfl, ?_⟩
    refine ⟨fun m σ H' => H' = H ∧ ((m = 1 ∧ ∃ j, σ = [some (.int j), some (.int 1)]) ∨ (m = 0 ∧ σ = [some (.int 1), some (.int 0)])), ⟨1, rfl, .inl ⟨rfl, _, rfl⟩⟩, fun m σ H' hW => ?_⟩
    obtain ⟨rfl, ⟨rfl, j, rfl⟩ | ⟨rfl, rfl⟩⟩ := hW
    · refine ⟨_, rfl, rfl, true, rfl, iteT ⟨fun σ' H2 => H2 = H' ∧ σ' = [some (.int 1), some (.int 0)], fun σ' H2 hN => ⟨0, by decide, hN.1, .inr ⟨rfl, hN.2⟩⟩, ?_⟩⟩
      refine ⟨_, rfl, _, rfl, _, rfl, j, 1, rfl, rfl, Int.one_pos, _, _, rfl, rfl, ?_⟩
      show [some (V.int 1), some (V.int (j % 1))] = _
      rw [Int.emod_one]
    · refine ⟨_, rfl, rfl, false, rfl, iteF ?_⟩
      exact ⟨_, rfl, q⟩
/-! ### Ratio(Terms(a, 1), 1), ratio_of(a, 1) -/
abbrev IsR (A : Ad) (a : Int) : Hp → Addr → Prop := Ob A.ratio [some (.int 1), some (.int a)]
def spRatio (A : Ad) : Sp := fun vs H Q _ => ∃ (t : Addr) (a b : Int), vs = [.ref t, .int b] ∧ IsTerms A a 1 H t ∧ ∀ p H', Same H H' → IsR A a (np H H') p → Q (.ref p) H'
def spRatioI (A : Ad) : Sp := fun vs H Q _ => ∃ (x dx t : Addr) (a b : Int), vs = [.ref x, .ref t, .int b] ∧ dx ≠ x ∧ SlX.Slt H x A.ratio dx [] ∧ IsTerms A a 1 H t ∧ Q .non (SlX.slH H x A.ratio dx [some (.int 1), some (.int a)])
theorem dc_Ratio (N : Nms mg) (TT : TTerms K mg A) (T : TRatio K mg A) (C : Df P w K mg base CX0 1 "common_of" spCommon) : Dc P w K mg base 2 "Ratio" (spRatio A) := by
  obtain ⟨f, fd, ⟨dvs, kws, F⟩, M, b⟩ := T.i.ex
  refine ⟨A.ratio, f, fd, ["self", "top", "bottom"], spRatioI A, F.ok n_Ratio_init (fun vs H Q E h => ?_) (fun cdv A' outer s H vs Q E hr h => ?_), M, T.k.g, b, fun vs H Q h a dx n1 n2 ne => ?_⟩
  · obtain ⟨x, dx, t, a, b, rfl, _⟩ := h
    rfl
  · obtain ⟨x, dx, t, a, b, rfl, ne, hs, ht, q⟩ := h
    obtain ⟨p0, S0⟩ := T.b
    obtain ⟨p1, S1⟩ := T.t
    obtain ⟨p2, S2⟩ := TT.b
    obtain ⟨p3, S3⟩ := TT.t
    obtain ⟨dt, htl⟩ := ht.slt
    refine ⟨_, PSs.nox (pss_cons (ps_if (pt_val (pe_callB (SlX.call_isiSl (.ref A.terms)) (by rfl) N.isi (by decide +kernel) (pa_cons (pv 1) (pa_cons (pe_glob (v := .ref A.terms) rfl TT.k.g rfl) pa_nil))))
        (pss_one (ps_par (i := 1) (j := 2) rfl n_Ratio_init.nd rfl rfl (by decide) rfl rfl (pa_cons (SlX.pe_sl (pv 1)) (pa_cons (SlX.pe_sl (pv 1)) pa_nil)) (by rfl))) pss_never)
      (pss_cons (ps_set (i := 3) n_Ratio_init.nd rfl (.inl rfl) (pe_df C hr (by decide) pass0 (pa_cons (pv 1) (pa_cons (pv 2) pa_nil))))
      (pss_cons (ps_set (i := 4) n_Ratio_init.nd rfl (.inl rfl) (pe_ifExp (pt_cmpR op_gt (pv 2) pe_int (nomark _)) (pv 3) (pe_un un_neg (pv 3))))
      (pss_cons (SlX.ps_sl (pv 0) (pe_op op_fdiv (pv 1) (pv 4))) (pss_one (SlX.ps_sl (pv 0) (pe_op op_fdiv (pv 2) (pv 4)))))))), ?_⟩
    refine ⟨_, rfl, t, A.terms, dt, _, .ref A.terms, true, rfl, rfl, fun w h => h, htl, TT.k.sc, TT.k.si, TT.k.kit, true, rfl, iteT ?_⟩
    refine ⟨_, rfl, t, A.terms, dt, p3, _, 1, .int a, rfl, htl, TT.k.sc, S3, rfl, _, rfl, t, A.terms, dt, p2, _, 0, .int 1, rfl, htl, TT.k.sc, S2, rfl, _, _, rfl, ?_⟩
    refine ⟨_, rfl, _, rfl, a, rfl, ?_⟩
    refine ⟨_, rfl, _, _, rfl, rfl, true, rfl, iteT ⟨_, rfl, ?_⟩⟩
    refine ⟨_, rfl, _, rfl, a, 1, rfl, rfl, ⟨by decide, by decide⟩, _, rfl, x, A.ratio, dx, p1, [], 1, rfl, hs, T.k.sc, S1, ?_⟩
    refine ⟨_, rfl, _, rfl, 1, 1, rfl, rfl, ⟨by decide, by decide⟩, _, rfl, x, A.ratio, dx, p0, _, 0, rfl, SlX.slH_slt ne, T.k.sc, S0, ?_⟩
    show Q .non (SlX.slH (SlX.slH H x A.ratio dx [none, some (.int (a / 1))]) x A.ratio dx [some (.int (1 / 1)), some (.int (a / 1))])
    rw [SlX.slH_twice ne, Int.ediv_one, Int.ediv_one]
    exact q
  · obtain ⟨t, i, j, rfl, ht, q⟩ := h
    have s0 := same_made (C := A.ratio) n1 n2
    refine ⟨a, dx, t, i, j, rfl, ne, slt_new, ht.mono s0, rfl, ?_⟩
    obtain ⟨s, o⟩ := slH_new (C := A.ratio) (vs := [some (.int 1), some (.int i)]) s0 n1 n2 ne
    exact q a _ s o
def spRatioOf (A : Ad) : Sp := fun vs H Q _ => ∃ a : Int, vs = [.int a, .int 1] ∧ ∀ p H', Same H H' → IsR A a (np H H') p → Q (.ref p) H'
theorem df_ratio_of (D : At K mg "ratio_of" s_ratio_of ["top", "bottom"]) (T : Dc P w K mg base 1 "Terms" (spTerms A)) (R : Dc P w K mg base 2 "Ratio" (spRatio A)) : Df P w K mg base CX0 4 "ratio_of" (spRatioOf A) := by
  refine D.df fun f fd F => F.ok n_ratio_of (fun vs H Q E h => ?_) (fun cdv A outer s H vs Q E hr h => ?_)
  · obtain ⟨i, rfl, _⟩ := h
    rfl
  · obtain ⟨i, rfl, q⟩ := h
    refine ⟨_, pss_one (ps_ret (pe_dc R hr (by decide) (pa_cons (pe_dc T hr (by decide) (pa_cons (pv 0) (pa_cons (pv 1) pa_nil))) (pa_cons pe_int pa_nil)))), ?_⟩
    refine ⟨_, rfl, _, rfl, i, 1, rfl, fun p H1 s1 o1 => ?_⟩
    exact ⟨p, i, 1, rfl, o1.mono np_same, fun p2 H2 s2 o2 => q p2 H2 (s1.trans s2) (o2.mono (np_early s1))⟩
end
end Sq
/-! text SqE -/
namespace Sq
open PySem PySem.Spec PyProof.Rows L2
/-! ### data in the heap: tuples and lists of things -/
abbrev Rl (α : Type) := Hp → V → α → Prop
def Mo {α : Type} (R : Rl α) : Prop := ∀ H H' v x, Same H H' → R H v x → R H' v x
theorem pr_len {α β : Type} {F : α → β → Prop} {l : List α} {m : List β} (h : Paired F l m) : l.length = m.length := Paired.length h
theorem pr_get {α β : Type} {F : α → β → Prop} : ∀ {l : List α} {m : List β} {i : Nat} {a : α}, Paired F l m → l[i]? = some a → ∃ b, m[i]? = some b ∧ F a b
  | _, _, _, _, .nil, e => by simp at e
  | _, _, 0, _, .cons r _, e => by
    simp at e
    subst e
    exact ⟨_, rfl, r⟩
  | _, _, i + 1, a, .cons _ t, e => by
    obtain ⟨b, h1, h2⟩ := pr_get (i := i) (a := a) t (by simpa using e)
    exact ⟨b, by simpa using h1, h2⟩
theorem pr_get2 {α β : Type} {F : α → β → Prop} : ∀ {l : List α} {m : List β} {i : Nat} {b : β}, Paired F l m → m[i]? = some b → ∃ a, l[i]? = some a ∧ F a b
  | _, _, _, _, .nil, e => by simp at e
  | _, _, 0, _, .cons r _, e => by
    simp at e
    subst e
    exact ⟨_, rfl, r⟩
  | _, _, i + 1, a, .cons _ t, e => by
    obtain ⟨b, h1, h2⟩ := pr_get2 (i := i) (b := a) t (by simpa using e)
    exact ⟨b, by simpa using h1, h2⟩
theorem pr_of {α β : Type} {F : α → β → Prop} : ∀ {l : List α} {m : List β}, l.length = m.length → (∀ (i : Nat) (a : α) (b : β), l[i]? = some a → m[i]? = some b → F a b) → Paired F l m
  | [], [], _, _ => .nil
  | [], _ :: _, h, _ => by simp at h
  | _ :: _, [], h, _ => by simp at h
  | a :: l, b :: m, h, f => .cons (f 0 a b rfl rfl) (pr_of (by simpa using h) fun i x y e1 e2 => f (i + 1) x y (by simpa using e1) (by simpa using e2))
theorem pr_app {α β : Type} {F : α → β → Prop} : ∀ {l l' : List α} {m m' : List β}, Paired F l m → Paired F l' m' → Paired F (l ++ l') (m ++ m')
  | _, _, _, _, .nil, h => h
  | _, _, _, _, .cons r t, h => .cons r (pr_app t h)
/-- a tuple, a list, of things -/
def Tu {α : Type} (R : Rl α) : Rl (List α) := fun H v xs => ∃ p vs, v = .ref p ∧ H p = some (.tup vs) ∧ Paired (R H) vs xs
def Li {α : Type} (R : Rl α) : Rl (List α) := fun H v xs => ∃ p vs, v = .ref p ∧ H p = some (.lst vs) ∧ Paired (R H) vs xs
theorem Tu.mo {α : Type} {R : Rl α} (m : Mo R) : Mo (Tu R) := fun H H' v xs e h => by
  obtain ⟨p, vs, rfl, h1, h2⟩ := h
  exact ⟨p, vs, rfl, e _ _ h1, Paired.mapP h2 fun a b r => m _ _ _ _ e r⟩
theorem Li.mo {α : Type} {R : Rl α} (m : Mo R) : Mo (Li R) := fun H H' v xs e h => by
  obtain ⟨p, vs, rfl, h1, h2⟩ := h
  exact ⟨p, vs, rfl, e _ _ h1, Paired.mapP h2 fun a b r => m _ _ _ _ e r⟩
/-- an integer -/
def IV : Rl Int := fun _ v i => v = .int i
theorem IV.mo : Mo IV := fun _ _ _ _ _ h => h
/-- a natural number -/
def NV : Rl Nat := fun _ v i => v = .int (i : Int)
theorem NV.mo : Mo NV := fun _ _ _ _ _ h => h
def vN (ns : List Nat) : List V := ns.map fun (n : Nat) => V.int (n : Int)
theorem nv_vals {H : Hp} : ∀ {vs : List V} {ns : List Nat}, Paired (NV H) vs ns → vs = vN ns
  | _, _, .nil => rfl
  | _, _, .cons r t => by
    have e := nv_vals t
    subst e
    cases (show _ = _ from r)
    rfl
theorem vals_nv {H : Hp} : ∀ (ns : List Nat), Paired (NV H) (vN ns) ns
  | [] => .nil
  | n :: ns => .cons rfl (vals_nv ns)
/-! ### comprehensions: a new list, an item a turn -/
def Outs (R : Hp → V → Nat → Prop) (n : Nat) (H : Hp) (out : List V) : Prop := out.length = n ∧ ∀ i v, out[i]? = some v → R H v i
theorem outs_add {R : Hp → V → Nat → Prop} (mono : ∀ H H' v i, Same H H' → R H v i → R H' v i) {n : Nat} {H H' : Hp} {out : List V} {v : V} (h : Outs R n H out) (s : Same H H') (r : R H' v n) : Outs R (n + 1) H' (out ++ [v]) := by
  obtain ⟨e, h⟩ := h
  refine ⟨by rw [List.length_append, e] <;> rfl, fun i x hx => ?_⟩
  by_cases hi : i < out.length
  · rw [List.getElem?_append_left hi] at hx
    exact mono _ _ _ _ s (h i x hx)
  · rw [List.getElem?_append_right (by omega)] at hx
    have hl := (List.getElem?_eq_some_iff.mp hx).1
    simp at hl
    have e2 : i = n := by omega
    subst e2
    rw [e, Nat.sub_self] at hx
    cases hx
    exact r
theorem lcs {J : It} {n : Nat} {g : TG} {te : TE} {vs : List Nat} {σ : L2.St} {H1 : Hp} {Q : VK} (R : Hp → V → Nat → Prop) (mono : ∀ H H' v i, Same H H' → R H v i → R H' v i) (hn : n ≤ 100000)
    (hgo : ∀ i H', i < n → Same H1 H' → J.go i H') (hst : ∀ H', Same H1 H' → J.stop n H')
    (turn : ∀ i x H' H2, i < n → Same H1 H' → J.yld i H' x H2 → ∀ Qe : VK, (∀ v H4, Same H' H4 → R (np H' H4) v i → Qe v H4) → g x (wipe σ vs) H2 fun σ2 H3 => wipe σ2 vs = wipe σ vs ∧ te σ2 H3 Qe)
    (hd : ∀ D H' out, Same H1 H' → np H1 H' D = some (.lst out) → Outs R n (np H1 H') out → Q (.ref D) H') :
    ∀ D, H1 D = none → ∃ W : Nat → Nat → Hp → Prop, (∃ m, W 0 m (upd H1 D (.lst []))) ∧ ∀ i m H, W i m H →
      (J.stop i H ∧ Q (.ref D) H) ∨ (J.go i H ∧ ∃ Nx : Hp → Prop, (∀ H', Nx H' → ∃ m', m' < m ∧ W (i + 1) m' H') ∧ ∀ x H', J.yld i H x H' → g x (wipe σ vs) H' fun σ2 H2 => wipe σ2 vs = wipe σ vs ∧ tYes σ2 H2 fun b H3 =>
        if b = true then te σ2 H3 fun y H4 => ∃ acc, H4 D = some (.lst acc) ∧ acc.length < sizeLine ∧ Nx (upd H4 D (.lst (acc ++ [y]))) else Nx H3) := by
  intro D hD
  have sD : Same H1 (upd H1 D (.lst [])) := same_new hD
  refine ⟨fun i m H => m = n - i ∧ i ≤ n ∧ Same H1 H ∧ ∃ out, H D = some (.lst out) ∧ Outs R i (np (upd H1 D (.lst [])) H) out, ⟨n, by simp, Nat.zero_le _, sD, [], upd_same, rfl, fun i v e => by simp at e⟩, ?_⟩
  rintro i m H ⟨rfl, hi, s, out, ho, r⟩
  have sH : ∀ b, H b = none → upd H1 D (.lst []) b = none := fun b e => by
    rw [upd_ne (Ne.symm (ne_of_none ho e))]
    exact s.free e
  by_cases hlt : i < n
  · refine .inr ⟨hgo i H hlt s, fun H' => Same H1 H' ∧ ∃ out, H' D = some (.lst out) ∧ Outs R (i + 1) (np (upd H1 D (.lst [])) H') out, fun H' p => ⟨n - (i + 1), by omega, rfl, hlt, p⟩, fun x H2 y => ?_⟩
    refine turn i x H H2 hlt s y _ fun v H4 s4 r4 => ?_
    refine ⟨out, s4 _ _ ho, szt (by rw [r.1]; omega), same_mut (s.trans s4) hD, out ++ [v], upd_same, ?_⟩
    have key : ∀ b o, b ≠ D → H4 b = some o → upd H4 D (.lst (out ++ [v])) b = some o := fun b o nb e => by
      rw [upd_ne nb]
      exact e
    refine outs_add mono (H := np (upd H1 D (.lst [])) H) r (np_mono (Same.refl _) fun b o e1 e2 => ?_) (mono _ _ _ _ (fun b o e => ?_) r4)
    · have nb : b ≠ D := fun z => by
        rw [z, upd_same] at e1
        cases e1
      exact key b o nb (s4 _ _ e2)
    · obtain ⟨e1, e2⟩ := np_at e
      have nb : b ≠ D := Ne.symm (ne_of_none ho e1)
      rw [np_none (sH b e1)]
      exact key b o nb e2
  · have e : i = n := by omega
    subst e
    refine .inl ⟨hst H s, hd D H out s (by rw [np_none hD]; exact ho) ⟨r.1, fun j v e => mono _ _ _ _ (np_early sD) (r.2 j v e)⟩⟩
/-- over a tuple | a list | a range, the item at a name -/
theorem lc_t {K : Fr} {a : Addr} {xs : List V} {j : Nat} {te : TE} {vs : List Nat} {σ : L2.St} {H1 : Hp} {Q : VK} (R : Hp → V → Nat → Prop) (mono : ∀ H H' v i, Same H H' → R H v i → R H' v i) (hx : SqT K H1 a xs) (hn : xs.length ≤ 100000)
    (hw : ∀ x, wipe ((wipe σ vs).set j (some x)) vs = wipe σ vs)
    (turn : ∀ i x H', xs[i]? = some x → Same H1 H' → ∀ Qe : VK, (∀ v H4, Same H' H4 → R (np H' H4) v i → Qe v H4) → te ((wipe σ vs).set j (some x)) H' Qe)
    (hd : ∀ D H' out, Same H1 H' → np H1 H' D = some (.lst out) → Outs R xs.length (np H1 H') out → Q (.ref D) H') :
    ∀ D, H1 D = none → ∃ W : Nat → Nat → Hp → Prop, (∃ m, W 0 m (upd H1 D (.lst []))) ∧ ∀ i m H, W i m H →
      ((Itt K a).stop i H ∧ Q (.ref D) H) ∨ ((Itt K a).go i H ∧ ∃ Nx : Hp → Prop, (∀ H', Nx H' → ∃ m', m' < m ∧ W (i + 1) m' H') ∧ ∀ x H', (Itt K a).yld i H x H' → gName j x (wipe σ vs) H' fun σ2 H2 => wipe σ2 vs = wipe σ vs ∧ tYes σ2 H2 fun b H3 =>
        if b = true then te σ2 H3 fun y H4 => ∃ acc, H4 D = some (.lst acc) ∧ acc.length < sizeLine ∧ Nx (upd H4 D (.lst (acc ++ [y]))) else Nx H3) := by
  refine lcs R mono hn (fun i H' hi s => ⟨xs, xs[i], same_tup s hx, List.getElem?_eq_getElem hi⟩) (fun H' s => ⟨xs, same_tup s hx, Nat.le_refl _⟩) (fun i x H' H2 hi s y Qe k => ?_) hd
  obtain ⟨rfl, f⟩ := y
  exact ⟨hw x, turn i x _ (f xs (same_tup s hx)) s Qe k⟩
theorem lc_l {K : Fr} {a : Addr} {xs : List V} {j : Nat} {te : TE} {vs : List Nat} {σ : L2.St} {H1 : Hp} {Q : VK} (R : Hp → V → Nat → Prop) (mono : ∀ H H' v i, Same H H' → R H v i → R H' v i) (hx : SqL K H1 a xs) (hn : xs.length ≤ 100000)
    (hw : ∀ x, wipe ((wipe σ vs).set j (some x)) vs = wipe σ vs)
    (turn : ∀ i x H', xs[i]? = some x → Same H1 H' → ∀ Qe : VK, (∀ v H4, Same H' H4 → R (np H' H4) v i → Qe v H4) → te ((wipe σ vs).set j (some x)) H' Qe)
    (hd : ∀ D H' out, Same H1 H' → np H1 H' D = some (.lst out) → Outs R xs.length (np H1 H') out → Q (.ref D) H') :
    ∀ D, H1 D = none → ∃ W : Nat → Nat → Hp → Prop, (∃ m, W 0 m (upd H1 D (.lst []))) ∧ ∀ i m H, W i m H →
      ((Itl K a).stop i H ∧ Q (.ref D) H) ∨ ((Itl K a).go i H ∧ ∃ Nx : Hp → Prop, (∀ H', Nx H' → ∃ m', m' < m ∧ W (i + 1) m' H') ∧ ∀ x H', (Itl K a).yld i H x H' → gName j x (wipe σ vs) H' fun σ2 H2 => wipe σ2 vs = wipe σ vs ∧ tYes σ2 H2 fun b H3 =>
        if b = true then te σ2 H3 fun y H4 => ∃ acc, H4 D = some (.lst acc) ∧ acc.length < sizeLine ∧ Nx (upd H4 D (.lst (acc ++ [y]))) else Nx H3) := by
  refine lcs R mono hn (fun i H' hi s => ⟨xs, xs[i], s.seq hx, List.getElem?_eq_getElem hi⟩) (fun H' s => ⟨xs, s.seq hx, Nat.le_refl _⟩) (fun i x H' H2 hi s y Qe k => ?_) hd
  obtain ⟨rfl, f⟩ := y
  exact ⟨hw x, turn i x _ (f xs (s.seq hx)) s Qe k⟩
theorem lc_r {lo : Int} {n : Nat} {j : Nat} {te : TE} {vs : List Nat} {σ : L2.St} {H1 : Hp} {Q : VK} (R : Hp → V → Nat → Prop) (mono : ∀ H H' v i, Same H H' → R H v i → R H' v i) (hn : n ≤ 100000)
    (hw : ∀ x, wipe ((wipe σ vs).set j (some x)) vs = wipe σ vs)
    (turn : ∀ i H', i < n → Same H1 H' → ∀ Qe : VK, (∀ v H4, Same H' H4 → R (np H' H4) v i → Qe v H4) → te ((wipe σ vs).set j (some (.int (lo + i)))) H' Qe)
    (hd : ∀ D H' out, Same H1 H' → np H1 H' D = some (.lst out) → Outs R n (np H1 H') out → Q (.ref D) H') :
    ∀ D, H1 D = none → ∃ W : Nat → Nat → Hp → Prop, (∃ m, W 0 m (upd H1 D (.lst []))) ∧ ∀ i m H, W i m H →
      ((Itr lo n).stop i H ∧ Q (.ref D) H) ∨ ((Itr lo n).go i H ∧ ∃ Nx : Hp → Prop, (∀ H', Nx H' → ∃ m', m' < m ∧ W (i + 1) m' H') ∧ ∀ x H', (Itr lo n).yld i H x H' → gName j x (wipe σ vs) H' fun σ2 H2 => wipe σ2 vs = wipe σ vs ∧ tYes σ2 H2 fun b H3 =>
        if b = true then te σ2 H3 fun y H4 => ∃ acc, H4 D = some (.lst acc) ∧ acc.length < sizeLine ∧ Nx (upd H4 D (.lst (acc ++ [y]))) else Nx H3) := by
  refine lcs R mono hn (fun i H' hi s => hi) (fun H' s => Nat.le_refl _) (fun i x H' H2 hi s y Qe k => ?_) hd
  obtain ⟨rfl, rfl⟩ := y
  exact ⟨hw _, turn i _ hi s Qe k⟩
end Sq
/-! text SqR1 -/
/-! rules that the layer lacks, part 1: bool(x) by an own __bool__; a walrus ahead of and; powers of great numbers -/
namespace Sq
open PySem PySem.Spec PyProof.Rows L2
section
variable {prog : Program} {w : World} {A : Around} {E : Value → Shared → Prop} {s : Shared} {K : Fr} {x C f : Addr} {ox : Obj} {od : Option Obj}
theorem tru_own {Q : Bool → Shared → Prop} (X : K.In s.heap) (I : PySem.W.InstAt s.heap x ox C od) (hs : PySem.W.findIn K (.ref C) "__bool__" = some (some (.ref f))) (hf : PySem.W.isFn K (.ref f) = true)
    (h : wpAny (model prog w) A (call (.ref f) [.ref x]) (fun r s1 => ∃ b, r = Value.bool b ∧ Q b s1) E s) : wpAny (model prog w) A (truthy (.ref x)) Q E s := by
  unfold truthy
  have key : wpAny (model prog w) A (callSpecial? (.ref x) (Str.ofString "__bool__")) (fun o s1 => ∃ b, o = some (Value.bool b) ∧ Q b s1) E s :=
    PySem.W.special_fn X I hs (beq_iff_eq.mp hf) (wpAny_mono h (fun r s1 ⟨b, e, q⟩ => ⟨b, by rw [e], q⟩) fun _ _ y => y)
  first
    | (refine wpAny_bind (m := callSpecial? (.ref x) (Str.ofString "__bool__")) (wpAny_mono key (fun o s1 z => ?_) fun _ _ y => y)
       obtain ⟨b, rfl, q⟩ := z
       exact wpAny_pure q)
    | (refine wpAny_bind (wpAny_pure ?_)
       refine wpAny_bind (m := callSpecial? (.ref x) (Str.ofString "__bool__")) (wpAny_mono key (fun o s1 z => ?_) fun _ _ y => y)
       obtain ⟨b, rfl, q⟩ := z
       exact wpAny_pure q)
theorem bool_new_own (x : Addr) : MeetsIn prog w (Builtin.«bool.__new__» ⟨[.type "bool", .ref x], []⟩)
    (fun A R s => wpAny (model prog w) A.in1 (truthy (.ref x)) (fun b s1 => R (.ok (.ret (.bool b))) s1) (fun e s1 => R (.error e) s1) s) :=
  .of_wp fun A R s h => by
    have hsub := F.conv_sub_bool
    unfold Builtin.«bool.__new__»
    refine wpAny_bind (wpAny_of_eq (a := true) (by first | rfl | kernel_rfl) ?_)
    refine PySem.W.KFB.if_not rfl ?_
    refine wpAny_bind (wpAny_of_eq (a := true) hsub ?_)
    refine PySem.W.KFB.if_not rfl ?_
    refine wpAny_bind (wpAny_of_eq (a := [Value.ref x]) (by first | rfl | kernel_rfl) ?_)
    exact wpAny_bind (wpAny_mono h (fun b s1 q => wpAny_pure ⟨_, rfl, q⟩) fun _ _ y => y)
theorem call_bool_ref {x : Addr} {Q : Value → Shared → Prop} (h : wpAny (model prog w) A.in1.in1 (truthy (.ref x)) (fun b s1 => Q (.bool b) s1) E s) : wpAny (model prog w) A (call (.type "bool") [.ref x]) Q E s := by
  refine callType_newIn F.called_bool F.newNe_bool (F.typeCall_bool_1 _) (F.newCall_bool_1 _) (fun obj => F.args_object_init_2 obj _) F.entry_bool_new (bool_new_own x) ?_
  exact wpAny_mono h (fun b s1 q => ⟨rfl, q⟩) fun _ _ y => y
end
section
variable {X : Cx} {CX : CXT} {C g : Addr} {n : Nat} {sp : Sp} {E : XK}
/-- bool(x), x an instance with slots whose class has a __bool__ -/
def rBoolOwn (C : Addr) (sp : Sp) (E : XK) : List V → Hp → VK → Prop := fun xs H Q => ∃ a dx vs, xs = [V.ref a] ∧ SlX.Slt H a C dx vs ∧ sp [.ref a] H (fun z H' => ∃ b, z = .bl b ∧ Q z H') E
theorem call_boolOwn (hs : PySem.W.findIn X.K (.ref C) "__bool__" = some (some (.ref g))) (hf : PySem.W.isFn X.K (.ref g) = true) (F : FnR X.prog X.w X.K X.mg X.base CX n g sp) (hr : Room (n + 2) X.A) (hx : Passes CX X E) : CallR X (.type "bool") (rBoolOwn C sp E) := by
  intro pins s σ H xs us Q I r h
  obtain ⟨a, dx, vs, rfl, hsl, q⟩ := h
  obtain ⟨u, rfl, ru⟩ := r.one
  cases (show u = Value.ref a from ru)
  obtain ⟨sl, od, _, J, _⟩ := SlX.slt_inst I hsl
  have hr1 : Room (n + 1) X.A.in1 := Room.in1 hr
  refine call_bool_ref (tru_own I.kIn J hs hf (wpAny_mono (wpAny_call (SlX.run_at (us := [.ref a]) (ws := [.ref a]) F hr1.in1 I.env0.in1.in1 hx I (.cons rfl .nil) q)) (fun v s1 z => ?_) fun _ _ y => y))
  obtain ⟨z', H', I', rz, b, ei, qz⟩ := z
  subst ei
  cases (show v = Value.bool b from rz)
  exact ⟨b, rfl, .bl b, H', I', rfl, qz⟩
/-! ### great powers -/
def CPowW (i j : Int) : Prop := 0 ≤ j ∧ (Builtin.Int.intBits i : Int) * j ≤ 2 ^ 27
theorem op_powW : OpR X (binaryOp .Pow) (rI CPowW fun i j => .int (i ^ j.toNat)) := opI fun _ _ _ _ _ _ _ hc q => pow_int hc.1 hc.2 q
/-! ### t and (x := e) is not None -/
def wAnd (t : TT) (u : TTw) : TTw := fun σ H Q => t σ H fun c H1 => if c = true then u σ H1 Q else Q false σ H1
theorem ptw_and1 {a b : Expr} {t : TT} {u : TTw} {pos : Pos} (ha : PT X a t) (hb : PTw X b u) : PTw X (.BoolOp .And [a, b] pos) (wAnd t u) := by
  refine ⟨fun pins s σ H Q I h => isTrue_and (thn (ha.run pins s σ H _ I h) fun c s1 z => ?_)⟩
  obtain ⟨H1, I1, q1⟩ := z
  cases c with
  | false => exact ⟨σ, H1, I1, q1⟩
  | true =>
    refine isTrue_and (thn (hb.run pins s1 σ H1 _ I1 q1) fun c2 s2 z2 => ?_)
    cases c2 with
    | false => exact z2
    | true => exact isTrue_and_nil z2
end
end Sq
/-! text SqR2 -/
/-! rules that the layer lacks, part 2: enumerate over a tuple -/
namespace PySem
open PySem.Spec PyProof.Rows
theorem sq_enum_new {v : Value} {ob : Obj} {G : Heap → Prop} (B : Begins v ob G) :
    Meets (Builtin.«enumerate.__new__» ⟨[.type "enumerate", v], []⟩) (fun _ R z => G z.heap ∧
      R (.ok (.ret (.ref (z.heap.push ob).objs.size))) { z with heap := (z.heap.push ob).push { cls := .type "enumerate", data := .fields #[.none, .bool false, .ref z.heap.objs.size, rawInt 0, .none, .none] } }) :=
  .of_wp fun prog w A R z hz => by
    obtain ⟨hp, g, d, tk, os⟩ := z
    obtain ⟨g1, hz⟩ := hz
    have hsub := sub_enumerate
    have go : ∀ {A2 : Around} {E2 : Value → Shared → Prop} {Q2 : Value → Shared → Prop}, Q2 (.ref hp.objs.size) ⟨hp.push ob, g, d, tk, os⟩ → wpAny (model prog w) A2 (pyIter v) Q2 E2 ⟨hp, g, d, tk, os⟩ :=
      fun k => B.iter prog w _ _ ⟨hp, g, d, tk, os⟩ _ g1 k
    wp_walk using go
    refine wpAny_stack_any fun _ => wpAny_pure ?_
    split
    · rename_i c _ _ _ _ _
      cases (c == Value.type "enumerate") <;> (wp_walk using go; exact ⟨_, rfl, hz⟩)
    · wp_walk using go
      exact ⟨_, rfl, hz⟩
theorem sq_enum_call {prog : Program} {w : World} {A : Around} {E : Value → Shared → Prop} {z : Shared} {v : Value} {ob : Obj} {G : Heap → Prop} {Q : Value → Shared → Prop} (B : Begins v ob G) (g1 : G z.heap)
    (k : ∀ h2, IsEnum h2 (z.heap.objs.size + 1) z.heap.objs.size 0 .none → h2.get? z.heap.objs.size = some ob → h2.objs.size = z.heap.objs.size + 2 →
      (∀ b o, z.heap.get? b = some o → h2.get? b = some o) → Q (.ref (z.heap.objs.size + 1)) { z with heap := h2 }) :
    wpAny (model prog w) A (call (.type "enumerate") [v]) Q E z := by
  refine callType_new F.called_enumerate (by decide) (F.typeCall_enumerate_1 v) (F.newCall_enumerate_1 v) (fun ob2 => F.args_object_init_2 ob2 v) F.entry_enumerate_new (sq_enum_new B) ⟨g1, ?_⟩
  have sz : (z.heap.push ob).objs.size = z.heap.objs.size + 1 := Heap.size_push ..
  show _ ∧ _
  rw [sz]
  have e1 := Heap.get?_push_size (z.heap.push ob) (o := { cls := .type "enumerate", data := .fields #[.none, .bool false, .ref z.heap.objs.size, rawInt 0, .none, .none] }) rfl
  rw [sz] at e1
  exact ⟨⟨_, e1, rfl⟩, k _ e1 (Heap.get?_push_of_some _ (Heap.get?_push_size _ B.free)) (by rw [Heap.size_push, sz]) fun b o x => Heap.get?_push_of_some _ (Heap.get?_push_of_some _ x)⟩
theorem sq_enum_end {prog : Program} {w : World} {A : Around} {E : Value → Shared → Prop} {z : Shared} {e it l : Addr} {i : Nat} {items : Array Value} {old : Value} {Q : Option Value → Shared → Prop} (hh : A.handled = none)
    (he : IsEnum z.heap e it i old) (hit : z.heap.IsTupleIter it l i) (hl : z.heap.IsTuple l items) (hx : items[i]? = none)
    (hQ : ∀ h2, Heap.ExtBut it z.heap h2 → Q none { z with heap := h2 }) : wpAny (model prog w) A (pyNext (.ref e)) Q E z := by
  have tE : z.TypeIs (.ref e) "enumerate" := ⟨_, he, rfl⟩
  unfold pyNext
  refine wpAny_bind (wpAny_attempt (wpAny_callSpecial?_slot (name := Str.ofString "__next__") tE F.slot_enumerate_next (wpAny_call_entry F.slot_enumerate_next tE F.entry_enumerate_next ?_ (F.args_enumerate_next_1 _))))
  show wpAny _ _ (field (.ref e) 2 >>= _) _ _ z
  refine wpAny_bind (wpAny_field he rfl (x := .ref it) rfl (wpAny_bind (wpAny_nextOf_tuple_end hh hit hl hx fun h2 x k2 kx => ?_)))
  obtain ⟨o, ho, hc⟩ := kx
  exact wpAny_bind (wpAny_isInstance (T := "StopIteration") (b := true) ⟨o, ho, hc⟩ isSubtype_stop (wpAny_pure (hQ h2 k2)))
end PySem
namespace Sq
open PySem PySem.Spec PyProof.Rows L2
/-- the tuple at a, each item in a new pair -/
def ItE (K : Fr) (a : Addr) : It :=
  ⟨fun i H => ∃ (xs : List V) (x : V), SqT K H a xs ∧ xs[i]? = some x, fun i H v H' => ∃ T x, v = .ref T ∧ H T = none ∧ H' = upd H T (.tup [.int (i : Nat), x]) ∧ ∀ xs, SqT K H a xs → xs[i]? = some x, fun i H => ∃ xs : List V, SqT K H a xs ∧ xs.length ≤ i⟩
theorem turn_enumT {P : Program} {w : World} {K : Fr} {elts : List Expr} {kk : Nat} {tpos : Pos} (a e it : Addr) :
    Turn P w K (.Tuple elts kk tpos) (ItE K a) [e, it] e (fun i h => (∃ old, IsEnum h e it ((i : Nat) : Int) old) ∧ h.IsTupleIter it a i ∧ e ≠ it ∧ a ≠ it ∧ e ≠ a) where
  mem := by simp
  obj := fun i h st b hb => by
    obtain ⟨⟨old, he⟩, ⟨o, ho, hc, hd⟩, _⟩ := st
    rcases (show b = e ∨ b = it by simpa using hb) with z | z
    · subst z
      exact ⟨_, he, fun v q => nomatch q⟩
    · subst z
      exact ⟨o, ho, fun v q => by rw [hd] at q; cases q⟩
  keep := fun i h h' st k => ⟨⟨st.1.choose, k e (by simp) _ st.1.choose_spec⟩, st.2.1.at fun o q => k it (by simp) o q, st.2.2⟩
  item := by
    rintro X rfl rfl rfl hc i pins s σ H E I hf ⟨⟨old, he⟩, hit, ne1, ne2, ne3⟩ ⟨xs, x, hq, hx⟩
    obtain ⟨its, rv, p, hz⟩ := I.tuple hq
    have hel : e < s.heap.objs.size := Heap.lt_size he
    have hil : it < s.heap.objs.size := by obtain ⟨_, q, _⟩ := hit; exact Heap.lt_size q
    have hlen : i < its.toArray.size := by
      rw [List.size_toArray, ← rv.length]
      exact (List.getElem?_eq_some_iff.mp hx).1
    refine wpAny_pyNext_enum_itemD (Draws.tuple (show X.A.in1.handled = none from I.ok.hd hc) it a ne2 its.toArray) he ⟨hit, p⟩ hlen ne1 (by simp [ne1, ne3]) fun u h' tk hu ho hst hT hsz hk => ?_
    obtain ⟨u2, hu2, ru⟩ := rv.get hx
    have eu : u = u2 := by
      have z : its[i]? = some u := by simpa using hu
      exact Option.some.inj (z.symm.trans hu2)
    subst eu
    refine ⟨_, rfl, wpAny_letOwnedTupleGo_enum (s := { s with heap := h', toks := tk + 1 }) ho fun h2 he2 sb => ?_⟩
    have hT2 : h2.get? s.heap.objs.size = some { cls := .type "tuple", data := .seq #[.int i tk, u] } := (sb.2 _ (Nat.ne_of_gt hel)).trans hT
    have fresh : ObjOk X.prog X.w (upd H s.heap.objs.size (.tup [.int (i : Nat), x])) h2 s.heap.objs.size (.tup [.int (i : Nat), x]) :=
      ⟨by show 2 ≤ sizeLine; decide, [.int i tk, u], .cons ⟨_, rfl⟩ (.cons ru .nil), ⟨_, hT2, rfl, _, rfl⟩⟩
    have J := I.turnedNew (t' := tk + 1) (ch := [e, it]) (fun b ob hb q => (sb.2 b (fun z => hb (by simp [z]))).trans (hk b ob (fun z => hb (by simp [z])) (fun z => hb (by simp [z])) q)) hf (Nat.le_refl _) fresh
    refine ⟨.ref s.heap.objs.size, _, J, rfl, ⟨_, x, rfl, I.hok.fresh (Nat.le_refl _), rfl, fun ys hy => by rw [I.tuple_inj hy hq]; exact hx⟩, ⟨⟨u, ?_⟩, hst.1.at fun o q => (sb.2 it (Ne.symm ne1)).trans q, ne1, ne2, ne3⟩, fun b hb => ?_⟩
    · rw [show ((i + 1 : Nat) : Int) = (i : Int) + 1 by omega]
      exact he2
    · have lt : b < s.heap.objs.size := by
        rcases (show b = e ∨ b = it by simpa using hb) with z | z
        · rw [z]; exact hel
        · rw [z]; exact hil
      rw [upd_ne (Nat.ne_of_lt lt)]
      exact (hf b hb).1
  done := by
    rintro X rfl rfl rfl hc i pins s σ H E I hf ⟨⟨old, he⟩, hit, ne1, ne2, ne3⟩ ⟨xs, hq, hx⟩
    obtain ⟨its, rv, p, hz⟩ := I.tuple hq
    obtain ⟨f0, f1, f2, f3, f4, f5⟩ := hf it (by simp)
    have hlen : its.toArray.size ≤ i := by
      rw [List.size_toArray, ← rv.length]
      exact hx
    exact sq_enum_end (I.ok.hd hc) he hit p (Array.getElem?_eq_none hlen) fun h' eb => ⟨rfl, I.turned (t' := s.toks) (fun b o hb q => eb b o hb q) f0 f1 f3 f4 f5⟩
  self := fun A i s Q E st k => wpAny_pyIter_enum st.1.choose_spec k
def iEnumT (K : Fr) (ta : TA) : TI := fun σ H R => ta σ H fun vs H1 => ∃ a xs, vs = [.ref a] ∧ SqT K H1 a xs ∧ R (ItE K a) H1
theorem pi_enumT {X : Cx} {e : Expr} {ta : TA} {p pos tpos : Pos} {elts : List Expr} {kk : Nat} (hm : X.mg "enumerate" = none) (ha : PA X [e] ta) (hg : Gl X "enumerate" := by rfl) (hs : starEach [e] X.env = [(false, eval e X.env)] := by rfl) :
    PI X (.Tuple elts kk tpos) (.Call (.Name "enumerate" p) [e] [] pos) (iEnumT X.K ta) := by
  refine ⟨fun pins s σ H R I h => Call_ (ld_blt I hg hm boot_enumerate (PyProof.Rows.callWith_type1 (thn (ha.run pos pins s σ H _ I h) fun us s1 z => ?_) hs rfl))⟩
  obtain ⟨vs, H1, I1, r1, a, xs, rfl, hq, q⟩ := z
  obtain ⟨u, rfl, ru⟩ := vals1 r1
  cases (show u = Value.ref a from ru)
  obtain ⟨its, rv, pt, hz⟩ := I1.tuple hq
  have la : a < s1.heap.objs.size := pt.lt
  refine sq_enum_call (begins_tuple a its.toArray) pt fun h2 he hit sz kk => wpAny_pyIter_enum he ?_
  refine ⟨s1.heap.objs.size + 1, [s1.heap.objs.size + 1, s1.heap.objs.size], _, _, H1, rfl, I1.kept (t' := s1.toks) kk, turn_enumT a (s1.heap.objs.size + 1) s1.heap.objs.size,
    ⟨⟨.none, he⟩, ⟨_, hit, rfl, rfl⟩, Nat.succ_ne_self _, Nat.ne_of_lt la, Nat.ne_of_gt (Nat.lt_succ_of_lt la)⟩, fun b hb => ?_, q⟩
  have le : s1.heap.objs.size ≤ b := by
    rcases (show b = s1.heap.objs.size + 1 ∨ b = s1.heap.objs.size by simpa using hb) with z | z
    · rw [z]; exact Nat.le_add_right _ _
    · rw [z]; exact Nat.le_refl _
  exact I1.fpOk le (I1.hok.fresh le)
/-- a loop over it, the pair unpacked into two names -/
theorem for_enumT {K : Fr} {a : Addr} {xs : List V} {g : TG} {tb : TS} {D : Ends} {σ : L2.St} {H : Hp} (Pv : Nat → L2.St → Hp → Prop) (h0 : Pv 0 σ H) (hl : ∀ i σ H, Pv i σ H → SqT K H a xs)
    (hs : ∀ i x σ H T, xs[i]? = some x → Pv i σ H → H T = none → g (.ref T) σ (upd H T (.tup [.int (i : Nat), x])) fun σ2 H2 => tb { D with nx := Pv (i + 1), ct := Pv (i + 1), bk := D.nx } σ2 H2) (hd : ∀ σ H, Pv xs.length σ H → D.nx σ H) :
    ∃ W : Nat → Nat → L2.St → Hp → Prop, (∃ m, W 0 m σ H) ∧ ∀ i m σ H, W i m σ H →
      ((ItE K a).stop i H ∧ D.nx σ H) ∨ ((ItE K a).go i H ∧ ∃ N : L2.St → Hp → Prop, (∀ σ' H', N σ' H' → ∃ m', m' < m ∧ W (i + 1) m' σ' H') ∧ ∀ x H', (ItE K a).yld i H x H' → g x σ H' fun σ2 H2 => tb { D with nx := N, ct := N, bk := D.nx } σ2 H2) := by
  refine ⟨fun i m σ H => m = xs.length - i ∧ i ≤ xs.length ∧ Pv i σ H, ⟨_, rfl, Nat.zero_le _, h0⟩, ?_⟩
  rintro i m σ H ⟨rfl, hi, p⟩
  have q := hl i σ H p
  by_cases hlt : i < xs.length
  · refine .inr ⟨⟨xs, xs[i], q, List.getElem?_eq_getElem hlt⟩, Pv (i + 1), fun σ' H' p' => ⟨_, by omega, rfl, hlt, p'⟩, fun x H' y => ?_⟩
    obtain ⟨T, z, rfl, nT, rfl, f⟩ := y
    exact hs i z σ H T (f xs q) p nT
  · have e : i = xs.length := by omega
    subst e
    exact .inl ⟨⟨xs, q, Nat.le_refl _⟩, hd σ H p⟩
/-- .. over a list -/
theorem for_enumL {K : Fr} {a : Addr} {xs : List V} {g : TG} {tb : TS} {D : Ends} {σ : L2.St} {H : Hp} (Pv : Nat → L2.St → Hp → Prop) (h0 : Pv 0 σ H) (hl : ∀ i σ H, Pv i σ H → SqL K H a xs)
    (hs : ∀ i x σ H T, xs[i]? = some x → Pv i σ H → H T = none → g (.ref T) σ (upd H T (.tup [.int (i : Nat), x])) fun σ2 H2 => tb { D with nx := Pv (i + 1), ct := Pv (i + 1), bk := D.nx } σ2 H2) (hd : ∀ σ H, Pv xs.length σ H → D.nx σ H) :
    ∃ W : Nat → Nat → L2.St → Hp → Prop, (∃ m, W 0 m σ H) ∧ ∀ i m σ H, W i m σ H →
      ((Ite K a).stop i H ∧ D.nx σ H) ∨ ((Ite K a).go i H ∧ ∃ N : L2.St → Hp → Prop, (∀ σ' H', N σ' H' → ∃ m', m' < m ∧ W (i + 1) m' σ' H') ∧ ∀ x H', (Ite K a).yld i H x H' → g x σ H' fun σ2 H2 => tb { D with nx := N, ct := N, bk := D.nx } σ2 H2) := by
  refine ⟨fun i m σ H => m = xs.length - i ∧ i ≤ xs.length ∧ Pv i σ H, ⟨_, rfl, Nat.zero_le _, h0⟩, ?_⟩
  rintro i m σ H ⟨rfl, hi, p⟩
  have q := hl i σ H p
  by_cases hlt : i < xs.length
  · refine .inr ⟨⟨xs, xs[i], q, List.getElem?_eq_getElem hlt⟩, Pv (i + 1), fun σ' H' p' => ⟨_, by omega, rfl, hlt, p'⟩, fun x H' y => ?_⟩
    obtain ⟨T, z, rfl, nT, rfl, f⟩ := y
    exact hs i z σ H T (f xs q) p nT
  · have e : i = xs.length := by omega
    subst e
    exact .inl ⟨⟨xs, q, Nat.le_refl _⟩, hd σ H p⟩
end Sq
/-! text SqR3 -/
/-! rules that the layer lacks, part 3: list(zip(xs, ys)) of two lists -/
namespace PySem
open PySem.Spec PyProof.Rows
abbrev sqLst (acc : Array Value) (c : Nat) : Obj := { cls := .type "list", dict := none, data := .seq acc c, slots := #[] }
section
variable {prog : Program} {w : World} {A : Around} {R : Result → Shared → Prop} {S I : Addr} {n : Nat}
/-- the loop of list.extend over an iterator, by a word of the turn's number, the state and what the list holds -/
theorem sq_ext_loop (J : Nat → Shared → Array Value → Prop) (hn : n ≤ sizeLine) (at_ : ∀ i z acc, J i z acc → acc.size = i ∧ ∃ c, z.heap.get? S = some (sqLst acc c))
    (turn : ∀ i z acc, i < n → J i z acc → wpAny (model prog w) A.in1 (pyNext (.ref I)) (fun r z1 => ∃ v c, r = some v ∧ z1.heap.get? S = some (sqLst acc c) ∧ J (i + 1) { z1 with heap := z1.heap.update S (Obj.mapSeq (·.push v)) } (acc.push v)) (fun e z1 => R (.error e) z1) z)
    (fin : ∀ z acc, J n z acc → wpAny (model prog w) A.in1 (pyNext (.ref I)) (fun r z1 => r = none ∧ R (.ok (.ret .none)) z1) (fun e z1 => R (.error e) z1) z) :
    ∀ (k i : Nat) (z : Shared) (acc : Array Value), n - i = k → i ≤ n → J i z acc → codeAny (model prog w) A (.builtin "list.extend.loop" ⟨[.ref S, .ref I, .none], []⟩) R z := by
  intro k
  induction k with
  | zero =>
    intro i z acc hk hi h
    obtain rfl : i = n := by omega
    refine codeAny_builtin F.entry_extend_loop ?_
    rw [Around.under_plainId F.plain_extend_loop _]
    show wpAny _ A.in1 (pyNext (.ref I) >>= _) _ _ z
    refine wpAny_bind (wpAny_mono (fin z acc h) (fun r z1 q => ?_) fun _ _ q => q)
    obtain ⟨rfl, q⟩ := q
    exact wpAny_pure q
  | succ k ih =>
    intro i z acc hk hi h
    refine codeAny_builtin F.entry_extend_loop ?_
    rw [Around.under_plainId F.plain_extend_loop _]
    show wpAny _ A.in1 (pyNext (.ref I) >>= _) _ _ z
    refine wpAny_bind (wpAny_mono (turn i z acc (by omega) h) (fun r z1 q => ?_) fun _ _ q => q)
    obtain ⟨v, c, rfl, hS, q⟩ := q
    have sz := (at_ i z acc h).1
    show wpAny _ A.in1 (updateSeq S (·.push v) >>= _) _ _ _
    refine wpAny_bind (wpAny_updateSeq hS rfl (wpAny_pure ⟨plainId_quiet F.plain_extend_loop _, ih (i + 1) _ (acc.push v) (by omega) (by omega) q⟩) ?_ ?_)
    · rw [sz]; omega
    · show (acc.push v).size ≤ sizeLine + 1
      rw [Array.size_push, sz]; omega
end
theorem sq_zip_no_len : typeLookup (.type "zip") "__len__" = pure none := by rw [typeLookup_type, builtinLookup_eq_fast]; kernel_rfl
theorem sq_zip_no_hint : typeLookup (.type "zip") "__length_hint__" = pure none := by rw [typeLookup_type, builtinLookup_eq_fast]; kernel_rfl
section
variable {prog : Program} {w : World} {A : Around} {E : Value → Shared → Prop} {z : Shared} {I : Addr} {n : Nat}
/-- list(it), it a zip -/
theorem sq_list_zip {Q : Value → Shared → Prop} (hT : z.TypeIs (.ref I) "zip") (hI : I < z.heap.objs.size) (hself : ∀ (A2 : Around) (z2 : Shared) (Q2 : Value → Shared → Prop) (E2 : Value → Shared → Prop), z2.TypeIs (.ref I) "zip" → (∀ b o, z.heap.get? b = some o → z2.heap.get? b = some o) → Q2 (.ref I) z2 → wpAny (model prog w) A2 (pyIter (.ref I)) Q2 E2 z2)
    (hn : n ≤ sizeLine) (J : Nat → Shared → Array Value → Prop)
    (at_ : ∀ i z1 acc, J i z1 acc → acc.size = i ∧ ∃ c, z1.heap.get? z.heap.objs.size = some (sqLst acc c))
    (start : ∀ h2 c, (∀ b o, z.heap.get? b = some o → h2.get? b = some o) → h2.objs.size = z.heap.objs.size + 1 → h2.get? z.heap.objs.size = some (sqLst #[] c) → J 0 { z with heap := h2 } #[])
    (turn : ∀ i z1 acc, i < n → J i z1 acc → wpAny (model prog w) A.in1.in1 (pyNext (.ref I)) (fun r z2 => ∃ v c, r = some v ∧ z2.heap.get? z.heap.objs.size = some (sqLst acc c) ∧ J (i + 1) { z2 with heap := z2.heap.update z.heap.objs.size (Obj.mapSeq (·.push v)) } (acc.push v)) E z1)
    (fin : ∀ z1 acc, J n z1 acc → wpAny (model prog w) A.in1.in1 (pyNext (.ref I)) (fun r z2 => r = none ∧ Q (.ref z.heap.objs.size) z2) E z1) :
    wpAny (model prog w) A (call (.type "list") [.ref I]) Q E z := by
  have hSI : z.heap.objs.size ≠ I := Nat.ne_of_gt hI
  refine callType_codes (Q₁ := fun ob z1 => ob = .ref z.heap.objs.size ∧ z1 = { z with heap := z.heap.push { cls := .type "list", data := .seq #[] } }) F.called_list (F.typeCall_list_1 _) F.entry_list_init (code_list_new _ ⟨rfl, rfl⟩) fun ob z1 h1 => ?_
  obtain ⟨rfl, rfl⟩ := h1
  have hS : (z.heap.push { cls := .type "list", data := .seq #[] }).get? z.heap.objs.size = some { cls := .type "list", data := .seq #[] } := Heap.get?_push_size _ rfl
  refine ⟨⟨_, hS, rfl⟩, F.args_list_init_2 _ _, ?_⟩
  show wpAny _ _ (do let old ← Builtin.List.listItems (.ref z.heap.objs.size); Builtin.List.listUpdate (.ref z.heap.objs.size) (fun _ => #[]); letGo old.toList.reverse; Builtin.List.listExtendWith (.ref z.heap.objs.size) (.ref I) .none) _ _ _
  refine wpAny_bind ?_
  unfold Builtin.List.listItems
  refine wpAny_bind (wpAny_seqItems hS rfl (wpAny_pure ?_))
  show wpAny _ _ (updateSeq z.heap.objs.size (fun _ => #[]) >>= fun _ => letGo (#[] : Array Value).toList.reverse >>= fun _ => Builtin.List.listExtendWith (.ref z.heap.objs.size) (.ref I) .none) _ _ _
  refine wpAny_bind (wpAny_updateSeq hS rfl ?_)
  have hS2 := Heap.get?_update_self (Obj.mapSeq (fun _ => (#[] : Array Value))) hS rfl
  refine wpAny_bind (wpAny_letGo ?_)
  have keep : ∀ b o, z.heap.get? b = some o → ((z.heap.push { cls := .type "list", data := .seq #[] }).update z.heap.objs.size (Obj.mapSeq (fun _ => (#[] : Array Value)))).get? b = some o := fun b o e =>
    (Heap.get?_update_other _ _ (Nat.ne_of_gt (Heap.lt_size e))).trans (Heap.get?_push_of_some _ e)
  generalize hh : (z.heap.push { cls := .type "list", data := .seq #[] }).update z.heap.objs.size (Obj.mapSeq (fun _ => (#[] : Array Value))) = h2 at hS2 keep
  have sz2 : h2.objs.size = z.heap.objs.size + 1 := by
    rw [← hh, (Heap.SameBut.update ..).1, Heap.size_push]
  have hT2 : Shared.TypeIs { z with heap := h2 } (.ref I) "zip" := by
    obtain ⟨o, ho, hc⟩ := hT
    exact ⟨o, keep _ _ ho, hc⟩
  show wpAny _ _ (Builtin.List.listExtendWith (.ref z.heap.objs.size) (.ref I) .none) _ _ { z with heap := h2 }
  unfold Builtin.List.listExtendWith
  refine wpAny_bind (wpAny_typeOf hT2 ?_)
  have e1 : Builtin.List.listSameRef (.ref z.heap.objs.size) (.ref I) = false := by simp [Builtin.List.listSameRef, hSI]
  have e2 : (Value.type "zip" == Value.type "list") = false := by decide
  have e3 : (Value.type "zip" == Value.type "tuple") = false := by decide
  simp only [e1, e2, e3, Bool.or_false, Bool.false_eq_true, if_false]
  refine wpAny_bind (hself _ _ _ _ hT2 keep ?_)
  refine wpAny_bind (wpAny_holding ?_)
  unfold Builtin.List.listLengthHint
  refine wpAny_bind (wpAny_specialOf hT2 sq_zip_no_len ?_)
  show wpAny _ _ (specialOf (Value.ref I) (Str.ofString "__length_hint__") >>= _) _ _ _
  refine wpAny_bind (wpAny_specialOf hT2 sq_zip_no_hint (wpAny_pure ?_))
  show wpAny _ _ (rule "list.extend.makes-room" >>= fun _ => Builtin.List.listTouch (.ref z.heap.objs.size) >>= fun _ => again (.builtin "list.extend.loop" ⟨[.ref z.heap.objs.size, .ref I, .none], []⟩)) _ _ _
  refine wpAny_bind (wpAny_rule (wpAny_bind ?_))
  show wpAny _ _ (updateSeq z.heap.objs.size (·.push .none) >>= fun _ => updateSeq z.heap.objs.size (·.pop)) _ _ _
  refine wpAny_bind (wpAny_updateSeq hS2 rfl ?_)
  have hS3 := Heap.get?_update_self (Obj.mapSeq (·.push Value.none)) hS2 rfl
  refine wpAny_updateSeq (hz := by seq_fits) hS3 rfl ?_
  have hS4 := Heap.get?_update_self (Obj.mapSeq (·.pop)) hS3 rfl
  refine wpAny_pure ⟨plainId_quiet F.plain_extend_loop _, sq_ext_loop (n := n) J hn at_ turn (fun z1 acc h => wpAny_mono (fin z1 acc h) (fun r z2 q => ⟨q.1, rfl, q.2⟩) fun _ _ q => q) n 0 _ #[] rfl (Nat.zero_le _) ?_⟩
  refine start _ _ (fun b o e => ?_) ?_ hS4
  · exact (Heap.get?_update_other _ _ (Nat.ne_of_gt (Heap.lt_size e))).trans ((Heap.get?_update_other _ _ (Nat.ne_of_gt (Heap.lt_size e))).trans (keep b o e))
  · rw [(Heap.SameBut.update ..).1, (Heap.SameBut.update ..).1]
    exact sz2
end
end PySem
namespace Sq
open PySem PySem.Spec PyProof.Rows L2
/-- all that stood is kept, new things are tracked beside -/
theorem inv_grown {X : Cx} {pins : List (Addr × Obj)} {σ : L2.St} {H H' : Hp} {s : Shared} {h' : Heap} {tk : Nat} (I : Inv X pins σ H s) (hk : ∀ b o, s.heap.get? b = some o → h'.get? b = some o) (hs : Same H H')
    (hn : ∀ b u, H' b = some u → H b = none → s.heap.objs.size ≤ b ∧ ObjOk X.prog X.w H' h' b u) : Inv X pins σ H' { s with heap := h', toks := tk } := by
  refine I.un ⟨fun b o q _ _ _ => hk b o q, fun b o q _ _ _ => ⟨o.slots, hk b o q⟩, fun b o q n _ => ?_, fun b o q _ => ⟨o, hk b o q⟩, fun b xs q => hs b _ q, fun b o u q => hs b _ q, fun b ps q => ⟨#[], by rw [hs b _ q]; simp⟩⟩ fun b u q => ?_
  · cases e : H' b with
    | none => rfl
    | some u => exact absurd (Nat.lt_of_lt_of_le (Heap.lt_size q) (hn b u e n).1) (Nat.lt_irrefl _)
  · cases e : H b with
    | none => exact (hn b u q e).2
    | some v =>
      have ev : v = u := Option.some.inj ((hs b v e).symm.trans q)
      subst ev
      exact (I.hok b v e).stay (fun d o _ y => hk d o y) (fun d y => hs d _ y) fun d xs y => hs d _ y
def sqRefs (n : Nat) (k : Nat) : List Addr := (List.range k).map fun i => n + i
/-- what list(zip(xs, ys)) leaves: the list D, its tuples -/
def zpH (H : Hp) (D : Addr) (ps : List (V × V)) : Hp := fun b => if b = D then some (.lst ((List.range ps.length).map fun i => V.ref (D + 1 + i))) else if D < b then (match ps[b - (D + 1)]? with
  | some p => some (.tup [p.1, p.2])
  | none => H b) else H b
def tListZip (K : Fr) (ta : TA) : TE := fun σ H Q => ta σ H fun vs H1 => ∃ (a b : Addr) (xs ys : List V), vs = [.ref a, .ref b] ∧ SqL K H1 a xs ∧ SqL K H1 b ys ∧ xs.length = ys.length ∧ 0 < xs.length ∧ xs.length ≤ 1000 ∧
  ∀ (D : Addr), (∀ c, D ≤ c → H1 c = none) → Q (.ref D) (zpH H1 D (xs.zip ys))
theorem nA {x y : Nat} (h : ¬ x = y) : (x : Addr) ≠ (y : Addr) := h
/-- the state of list(zip(..)) at a turn -/
structure ZSt (s : Shared) (n0 : Nat) (a b : Addr) (us ws : List Value) (i : Nat) (z : Shared) (acc : Array Value) : Prop where
  ex : ∃ h : Heap, z = { s with heap := h } ∧ h.objs.size = n0 + 6 + i ∧ (∀ c o, s.heap.get? c = some o → h.get? c = some o) ∧
    ((i = 0 ∧ IsZip h (n0 + 4) (n0 + 2) (n0 + 3) .none ∧ ∃ x y, IsPair h (n0 + 3) x y) ∨ (0 < i ∧ ∃ (T : Addr) (f : Bool) (oT : Obj), IsZipHeld h (n0 + 4) (n0 + 2) (n0 + 3) T f ∧ T = n0 + 6 ∧ h.get? T = some oT)) ∧
    IsPair h (n0 + 2) (.ref n0) (.ref (n0 + 1)) ∧ h.IsListIter n0 a i ∧ h.IsListIter (n0 + 1) b i ∧
    (∀ k x y, k < i → us[k]? = some x → ws[k]? = some y → IsPair h (n0 + 6 + k) x y)
  fa : acc.toList = (List.range i).map fun k => Value.ref (n0 + 6 + k)
  lst : ∃ c, z.heap.get? (n0 + 5) = some (sqLst acc c)
section
variable {prog : Program} {w : World} {A : Around} {E : Value → Shared → Prop} {s : Shared} {n0 : Nat} {a b : Addr} {us ws : List Value}
theorem zst_turn {i : Nat} {z : Shared} {acc : Array Value} (D : ZipApart (n0 + 4) (n0 + 2) (n0 + 3) n0 (n0 + 1) a b) (hn : n0 = s.heap.objs.size) (la : s.heap.IsList a us.toArray) (lb : s.heap.IsList b ws.toArray) {x y : Value} (hx : us[i]? = some x) (hy : ws[i]? = some y) (h : ZSt s n0 a b us ws i z acc) :
    wpAny (model prog w) A (pyNext (.ref (n0 + 4))) (fun r z1 => ∃ v c, r = some v ∧ z1.heap.get? (n0 + 5) = some (sqLst acc c) ∧ ZSt s n0 a b us ws (i + 1) { z1 with heap := z1.heap.update (n0 + 5) (Obj.mapSeq (·.push v)) } (acc.push v)) E z := by
  obtain ⟨⟨hp, rfl, sz, kp, zz, hTI, h1, h2, prs⟩, hacc, c, hS⟩ := h
  have hS : hp.get? (n0 + 5) = some (sqLst acc c) := hS
  have old : ∀ {q : Nat} {o : Obj}, s.heap.get? q = some o → q < n0 := fun {q o} e => by
    rw [hn]
    exact Heap.lt_size e
  have end_ : ∀ (h3 : Heap) (T : Addr) (f : Bool) (oT : Obj), T = n0 + 6 → IsZipHeld h3 (n0 + 4) (n0 + 2) (n0 + 3) T f → h3.get? T = some oT → h3.IsListIter n0 a (i + 1) → h3.IsListIter (n0 + 1) b (i + 1) → IsPair h3 (n0 + 6 + i) x y → h3.objs.size = n0 + 6 + (i + 1) →
      (∀ q o, q ≠ n0 + 4 → q ≠ n0 + 3 → q ≠ n0 → q ≠ n0 + 1 → hp.get? q = some o → h3.get? q = some o) →
      ∃ v c, some (Value.ref (n0 + 6 + i)) = some v ∧ (Shared.heap { s with heap := h3 }).get? (n0 + 5) = some (sqLst acc c) ∧ ZSt s n0 a b us ws (i + 1) { s with heap := h3.update (n0 + 5) (Obj.mapSeq (·.push v)) } (acc.push v) := by
    intro h3 T f oT eT hz hT i1 i2 pr sz3 k3
    subst eT
    have hS3 : h3.get? (n0 + 5) = some (sqLst acc c) := k3 _ _ (nA (by omega)) (nA (by omega)) (nA (by omega)) (nA (by omega)) hS
    have off : ∀ q o, q ≠ n0 + 5 → h3.get? q = some o → (h3.update (n0 + 5) (Obj.mapSeq (·.push (Value.ref (n0 + 6 + i))))).get? q = some o := fun q o nq e => (Heap.get?_update_other _ _ (Ne.symm nq)).trans e
    refine ⟨_, c, rfl, hS3, ⟨_, rfl, ?_, fun q o e => ?_, .inr ⟨Nat.succ_pos i, n0 + 6, f, oT, off _ _ (nA (by omega)) hz, rfl, off _ _ (nA (by omega)) hT⟩, off _ _ (nA (by omega)) (k3 _ _ (nA (by omega)) (nA (by omega)) (nA (by omega)) (nA (by omega)) hTI), i1.at fun o e => off _ _ (nA (by omega)) e, i2.at fun o e => off _ _ (nA (by omega)) e, fun k x' y' hk ex ey => ?_⟩, ?_, ?_⟩
    · rw [(Heap.SameBut.update ..).1]
      exact sz3
    · have lt := old e
      exact off _ _ (nA (by omega)) (k3 _ _ (nA (by omega)) (nA (by omega)) (nA (by omega)) (nA (by omega)) (kp q o e))
    · by_cases hk2 : k < i
      · exact off _ _ (nA (by omega)) (k3 _ _ (nA (by omega)) (nA (by omega)) (nA (by omega)) (nA (by omega)) (prs k x' y' hk2 ex ey))
      · obtain rfl : k = i := by omega
        rw [hx] at ex
        rw [hy] at ey
        cases ex
        cases ey
        exact off _ _ (nA (by omega)) pr
    · rw [Array.toList_push, hacc, List.range_succ, List.map_append]
      rfl
    · exact ⟨_, Heap.get?_update_self _ hS3 rfl⟩
  have la2 : hp.IsList a us.toArray := la.at fun o e => kp _ _ e
  have lb2 : hp.IsList b ws.toArray := lb.at fun o e => kp _ _ e
  rcases zz with ⟨rfl, hz, x0, y0, hTO⟩ | ⟨hi, T, f, oT, hz, eT, hT⟩
  · refine wpAny_pyNext_zip_item (s := { s with heap := hp }) D hz hTI hTO h1 h2 la2 lb2 (by simpa using hx) (by simpa using hy) fun h3 z3 TO3 i1 i2 pr sz3 k3 => ?_
    rw [show (Shared.heap { s with heap := hp }).objs.size = n0 + 6 + 0 from sz] at pr sz3 z3 ⊢
    have hT3 := pr
    exact end_ h3 (n0 + 6 + 0) false _ rfl z3 hT3 i1 i2 pr (by rw [sz3] <;> rfl) fun q o q1 q2 q3 q4 e => k3 q o q1 q2 q3 q4 e
  · refine wpAny_pyNext_zip_item_held (s := { s with heap := hp }) D hz hT hTI h1 h2 la2 lb2 (by simpa using hx) (by simpa using hy) fun h3 z3 i1 i2 pr sz3 k3 => ?_
    rw [show (Shared.heap { s with heap := hp }).objs.size = n0 + 6 + i from sz] at pr sz3 ⊢
    subst eT
    refine end_ h3 (n0 + 6) true oT rfl z3 (k3 _ _ (nA (by omega)) (nA (by omega)) (nA (by omega)) hT) i1 i2 pr (by rw [sz3] <;> rfl) fun q o q1 q2 q3 q4 e => k3 q o q1 q3 q4 e
theorem zst_end {z : Shared} {acc : Array Value} {Q : Shared → Prop} (hh : A.handled = none) (D : ZipApart (n0 + 4) (n0 + 2) (n0 + 3) n0 (n0 + 1) a b) (hn : n0 = s.heap.objs.size) (la : s.heap.IsList a us.toArray) (lb : s.heap.IsList b ws.toArray) (hl : us.length = ws.length) (h0 : 0 < us.length) (h : ZSt s n0 a b us ws us.length z acc)
    (hQ : ∀ (h2 : Heap) (c : Nat), (∀ q o, s.heap.get? q = some o → h2.get? q = some o) → h2.get? (n0 + 5) = some (sqLst acc c) → (∀ k x y, us[k]? = some x → ws[k]? = some y → IsPair h2 (n0 + 6 + k) x y) → Q { s with heap := h2 }) :
    wpAny (model prog w) A (pyNext (.ref (n0 + 4))) (fun r z1 => r = none ∧ Q z1) E z := by
  obtain ⟨⟨hp, rfl, sz, kp, zz, hTI, h1, h2, prs⟩, hacc, c, hS⟩ := h
  have hS : hp.get? (n0 + 5) = some (sqLst acc c) := hS
  have old : ∀ {q : Nat} {o : Obj}, s.heap.get? q = some o → q < n0 := fun {q o} e => by
    rw [hn]
    exact Heap.lt_size e
  have la2 : hp.IsList a us.toArray := la.at fun o e => kp _ _ e
  have lb2 : hp.IsList b ws.toArray := lb.at fun o e => kp _ _ e
  rcases zz with ⟨hi, _⟩ | ⟨hi, T, f, oT, hz, eT, hT⟩
  · omega
  · refine wpAny_pyNext_zip_end_held (s := { s with heap := hp }) hh D hz hT hTI h1 h2 la2 lb2 (.inl (by simp)) fun h3 k3 => ⟨rfl, hQ h3 c (fun q o e => ?_) (k3 _ _ (nA (by omega)) (nA (by omega)) (nA (by omega)) hS) fun k x y ex ey => ?_⟩
    · have lt := old e
      exact k3 _ _ (nA (by omega)) (nA (by omega)) (nA (by omega)) (kp q o e)
    · exact k3 _ _ (nA (by omega)) (nA (by omega)) (nA (by omega)) (prs k x y (List.getElem?_eq_some_iff.mp ex).1 ex ey)
end
theorem vals_rf (n : Nat) : ∀ k : Nat, Vals ((List.range k).map fun i => V.ref (n + 1 + i)) ((List.range k).map fun i => Value.ref (n + 1 + i)) := fun k => by
  generalize List.range k = l
  induction l with
  | nil => exact .nil
  | cons x l ih => exact .cons rfl ih
theorem zpH_at {H : Hp} {D : Addr} {ps : List (V × V)} : zpH H D ps D = some (.lst ((List.range ps.length).map fun i => V.ref (D + 1 + i))) := by
  unfold zpH
  rw [if_pos rfl]
theorem zpH_pair {H : Hp} {D : Nat} {ps : List (V × V)} {i : Nat} {p : V × V} (h : ps[i]? = some p) : zpH H D ps (D + 1 + i : Nat) = some (.tup [p.1, p.2]) := by
  have e1 : ¬ (D + 1 + i : Nat) = D := by omega
  have e2 : D < D + 1 + i := by omega
  have e3 : D + 1 + i - (D + 1) = i := by omega
  unfold zpH
  rw [if_neg (show ¬ ((D + 1 + i : Nat) : Addr) = D from e1), if_pos (show (D : Addr) < (D + 1 + i : Nat) from e2)]
  show (match ps[(D + 1 + i) - (D + 1)]? with
    | some p => some (HO.tup [p.1, p.2])
    | none => H (D + 1 + i : Nat)) = _
  rw [e3, h]
theorem zpH_cases {H : Hp} {D : Nat} {ps : List (V × V)} {b : Nat} {u : HO} (hf : ∀ c : Nat, D ≤ c → H c = none) (h : zpH H D ps b = some u) :
    (b = D ∧ u = .lst ((List.range ps.length).map fun i => V.ref (D + 1 + i))) ∨ (∃ i p, b = D + 1 + i ∧ ps[i]? = some p ∧ u = .tup [p.1, p.2]) ∨ (b < D ∧ H b = some u) := by
  unfold zpH at h
  by_cases h1 : b = D
  · rw [if_pos h1] at h
    cases h
    exact .inl ⟨h1, rfl⟩
  · rw [if_neg h1] at h
    by_cases h2 : D < b
    · rw [if_pos h2] at h
      cases e : ps[b - (D + 1)]? with
      | some p =>
        rw [e] at h
        cases h
        exact .inr (.inl ⟨_, p, by omega, e, rfl⟩)
      | none =>
        rw [e] at h
        rw [hf b (by omega)] at h
        cases h
    · rw [if_neg h2] at h
      exact .inr (.inr ⟨by omega, h⟩)
theorem zpH_same {H : Hp} {D : Nat} {ps : List (V × V)} (hf : ∀ c : Nat, D ≤ c → H c = none) : Same H (zpH H D ps) := fun b o e => by
  have lt : (b : Nat) < D := by
    by_cases h : D ≤ (b : Nat)
    · rw [hf b h] at e
      cases e
    · exact Nat.lt_of_not_le h
  unfold zpH
  rw [if_neg (Nat.ne_of_lt lt), if_neg (Nat.lt_asymm lt)]
  exact e
theorem pe_listZip {X : Cx} {e e2 : Expr} {ta : TA} {p p2 pos pos2 : Pos} (hc : X.calm = true) (hm : X.mg "list" = none) (hm2 : X.mg "zip" = none) (ha : PA X [e, e2] ta) (hg : Gl X "list" := by rfl) (hg2 : Gl X "zip" := by rfl)
    (hs : starEach [.Call (.Name "zip" p2) [e, e2] [] pos2] X.env = (false, eval (.Call (.Name "zip" p2) [e, e2] [] pos2) X.env) :: starEach [] X.env := by rfl)
    (hs2 : starEach [e, e2] X.env = (false, eval e X.env) :: starEach [e2] X.env := by rfl) (hpl : (backTo pos2 (starEach [e2] X.env)).any (·.1) = false := by rfl) :
    PE X (.Call (.Name "list" p) [.Call (.Name "zip" p2) [e, e2] [] pos2] [] pos) (tListZip X.K ta) := by
  refine ⟨fun pins s σ H Q I hq => wpAny_Call_Name_kw (ld_blt (u := .type "list") I hg hm (by decide +kernel) (PyProof.Rows.callWith_type1 ?_ hs rfl))⟩
  rw [hs]
  show wpAny _ _ (spliced ((false, eval (.Call (.Name "zip" p2) [e, e2] [] pos2) X.env) :: backTo pos (starEach [] X.env))) _ _ s
  refine Calls.spliced_cons (Call_ (ld_blt I hg2 hm2 PyProof.Rows.boot_zip (PyProof.Rows.callWith_type1 (thn (ha.run pos2 pins s σ H _ I hq) fun us s1 z => ?_) hs2 hpl)))
  obtain ⟨vs, H1, I1, r1, a, b, xs, ys, rfl, hx, hy, hl, h0, hz, q⟩ := z
  obtain ⟨u1, u2, rfl, ra, rb⟩ := vals2 r1
  cases (show u1 = Value.ref a from ra)
  cases (show u2 = Value.ref b from rb)
  obtain ⟨its, rv, pa, _⟩ := I1.list hx
  obtain ⟨its2, rv2, pb, _⟩ := I1.list hy
  have l1 := rv.length
  have l2 := rv2.length
  have la : a < s1.heap.objs.size := pa.lt
  have lb : b < s1.heap.objs.size := pb.lt
  have DA := PySem.W.ktu_apart s1.heap.objs.size a b la lb
  refine call_zip_2 pa.isList pb.isList fun h1 z1 hTI hTO i1 i2 sz k1 => Calls.spliced_nil ?_
  have fresh : ∀ c : Nat, s1.heap.objs.size + 5 ≤ c → H1 c = none := fun c hc => I1.hok.fresh (Nat.le_trans (Nat.le_add_right _ _) hc)
  have hh : X.A.in1.in1.handled = none := I1.ok.hd hc
  refine sq_list_zip (z := { s1 with heap := h1 }) (n := its.length) ⟨_, z1, rfl⟩ (by show s1.heap.objs.size + 4 < h1.objs.size; rw [sz]; exact Nat.lt_succ_self _) (fun A2 z2 Q2 E2 hT kk q2 => ?_) (szl (by omega))
    (fun i z acc => ZSt s1 s1.heap.objs.size a b its its2 i z acc) (fun i z acc hst => ⟨?_, ?_⟩) (fun h2 c k2 sz2 hS => ?_) (fun i z acc hi hst => ?_) (fun z acc hst => ?_)
  · exact wpAny_pyIter_zip (kk _ _ z1) q2
  · rw [← Array.length_toList, hst.fa, List.length_map, List.length_range]
  · show ∃ c, z.heap.get? h1.objs.size = _
    rw [sz]
    exact hst.lst
  · have hS : h2.get? h1.objs.size = some (sqLst #[] c) := hS
    rw [sz] at hS
    have k2 : ∀ b o, h1.get? b = some o → h2.get? b = some o := k2
    refine ⟨⟨h2, rfl, by rw [show h2.objs.size = h1.objs.size + 1 from sz2, sz], fun c o e => k2 _ _ (k1 _ _ e), .inl ⟨rfl, k2 _ _ z1, _, _, k2 _ _ hTO⟩, k2 _ _ hTI, i1.at fun o e => k2 _ _ e, i2.at fun o e => k2 _ _ e, fun k x y hk => absurd hk (Nat.not_lt_zero _)⟩, rfl, _, hS⟩
  · show wpAny _ _ _ (fun r z2 => ∃ v c, r = some v ∧ z2.heap.get? h1.objs.size = some (sqLst acc c) ∧ ZSt s1 s1.heap.objs.size a b its its2 (i + 1) { z2 with heap := z2.heap.update h1.objs.size (Obj.mapSeq (·.push v)) } (acc.push v)) _ _
    rw [sz]
    exact zst_turn DA rfl pa.isList pb.isList (List.getElem?_eq_getElem hi) (List.getElem?_eq_getElem (by omega)) hst
  · show wpAny _ _ _ (fun r z2 => r = none ∧ EP X pins σ Q (.ref h1.objs.size) z2) _ _
    rw [sz]
    refine zst_end (Q := fun z2 => EP X pins σ Q (.ref (s1.heap.objs.size + 5)) z2) hh DA rfl pa.isList pb.isList (by omega) (by omega) hst fun h2 c k2 hS prs => ?_
    have hzip : ∀ (i : Nat) (pr : V × V), (xs.zip ys)[i]? = some pr → xs[i]? = some pr.1 ∧ ys[i]? = some pr.2 := fun i pr e => by
      have e2 := List.getElem?_zip_eq_some.mp e
      exact e2
    refine ⟨.ref (s1.heap.objs.size + 5), zpH H1 (s1.heap.objs.size + 5) (xs.zip ys), inv_grown (tk := s1.toks) I1 k2 (zpH_same fresh) (fun c u e n => ?_), rfl, q _ fresh⟩
    rcases zpH_cases fresh e with ⟨rfl, rfl⟩ | ⟨i, pr, rfl, ep, rfl⟩ | ⟨lt, e2⟩
    · refine ⟨Nat.le_add_right _ _, by rw [List.length_map, List.length_range, List.length_zip]; exact szl (by omega), acc.toList, c, ?_, by rw [Array.toArray_toList]; exact hS⟩
      have el : (xs.zip ys).length = its.length := by
        rw [List.length_zip]
        omega
      rw [hst.fa, el]
      exact vals_rf (s1.heap.objs.size + 5) _
    · obtain ⟨ex, ey⟩ := hzip i pr ep
      obtain ⟨x, hx2, rx⟩ := rv.get ex
      obtain ⟨y, hy2, ry⟩ := rv2.get ey
      exact ⟨by show s1.heap.objs.size ≤ s1.heap.objs.size + 5 + 1 + i; omega, by show 2 ≤ sizeLine; decide, [x, y], .cons rx (.cons ry .nil), ⟨_, prs i x y hx2 hy2, rfl, _, rfl⟩⟩
    · rw [n] at e2
      cases e2
end Sq
/-! text SqR4 -/
/-! rules that the layer lacks, part 4: next(generator expression, None): the first thing that passes -/
namespace PySem
open PySem.Spec PyProof.Rows
/-- the generator's turn as far as its first yield -/
def onceP (C : Addr) (wr : List Addr) (pz : Nat → Bool) (n₀ : Nat) (G : Nat → Value → Heap → Prop) : Protocol := fun _ s₀ v s _ =>
  GenSince C wr s₀ s ∧ ∃ i, i < n₀ ∧ (∀ j, j < i → pz j = false) ∧ pz i = true ∧ G i v s.heap
abbrev onceR (C : Addr) (wr : List Addr) (pz : Nat → Bool) (n₀ : Nat) : Nat → Shared → Shared → Prop := fun _ s₀ s₁ => (∀ j, j < n₀ → pz j = false) ∧ GenSince C wr s₀ s₁
section
variable {prog : Program} {w : World} {A : Around}
structure OnceGen (prog : Program) (w : World) (ce : Env) (x : Str) (ifs : List Expr) (elt : Expr) (fp wr : List Addr) (P : Nat → Value → Prop) (pz : Nat → Bool) (G : Nat → Value → Heap → Prop) (href : Heap) : Prop where
  tests : ∀ (A' : Around) E' i v (z : Shared) mz, A'.handled = none → P i v → z.heap.Ns ce.locals mz → mz x = some v →
    (∀ b ∈ fp, b ∉ wr → ∀ o, href.get? b = some o → z.heap.get? b = some o) →
    wpAny (model prog w) A' (forIn ifs true fun c r => if r = true then do let ok ← isTrue c ce (eval c ce); pure (ForInStep.yield ok) else pure (ForInStep.yield r))
      (fun ok z3 => ok = pz i ∧ Keeps z z3) E' z
  elt : ∀ (A' : Around) E' i v (z : Shared) mz, A'.handled = none → P i v → pz i = true → z.heap.Ns ce.locals mz → mz x = some v →
    (∀ b ∈ fp, b ∉ wr → ∀ o, href.get? b = some o → z.heap.get? b = some o) →
    wpAny (model prog w) A' (eval elt ce) (fun y z3 => G i y z3.heap ∧ Keeps z z3) E' z
theorem once_loop {elt iter : Expr} {x : Str} {px : Pos} {ifs : List Expr} {scope : Scope} {pos : Pos} {I : Addr} {fp wr : List Addr} {n₀ : Nat}
    {P : Nat → Value → Prop} {St₀ : Nat → Heap → Prop} {ce : Env}
    (hh : A.handled = none) (W₀ : ∀ A' : Around, A'.handled = none → Walks prog w A' I fp wr n₀ P St₀) (pz : Nat → Bool) (G : Nat → Value → Heap → Prop) (href : Heap)
    (hx : ce.kindOf x = some .local)
    (hp : (ce.scope.kind == .class || (ce.scope.kind == .module && ce.locals != ce.globals)) = false) (hco : ce.scope.isCoroutine = false)
    (hCf : ce.locals ∉ fp) (hq : OnceGen prog w ce x ifs elt fp wr P pz G href) :
    ∀ (k i : Nat) (s₀ s : Shared) (m : Str → Option Value), n₀ - i = k → i ≤ n₀ → (∀ j, j < i → pz j = false) → St₀ i s.heap →
      s.heap.Ns ce.locals m → GenSince ce.locals wr s₀ s → (∀ b ∈ fp, b ∉ wr → ∀ o, href.get? b = some o → s.heap.get? b = some o) →
      Seg (model prog w) A (fun n s₀ r s₁ => r = .ok .next ∧ onceR ce.locals wr pz n₀ n s₀ s₁) (onceP ce.locals wr pz n₀ G) 1 s₀
        (.compLoop (.GeneratorExp elt [⟨.Name x px, iter, ifs, 0⟩] scope pos) 0 (.ref I) .none ce)
        ((model prog w).den (.compLoop (.GeneratorExp elt [⟨.Name x px, iter, ifs, 0⟩] scope pos) 0 (.ref I) .none ce)) [] s := by
  have hh2 : (A.over (.compLoop (.GeneratorExp elt [⟨.Name x px, iter, ifs, 0⟩] scope pos) 0 (.ref I) .none ce) []).handled = none := hh
  have hCw : ce.locals ∉ wr := fun h => hCf ((W₀ A hh).sub _ h)
  intro k
  induction k with
  | zero =>
    intro i s₀ s m hk hi hno hst hn hsince hkp
    obtain rfl : i = n₀ := by omega
    show Seg _ A _ _ _ s₀ _ ((compTurn (.GeneratorExp elt [⟨.Name x px, iter, ifs, 0⟩] scope pos) 0 (.ref I) .none ce).onRaise (leaving ce)) [] s
    rw [compTurn_gen, Sem.onRaise_eq_wrap]
    refine seg_bind_wrap (wpAny_standAt ?_)
    refine seg_bind_wrap ((W₀ _ hh2).done s _ _ hst fun h' tk hk' => ?_)
    exact seg_end (.ok .next) ⟨rfl, hno, hsince.step fun b o _ hw e => hk' b o hw e⟩
  | succ k ih =>
    intro i s₀ s m hk hi hno hst hn hsince hkp
    have hlt : i < n₀ := by omega
    show Seg _ A _ _ _ s₀ _ ((compTurn (.GeneratorExp elt [⟨.Name x px, iter, ifs, 0⟩] scope pos) 0 (.ref I) .none ce).onRaise (leaving ce)) [] s
    rw [compTurn_gen, Sem.onRaise_eq_wrap]
    refine seg_bind_wrap (wpAny_standAt ?_)
    refine seg_bind_wrap ((W₀ _ hh2).item i s _ _ hlt hst fun v h₁ tk₁ hPv hst1 hk1 => ?_)
    refine seg_bind_wrap (wpAny_of_eq (rfl : letOwnedTupleGo (.Name x px) (.ref I) v = pure ()) ?_)
    refine seg_bind_wrap (wpAny_assign_Name (wpAny_storeName_local hx (hn.at' fun o e => hk1 _ o hCw e) (fun h₂ hn2 hs2 => ?_) hp))
    have up2 : ∀ b o, b ≠ ce.locals → b ∉ wr → s.heap.get? b = some o → h₂.get? b = some o := fun b o hbC hbw e => hs2.extBut b o hbC (hk1 b o hbw e)
    have hst2 : St₀ (i + 1) h₂ := (W₀ A hh).frame _ _ _ hst1 fun b hb o e => hs2.extBut b o (fun h => hCf (h ▸ hb)) e
    have hkp2 : ∀ b ∈ fp, b ∉ wr → ∀ o, href.get? b = some o → h₂.get? b = some o := fun b hb hbw o e => up2 b o (fun h => hCf (h ▸ hb)) hbw (hkp b hb hbw o e)
    refine seg_bind_wrap (wpAny_mono (hq.tests _ _ i v _ _ hh2 hPv hn2 (by simp) hkp2) (fun ok s3 q3 => ?_) fun _ _ e => e)
    obtain ⟨rfl, h3, tk3, rfl, hk3⟩ := q3
    have hst3 : St₀ (i + 1) h3 := (W₀ A hh).frame _ _ _ hst2 fun b _ o e => hk3 b o e
    have hn3 := hn2.keeps hk3
    have hsi : GenSince ce.locals wr s₀ { s with heap := h3, toks := tk3 } := hsince.step fun b o hbC hbw e => hk3 b o (up2 b o hbC hbw e)
    cases hpz : pz i with
    | false =>
      simp only [Bool.false_eq_true, if_false]
      exact seg_again rfl (ih (i + 1) s₀ _ _ (by omega) hlt (fun j hj => by
        rcases Nat.lt_or_ge j i with h | h
        · exact hno j h
        · have : j = i := by omega
          rw [this, hpz]) hst3 hn3 hsi fun b hb hbw o e => hk3 b o (hkp2 b hb hbw o e))
    | true =>
      simp only [if_true]
      have hy : ∀ v, yieldOut ce v = yieldValue v := fun v => by simp only [yieldOut, hco, Bool.false_eq_true, if_false]
      simp only [hy]
      rw [Sem.bind_eq_wrap', Sem.bind_eq_wrap', Sem.wrap_wrap, Sem.wrap_wrap]
      refine seg_wrap (wpAny_mono (hq.elt _ _ i v _ _ hh2 hPv hpz hn3 (by simp) fun b hb hbw o e => hk3 b o (hkp2 b hb hbw o e)) (fun y s4 q4 => ?_) fun _ _ e => e)
      obtain ⟨hGy, h4, tk4, rfl, hk4⟩ := q4
      exact seg_at (seg_yield rfl rfl rfl ⟨hsi.step fun b o _ _ e => hk4 b o e, i, hlt, hno, hpz, hGy⟩)
theorem once_start {elt iter : Expr} {x : Str} {px : Pos} {ifs : List Expr} {scope : Scope} {pos : Pos} {I : Addr} {fp wr : List Addr} {n₀ : Nat}
    {P : Nat → Value → Prop} {St₀ : Nat → Heap → Prop} {ce : Env}
    (hh : A.handled = none) (W₀ : ∀ A' : Around, A'.handled = none → Walks prog w A' I fp wr n₀ P St₀) (pz : Nat → Bool) (G : Nat → Value → Heap → Prop) (href : Heap)
    (hx : ce.kindOf x = some .local)
    (hp : (ce.scope.kind == .class || (ce.scope.kind == .module && ce.locals != ce.globals)) = false) (hco : ce.scope.isCoroutine = false)
    (hCf : ce.locals ∉ fp) (hq : OnceGen prog w ce x ifs elt fp wr P pz G href)
    (s : Shared) (m : Str → Option Value) (hst : St₀ 0 s.heap) (hn : s.heap.Ns ce.locals m) (hkp : ∀ b ∈ fp, b ∉ wr → ∀ o, href.get? b = some o → s.heap.get? b = some o) :
    Seg (model prog w) A (fun n s₀ r s₁ => r = .ok .next ∧ onceR ce.locals wr pz n₀ n s₀ s₁) (onceP ce.locals wr pz n₀ G) 1 s
      (.compStart (.GeneratorExp elt [⟨.Name x px, iter, ifs, 0⟩] scope pos) 0 (.ref I) .none ce)
      ((model prog w).den (.compStart (.GeneratorExp elt [⟨.Name x px, iter, ifs, 0⟩] scope pos) 0 (.ref I) .none ce)) [] s := by
  have hh2 : (A.over (.compStart (.GeneratorExp elt [⟨.Name x px, iter, ifs, 0⟩] scope pos) 0 (.ref I) .none ce) []).handled = none := hh
  have loop := once_loop (iter := iter) (px := px) (scope := scope) (pos := pos) hh W₀ pz G href hx hp hco hCf hq n₀ 0 s s m (Nat.sub_zero _) (Nat.zero_le _)
    (fun j hj => absurd hj (Nat.not_lt_zero j)) hst hn (GenSince.refl _ _ _) hkp
  show Seg _ A _ _ _ s _ ((compStart (.GeneratorExp elt [⟨.Name x px, iter, ifs, 0⟩] scope pos) 0 (.ref I) .none ce).onRaise (leaving ce)) [] s
  unfold compStart
  rw [Sem.onRaise_eq_wrap]
  show Seg _ A _ _ _ s _ ((ask >>= _).wrap _ _ _ _) [] s
  refine seg_bind_wrap (wpAny_askSetting ?_)
  split
  · exact seg_again rfl loop
  · refine seg_bind_wrap (wpAny_rule ?_)
    show Seg _ A _ _ _ s _ ((standAt iter.pos >>= _).wrap _ _ _ _) [] s
    exact seg_bind_wrap (wpAny_standAt (seg_bind_wrap ((W₀ _ hh2).self 0 s _ _ hst (seg_again rfl loop))))
/-- next(g, d) of a generator just made -/
theorem call_next_once {E : Value → Shared → Prop} {s : Shared} {a : Addr} {g n₀ : Nat} {d : Value} {C : Addr} {wr : List Addr} {pz : Nat → Bool} {G : Nat → Value → Heap → Prop} {c : Code} {Q : Value → Shared → Prop}
    (hh : A.handled = none) (hl : s.heap.NoLimit) (hroom : A.in1.depth < recursionLimit) (hg : s.heap.IsGen a g) (hgs : s.gens[g]? = some (.fresh c))
    (hgo : Seg (model prog w) A.in1.in1 (fun n s₀ r s₁ => r = .ok .next ∧ onceR C wr pz n₀ n s₀ s₁) (onceP C wr pz n₀ G) 1 (s.setGen g .running) c ((model prog w).den c) [] (s.setGen g .running))
    (hY : ∀ v s₁ gs' i, gs'.bare = true → GenSince C wr (s.setGen g .running) s₁ → i < n₀ → (∀ j, j < i → pz j = false) → pz i = true → G i v s₁.heap → Q v (s₁.setGen g gs'))
    (hN : ∀ s₁, GenSince C wr (s.setGen g .running) s₁ → (∀ j, j < n₀ → pz j = false) → ∀ h', (∀ b o, s₁.heap.get? b = some o → h'.get? b = some o) → Q d { s₁.setGen g .finished with heap := h' }) :
    wpAny (model prog w) A (call (.builtin "next") [.ref a, d]) Q E s := by
  refine Calls.call_function_entry (by decide +kernel) (by decide +kernel) PySem.W.kdk_entry_next (PySem.W.kdk_args_next2 _ _) ?_
  unfold Builtin.«next»
  refine wpAny_bind (m := someArgs "next" 1 2 _) (wpAny_of_eq (a := [Value.ref a, d]) (by first | rfl | kernel_rfl!) ?_)
  dsimp only
  refine wpAny_bind (wpAny_specialOf (name := Str.ofString "__next__") hg.typeIs slot_gen_next.lookup ?_)
  refine wpAny_ite_split (fun hab => absurd hab (by decide)) (fun _ => ?_)
  refine wpAny_bind (wpAny_pyNext_genexpQ (A := A.in1) (P := onceR C wr pz n₀) hh hl hroom hg hgs ⟨rfl, hgo⟩ (fun v s₁ gs' hb hv => ?_) fun s₁ hp h' hk => ?_)
  · obtain ⟨h1, i, h2, h3, h4, h5⟩ := hv
    exact wpAny_pure ⟨_, rfl, hY v s₁ gs' i hb h1 h2 h3 h4 h5⟩
  · exact wpAny_pure ⟨_, rfl, hN s₁ hp.2 hp.1 h' hk⟩
end
end PySem
/-! text SqR5 -/
/-! rules that the layer lacks, part 5: the table of a code object beside; pair_with's own expression -/
namespace Sq
open PySem PySem.Spec PyProof.Rows L2
/-- at P lies a table of code objects, whatever they are -/
def TabP (P : Addr) (h : Heap) : Prop := ∃ ps : Array Value, h.get? P = some { cls := .none, data := .fields ps } ∧ TriplesOk ps.toList
def TabE (P : Addr) : HO := .ext (TabP P)
theorem tabE_ok {Pg : Program} {w : World} {H : Hp} {h : Heap} {P : Addr} (t : TabP P h) : ObjOk Pg w H h P (TabE P) := by
  obtain ⟨ps, e, k⟩ := t
  exact ⟨⟨ps, e, k⟩, ⟨_, e⟩, fun h1 h2 ⟨qs, e1, k1⟩ st => ⟨qs, st _ e1, k1⟩⟩
theorem tabE_at {Pg : Program} {w : World} {H : Hp} {h : Heap} {P : Addr} (ok : HOk Pg w H h) (e : H P = some (TabE P)) : TabP P h := (ok P _ e).1
section
variable {X : Cx} {pins : List (Addr × Obj)} {σ : L2.St} {H H' : Hp} {s : Shared}
/-- all that stood but the table is kept, new things are tracked beside -/
theorem inv_grownT {P : Addr} {h' : Heap} {g' : Array GenState} {d' : Drawn} {tk : Nat} (I : Inv X pins σ H s) (hP : H P = some (TabE P)) (hk : ∀ b o, b ≠ P → s.heap.get? b = some o → h'.get? b = some o) (ht : TabP P h') (hg : AllBare g') (hs : Same H H')
    (hn : ∀ b u, H' b = some u → H b = none → s.heap.objs.size ≤ b ∧ ObjOk X.prog X.w H' h' b u) : Inv X pins σ H' { s with heap := h', gens := g', drawn := d', toks := tk } := by
  have nP : ∀ b, H b = none → b ≠ P := fun b e z => by
    rw [z, hP] at e
    cases e
  have J : Inv X pins σ H' { s with heap := h', toks := tk } := by
    refine I.un ⟨fun b o q n _ _ => hk b o (nP b n) q, fun b o q n _ _ => ⟨o.slots, hk b o (nP b n) q⟩, fun b o q n _ => ?_, fun b o q _ => ?_, fun b xs q => hs b _ q, fun b o u q => hs b _ q, fun b ps q => ⟨#[], by rw [hs b _ q]; simp⟩⟩ fun b u q => ?_
    · cases e : H' b with
      | none => rfl
      | some u => exact absurd (Nat.lt_of_lt_of_le (Heap.lt_size q) (hn b u e n).1) (Nat.lt_irrefl _)
    · by_cases z : b = P
      · obtain ⟨ps, e, _⟩ := ht
        exact ⟨_, by rw [z]; exact e⟩
      · exact ⟨o, hk b o z q⟩
    · cases e : H b with
      | none => exact (hn b u q e).2
      | some v =>
        have ev : v = u := Option.some.inj ((hs b v e).symm.trans q)
        subst ev
        by_cases z : b = P
        · subst z
          rw [hP] at e
          cases e
          exact tabE_ok ht
        · refine (I.hok b v e).stay (fun d o hd y => hk d o ?_ y) (fun d y => hs d _ y) fun d xs y => hs d _ y
          rcases hd with z2 | z2
          · rw [z2]; exact z
          · intro z3
            rw [z3, hP] at z2
            cases z2
  exact ⟨J.ok, J.os, hg, J.base, J.loc, J.cell, J.free, J.freeC, J.pin, J.hok, J.len⟩
end
/-! ### word < word ^ apart and word ^ apart in members; (word, word ^ apart) -/
/-- what the two captured names hold -/
structure Seen (ce : Env) (h : Heap) (a : Int) (M : Addr) : Prop where
  kind : ce.scope.kind = .function
  w : ce.kindOf "word" = some .local
  ka : ce.kindOf "apart" = some .free
  m : ce.kindOf "members" = some .free
  ca : ∃ c t, ce.cells.lookup ("apart" : Str) = some c ∧ h.IsCell c (some (.int a t))
  cm : ∃ c, ce.cells.lookup ("members" : Str) = some c ∧ h.IsCell c (some (.ref M))
section
variable {prog : Program} {w : World} {A : Around} {E : Value → Shared → Prop} {ce : Env} {s : Shared} {mz : Str → Option Value} {a x : Int} {M : Addr} {tx : Tok} {p1 p2 p3 p4 p5 p6 p7 p8 p9 : Pos} {kk : Nat}
theorem keeps_t (s : Shared) (k : Nat) : Keeps s { s with toks := k } := ⟨s.heap, k, rfl, fun _ _ e => e⟩
theorem ev_word {Q : Value → Shared → Prop} (S : Seen ce s.heap a M) (hn : s.heap.Ns ce.locals mz) (hx : mz "word" = some (.int x tx)) (q : Q (.int x tx) s) : wpAny (model prog w) A (eval (.Name "word" p1) ce) Q E s :=
  wpAny_Name (wpAny_loadName_local S.kind S.w hn hx q)
theorem ev_apart {Q : Value → Shared → Prop} (S : Seen ce s.heap a M) (q : ∀ t, Q (.int a t) s) : wpAny (model prog w) A (eval (.Name "apart" p1) ce) Q E s := by
  obtain ⟨c, t, h1, h2⟩ := S.ca
  exact wpAny_Name (wpAny_loadName_free S.kind S.ka h1 h2 (q t))
theorem ev_members {Q : Value → Shared → Prop} (S : Seen ce s.heap a M) (q : Q (.ref M) s) : wpAny (model prog w) A (eval (.Name "members" p1) ce) Q E s := by
  obtain ⟨c, h1, h2⟩ := S.cm
  exact wpAny_Name (wpAny_loadName_free S.kind S.m h1 h2 q)
theorem ev_xor {Q : Value → Shared → Prop} (S : Seen ce s.heap a M) (hn : s.heap.Ns ce.locals mz) (hx : mz "word" = some (.int x tx)) (q : ∀ t, Q (.int (Builtin.bitXor x a) t) { s with toks := t + 1 }) :
    wpAny (model prog w) A (eval (.BinOp (.Name "word" p1) .BitXor (.Name "apart" p2) p3) ce) Q E s :=
  wpAny_BinOp (ev_word S hn hx (ev_apart S fun t => xor_int (q s.toks)))
theorem ev_test {q1 q2 : Pos} {kvs : List (Key × Value)} {E' : Value → Shared → Prop} (S : Seen ce s.heap a M) (hn : s.heap.Ns ce.locals mz) (hx : mz "word" = some (.int x tx)) (hM : (M == sysModules) = false) (hd : s.heap.DictOf (mixKind prog w) M kvs) :
    wpAny (model prog w) A (forIn [(.BoolOp .And [.Compare (.Name "word" p1) [.Lt] [.BinOp (.Name "word" p2) .BitXor (.Name "apart" p3) p4] p5, .Compare (.BinOp (.Name "word" p6) .BitXor (.Name "apart" p7) p8) [.In] [.Name "members" p9] q1] q2 : Expr)] true fun c r =>
        if r = true then do let ok ← isTrue c ce (eval c ce); pure (ForInStep.yield ok) else pure (ForInStep.yield r))
      (fun ok z3 => ok = (decide (x < Builtin.bitXor x a) && (valueAt kvs (.inl (Builtin.bitXor x a))).isSome) ∧ Keeps s z3) E' s := by
  refine wpAny_tests_one (isTrue_and (wpAny_isTrue_Compare1 (ev_word S hn hx (ev_xor S hn hx fun t => lt_int (wpAny_truthy_bool ?_)))))
  cases hb : decide (x < Builtin.bitXor x a) with
  | false =>
    simp only [Bool.false_eq_true, if_false, Bool.false_and]
    exact ⟨by first | rfl | trivial, keeps_t s _⟩
  | true =>
    simp only [if_true, Bool.true_and]
    refine isTrue_and (wpAny_isTrue_Compare1 (ev_xor (s := { s with toks := t + 1 }) S hn hx fun t2 => ev_members (s := { s with toks := t2 + 1 }) S ?_))
    refine wpAny_in_of (s := { s with toks := t2 + 1 }) (kV_is (k := .inl (Builtin.bitXor x a)) ⟨t2, rfl⟩) hM hd.mapOf (wpAny_truthy_bool ?_)
    cases hv : (valueAt kvs (.inl (Builtin.bitXor x a))).isSome with
    | false =>
      simp only [Bool.false_eq_true, if_false]
      exact ⟨by first | rfl | trivial, keeps_t s _⟩
    | true =>
      simp only [if_true]
      exact isTrue_and_nil ⟨by first | rfl | trivial, keeps_t s _⟩
theorem ev_pair {E' : Value → Shared → Prop} (S : Seen ce s.heap a M) (hn : s.heap.Ns ce.locals mz) (hx : mz "word" = some (.int x tx)) :
    wpAny (model prog w) A (eval (.Tuple [.Name "word" p1, .BinOp (.Name "word" p2) .BitXor (.Name "apart" p3) p4] kk p5) ce)
      (fun y z3 => (∃ (T : Addr) (t1 t2 : Tok), y = .ref T ∧ ce.locals < T ∧ z3.heap.get? T = some { cls := .type "tuple", data := .seq #[.int x t1, .int (Builtin.bitXor x a) t2] }) ∧ Keeps s z3) E' s := by
  refine Tuple_ ?_
  show wpAny _ _ (spliced ((false, eval (.Name "word" p1) ce) :: backTo p5 [(false, eval (.BinOp (.Name "word" p2) .BitXor (.Name "apart" p3) p4) ce)])) _ _ s
  refine Calls.spliced_cons (ev_word S hn hx ?_)
  refine Calls.spliced_cons (ev_xor S hn hx fun t => ?_)
  refine Calls.spliced_nil ?_
  refine wpAny_newObj_type ?_ (by show 2 ≤ sizeLine; decide)
  refine ⟨⟨s.heap.objs.size, tx, t, rfl, hn.lt, Heap.get?_push_size _ rfl⟩, ⟨_, _, rfl, fun b o e => Heap.get?_push_of_some _ e⟩⟩
end
end Sq
/-! text SqR6 -/
/-! rules that the layer lacks, part 6: pair_with's next(..) -/
namespace Sq
open PySem PySem.Spec PyProof.Rows L2
def pPass (a : Int) (kvs : List (Key × V)) (x : Int) : Bool := decide (x < Builtin.bitXor x a) && (valV kvs (.inl (Builtin.bitXor x a))).isSome
def tPair (K : Fr) (P : Addr) : TE := fun σ H Q => ∃ (L M : Addr) (ws : List Int) (kvs : List (Key × V)) (a : Int), σ = [some (.ref L), some (.ref M), some (.int a)] ∧ SqT K H L (ws.map V.int) ∧ Rd H M (.dK kvs) ∧ H P = some (TabE P) ∧
  (∀ x, ws.find? (pPass a kvs) = some x → ∀ T, H T = none → Q (.ref T) (upd H T (.tup [.int x, .int (Builtin.bitXor x a)]))) ∧ (ws.find? (pPass a kvs) = none → Q .non H)
def atP (f : Int → Bool) (ws : List Int) (i : Nat) : Bool := match ws[i]? with
  | some x => f x
  | none => false
theorem atP_some {f : Int → Bool} {ws : List Int} {i : Nat} {x : Int} (h : ws[i]? = some x) : atP f ws i = f x := by
  unfold atP
  rw [h]
theorem find_none {f : Int → Bool} {ws : List Int} (h : ∀ j, j < ws.length → atP f ws j = false) : ws.find? f = none := by
  rw [List.find?_eq_none]
  intro x hx
  obtain ⟨j, hj, e⟩ := List.getElem_of_mem hx
  have q := h j hj
  rw [atP_some (List.getElem?_eq_getElem hj), e] at q
  simp [q]
theorem find_some : ∀ {f : Int → Bool} {ws : List Int} {i : Nat} {x : Int}, ws[i]? = some x → (∀ j, j < i → atP f ws j = false) → atP f ws i = true → ws.find? f = some x
  | f, [], i, x, e, _, _ => by simp at e
  | f, y :: ws, 0, x, e, _, t => by
    simp at e
    subst e
    have q : f y = true := (atP_some (f := f) (ws := y :: ws) (i := 0) rfl).symm.trans t
    simp [List.find?_cons, q]
  | f, y :: ws, i + 1, x, e, n, t => by
    have q : f y = false := (atP_some (f := f) (ws := y :: ws) (i := 0) rfl).symm.trans (n 0 (Nat.zero_lt_succ i))
    rw [List.find?_cons, q]
    exact find_some (i := i) (by simpa using e) (fun j hj => n (j + 1) (by omega)) t
theorem ints_vals : ∀ {ws : List Int} {us : List Value}, Vals (ws.map V.int) us → ∀ (i : Nat) (u : Value), us[i]? = some u → ∃ (x : Int) (t : Tok), ws[i]? = some x ∧ u = Value.int x t
  | [], _, .nil, i, u, e => by simp at e
  | x :: ws, _, .cons r1 r2, 0, u, e => by
    simp at e
    subst e
    obtain ⟨t, q⟩ := r1
    exact ⟨x, t, rfl, q⟩
  | x :: ws, _, .cons r1 r2, i + 1, u, e => by
    obtain ⟨y, t, h1, h2⟩ := ints_vals (ws := ws) r2 i u (by simpa using e)
    exact ⟨y, t, by simpa using h1, h2⟩
theorem cell_at {h h' : Heap} {c : Addr} {v : Option Value} (x : h.IsCell c v) (k : ∀ o, h.get? c = some o → h'.get? c = some o) : h'.IsCell c v := let ⟨o, e, d⟩ := x; ⟨o, k o e, d⟩
theorem bare_set {gs : Array GenState} {g : Nat} {x : GenState} (h : AllBare gs) (hx : x.bare = true) : AllBare (gs.setIfInBounds g x) := fun y hy => by
  rcases Array.mem_or_eq_of_mem_setIfInBounds hy with z | z
  · exact h y z
  · rw [z]
    exact hx
abbrev pwScope : Scope := { kind := PySem.ScopeKind.function, names := [(PySem.Str.ofString ".0", PySem.NameKind.local), (PySem.Str.ofString "word", PySem.NameKind.local), (PySem.Str.ofString "apart", PySem.NameKind.free),
  (PySem.Str.ofString "members", PySem.NameKind.free)], isGenerator := true, isCoroutine := false, more := [] }
section
variable {X : Cx} {c P : Addr} {p1 p2 p3 p4 p5 p6 p7 p8 p9 q1 q2 e1 e2 e3 e4 e5 e6 g1 g2 : Pos} {kk : Nat}
theorem gen_pair {k : Nat} {pins : List (Addr × Obj)} {σ : L2.St} {H : Hp} {s : Shared} {L M : Addr} {ws : List Int} {kvs : List (Key × V)} {a : Int} {Q' : Value → Shared → Prop}
    (hr : Room k X.A) (TB : GxR.TabB X.base X.mg c P) (hcode : X.env.code = .ref c) (hsc : X.env.scope = defScope s_pair_with) (hN : X.N = [("lot" : Str), ("members" : Str), ("apart" : Str)])
    (I : Inv X pins σ H s) (hσ : σ = [some (.ref L), some (.ref M), some (.int a)]) (hL : SqT X.K H L (ws.map V.int)) (hM : Rd H M (.dK kvs)) (hP : H P = some (TabE P))
    (hQ : ∀ (gI : Addr) (n : Nat) (wr : List Addr) (C : Addr) (cd : Code) (sG : Shared) (G : Nat → Value → Heap → Prop), sG.heap.NoLimit → sG.heap.IsGen gI n → sG.gens[n]? = some (.fresh cd) →
      Seg (model X.prog X.w) X.A.in1.in1 (fun n s₀ r s₁ => r = .ok .next ∧ onceR C wr (atP (pPass a kvs) ws) ws.length n s₀ s₁) (onceP C wr (atP (pPass a kvs) ws) ws.length G) 1 (sG.setGen n .running) cd ((model X.prog X.w).den cd) [] (sG.setGen n .running) →
      (∀ s1, GenSince C wr (sG.setGen n .running) s1 → ∀ h' gs', (∀ b o, s1.heap.get? b = some o → h'.get? b = some o) → gs'.bare = true → Inv X pins σ H { s1.setGen n gs' with heap := h' }) →
      (∀ s1 i v, GenSince C wr (sG.setGen n .running) s1 → G i v s1.heap → ∀ gs', gs'.bare = true → ∃ x T, ws[i]? = some x ∧ v = .ref T ∧ H T = none ∧ Inv X pins σ (upd H T (.tup [.int x, .int (Builtin.bitXor x a)])) (s1.setGen n gs')) →
      Q' (.ref gI) sG) :
    wpAny (model X.prog X.w) X.A (eval (.GeneratorExp (.Tuple [.Name "word" e1, .BinOp (.Name "word" e2) .BitXor (.Name "apart" e3) e4] kk e5)
      [⟨.Name "word" g1, .Name "lot" g2, [.BoolOp .And [.Compare (.Name "word" p1) [.Lt] [.BinOp (.Name "word" p2) .BitXor (.Name "apart" p3) p4] p5, .Compare (.BinOp (.Name "word" p6) .BitXor (.Name "apart" p7) p8) [.In] [.Name "members" p9] q1] q2], 0⟩] pwScope e6) X.env) Q' X.xe s := by
  subst hσ
  obtain ⟨m, hn, hl⟩ := id I.loc
  have kd : X.env.scope.kind = .function := I.ok.kind
  have k0 : X.env.kindOf "lot" = some .local := by unfold Env.kindOf; rw [hsc]; decide +kernel
  have k1 : X.env.kindOf "members" = some .cell := by unfold Env.kindOf; rw [hsc]; decide +kernel
  have k2 : X.env.kindOf "apart" = some .cell := by unfold Env.kindOf; rw [hsc]; decide +kernel
  obtain ⟨u0, r0, l0⟩ := hl 0 "lot" (.ref L) (by rw [hN]; rfl) rfl (.inl k0)
  obtain ⟨u1, r1, l1⟩ := hl 1 "members" (.ref M) (by rw [hN]; rfl) rfl (.inr (.inl k1))
  obtain ⟨u2, r2, l2⟩ := hl 2 "apart" (.int a) (by rw [hN]; rfl) rfl (.inr (.inl k2))
  cases (show u0 = Value.ref L from r0)
  cases (show u1 = Value.ref M from r1)
  obtain ⟨ta, rfl⟩ := (show ∃ t, u2 = Value.int a t from r2)
  have m0 : m "lot" = some (.ref L) := by
    rcases l0 with ⟨_, e⟩ | ⟨z, _⟩
    · exact e
    · rw [k0] at z
      rcases z with z | z <;> cases z
  obtain ⟨c1, hc1, cc1⟩ : ∃ c, X.env.cells.lookup ("members" : Str) = some c ∧ s.heap.IsCell c (some (.ref M)) := by
    rcases l1 with ⟨z, _⟩ | ⟨_, z⟩
    · rw [k1] at z
      cases z
    · exact z
  obtain ⟨c2, hc2, cc2⟩ : ∃ c, X.env.cells.lookup ("apart" : Str) = some c ∧ s.heap.IsCell c (some (.int a ta)) := by
    rcases l2 with ⟨z, _⟩ | ⟨_, z⟩
    · rw [k2] at z
      cases z
    · exact z
  have hfree : ∀ y ∈ pwScope.names, y.2 = .free → ∃ c, X.env.cells.lookup y.1 = some c := by
    intro y hy hf
    simp only [List.mem_cons, List.not_mem_nil, or_false] at hy
    rcases hy with rfl | rfl | rfl | rfl
    · cases hf
    · cases hf
    · exact ⟨c2, hc2⟩
    · exact ⟨c1, hc1⟩
  have hcl1 := NdefX.clo_has (names := pwScope.names) hfree (y := "members") (by simp) hc1
  have hcl2 := NdefX.clo_has (names := pwScope.names) hfree (y := "apart") (by simp) hc2
  refine wpAny_GeneratorExp_make (scope := pwScope) rfl (closure_ok hfree) (by decide +kernel) (by decide +kernel) rfl (by have := hr.dp; omega) ?_ (fun v => rfl)
  refine wpAny_Name (wpAny_loadName_local kd k0 hn m0 ?_)
  obtain ⟨its, rv, pt, hz⟩ := I.tuple hL
  refine wpAny_pyIter_tuple pt ?_
  obtain ⟨ps, hPs, ht⟩ := tabE_at I.hok hP
  have hPlt : P < s.heap.objs.size := Heap.lt_size hPs
  have hP2 : (s.heap.push { cls := .type "tuple_iterator", data := .fields #[.ref L, .int 0 0] }).get? P = some { cls := .none, data := .fields ps } := Heap.get?_push_of_some _ hPs
  have cd : PySem.W.CodeHd (s.heap.push { cls := .type "tuple_iterator", data := .fields #[.ref L, .int 0 0] }) c P := TB.code.keeps fun b u e => Heap.get?_push_of_some _ (I.bk b u e)
  have lim2 : (s.heap.push { cls := .type "tuple_iterator", data := .fields #[.ref L, .int 0 0] }).NoLimit := I.nolimit.push _
  refine ⟨lim2, ?_⟩
  obtain ⟨zM, loM, vs, rel, dM⟩ := dk_rd I.hok hM
  have lenW : its.length = ws.length := by rw [← rv.length, List.length_map]
  have nMP : M ≠ P := fun z => by
    subst z
    rcases hM with e | ⟨o, e⟩ <;> (rw [hP] at e; cases e)
  have nc1 : c1 ≠ P := fun z => by
    have e := I.freeC _ _ hc1
    rw [z, hP] at e
    cases e
  have nc2 : c2 ≠ P := fun z => by
    have e := I.freeC _ _ hc2
    rw [z, hP] at e
    cases e
  have lc1 : c1 < s.heap.objs.size := let ⟨o, e, _⟩ := cc1; Heap.lt_size e
  have lc2 : c2 < s.heap.objs.size := let ⟨o, e, _⟩ := cc2; Heap.lt_size e
  have lM : M < s.heap.objs.size := dM.lt_size
  have lL : L < s.heap.objs.size := let ⟨o, e, _⟩ := pt; Heap.lt_size e
  have cont : ∀ (code : Value) (h3 : Heap) (tk : Nat) (ps' : Array Value), Heap.ExtBut P (s.heap.push { cls := .type "tuple_iterator", data := .fields #[.ref L, .int 0 0] }) h3 →
      (s.heap.push { cls := .type "tuple_iterator", data := .fields #[.ref L, .int 0 0] }).objs.size ≤ h3.objs.size → h3.get? P = some { cls := .none, data := .fields ps' } → TriplesOk ps'.toList →
      wpAny (model X.prog X.w) X.A (builtinsFor X.env.globals X.env.builtins) (fun bi s₄ => ∀ h', h'.Ns s₄.heap.objs.size (fun y => if y = ".0" then some (.ref s.heap.objs.size) else none) → Heap.SameBut s₄.heap.objs.size (s₄.heap.push { cls := .type "frame", data := .dict #[] }) h' →
          Q' (.ref h'.objs.size) { s₄ with
            gens := s₄.gens.push (.fresh (.compStart (.GeneratorExp (.Tuple [.Name "word" e1, .BinOp (.Name "word" e2) .BitXor (.Name "apart" e3) e4] kk e5)
      [⟨.Name "word" g1, .Name "lot" g2, [.BoolOp .And [.Compare (.Name "word" p1) [.Lt] [.BinOp (.Name "word" p2) .BitXor (.Name "apart" p3) p4] p5, .Compare (.BinOp (.Name "word" p6) .BitXor (.Name "apart" p7) p8) [.In] [.Name "members" p9] q1] q2], 0⟩] pwScope e6) 0 (.ref s.heap.objs.size) .none
              (genEnv pwScope (cloFrom X.env.cells pwScope.names []) s₄.heap.objs.size code bi X.env))),
            toks := s₄.toks + 1 + 1 + 1,
            heap := h'.push { cls := .type "generator", data := .fields #[.int s₄.gens.size 0, .str "<genexpr>" (s₄.toks + 1), .str (X.env.qual ++ "<genexpr>") (s₄.toks + 1 + 1)] } }) X.xe { s with heap := h3, toks := tk } := by
    intro code h3 tk ps' hx hsz hP3 ht3
    obtain ⟨bm, ob, e1, e2, e3, e4, e5, e6, e7, e8⟩ := TB.bm
    have hcl : cStatics < s.heap.objs.size := let ⟨_, hns, _⟩ := I.nolimit; hns.lt
    have hcP : cStatics ≠ P := fun e => by
      obtain ⟨_, hns, _⟩ := I.nolimit
      obtain ⟨o', es, ep, ho, hd, _⟩ := hns
      rw [e, hPs] at ho
      cases ho
      cases hd
    have sz2 : (s.heap.push { cls := .type "tuple_iterator", data := .fields #[.ref L, .int 0 0] }).objs.size = s.heap.objs.size + 1 := Heap.size_push ..
    have le3 : s.heap.objs.size + 1 ≤ h3.objs.size := by rw [← sz2]; exact hsz
    have keep3 : ∀ b u, b ≠ P → s.heap.get? b = some u → h3.get? b = some u := fun b u hb e => hx b u hb (Heap.get?_push_of_some _ e)
    refine wpAny_builtinsFor (m := X.mg) (by rw [I.ok.glob]; exact ((I.mod.glob.keeps I.bk).push _).extBut hx TB.gP) e1 e2 (keep3 _ _ e4 (I.bk _ _ e5)) e6 e7 e8 ?_
    intro h' hNs hSB
    have szh : h'.objs.size = h3.objs.size + 1 := by rw [hSB.1, Heap.size_push]
    have keepG : ∀ b u, h3.get? b = some u → (h'.push { cls := .type "generator", data := .fields #[.int s.gens.size 0, .str "<genexpr>" (tk + 1), .str (X.env.qual ++ "<genexpr>") (tk + 1 + 1)] }).get? b = some u :=
      fun b u e => Heap.get?_push_of_some _ (hSB.extBut b u (Nat.ne_of_lt (Heap.lt_size e)) (Heap.get?_push_of_some _ e))
    have hI3 : h3.get? s.heap.objs.size = some { cls := .type "tuple_iterator", data := .fields #[.ref L, .int 0 0] } := hx _ _ (Nat.ne_of_gt hPlt) (Heap.get?_push_size _ rfl)
    have pIn : ∀ b, b < s.heap.objs.size → b ∈ List.range h3.objs.size := fun b hb => List.mem_range.mpr (Nat.lt_of_lt_of_le (Nat.lt_of_lt_of_le hb (Nat.le_succ _)) le3)
    have nwr : ∀ b, b < s.heap.objs.size → b ∉ [s.heap.objs.size] := fun b hb z => by
      have e : b = s.heap.objs.size := by simpa using z
      exact absurd e (Nat.ne_of_lt hb)
    have W0 : ∀ A' : Around, A'.handled = none → Walks X.prog X.w A' s.heap.objs.size (List.range h3.objs.size) [s.heap.objs.size] ws.length (fun i v => its.toArray[i]? = some v) (fun i h => h.IsTupleIter s.heap.objs.size L i ∧ h.IsTuple L its.toArray) := fun A' hA => by
      have W := Walks.tuple (prog := X.prog) (w := X.w) (A := A') hA s.heap.objs.size L (Nat.ne_of_lt lL) its.toArray
      rw [show its.toArray.size = ws.length by rw [List.size_toArray]; exact lenW] at W
      refine W.mono_fp fun b hb => ?_
      rcases List.mem_cons.mp hb with z | z
      · rw [z]
        exact List.mem_range.mpr le3
      · have z2 : b = L := by simpa using z
        rw [z2]
        exact pIn L lL
    have nLP : L ≠ P := fun z => by
      subst z
      obtain ⟨o, e, ec, _⟩ := pt
      rw [hPs] at e
      cases e
      cases ec
    have hst0 : Heap.IsTupleIter (h'.push { cls := .type "generator", data := .fields #[.int s.gens.size 0, .str "<genexpr>" (tk + 1), .str (X.env.qual ++ "<genexpr>") (tk + 1 + 1)] }) s.heap.objs.size L 0 ∧
        (h'.push { cls := .type "generator", data := .fields #[.int s.gens.size 0, .str "<genexpr>" (tk + 1), .str (X.env.qual ++ "<genexpr>") (tk + 1 + 1)] }).IsTuple L its.toArray :=
      ⟨⟨_, keepG _ _ hI3, rfl, rfl⟩, let ⟨o, e, r⟩ := pt; ⟨o, keepG _ _ (keep3 _ _ nLP e), r⟩⟩
    have old : ∀ (z : Heap), (∀ b ∈ List.range h3.objs.size, b ∉ [s.heap.objs.size] → ∀ o, (h'.push { cls := .type "generator", data := .fields #[.int s.gens.size 0, .str "<genexpr>" (tk + 1), .str (X.env.qual ++ "<genexpr>") (tk + 1 + 1)] }).get? b = some o → z.get? b = some o) →
        ∀ b o, b ≠ P → s.heap.get? b = some o → z.get? b = some o := fun z hk b o nb e =>
      hk b (pIn b (Heap.lt_size e)) (nwr b (Heap.lt_size e)) o (keepG _ _ (keep3 _ _ nb e))
    have seen : ∀ (z : Heap) (bi : Addr), (∀ b ∈ List.range h3.objs.size, b ∉ [s.heap.objs.size] → ∀ o, (h'.push { cls := .type "generator", data := .fields #[.int s.gens.size 0, .str "<genexpr>" (tk + 1), .str (X.env.qual ++ "<genexpr>") (tk + 1 + 1)] }).get? b = some o → z.get? b = some o) →
        Seen (genEnv pwScope (cloFrom X.env.cells pwScope.names []) h3.objs.size code bi X.env) z a M := fun z bi hk =>
      ⟨rfl, (show pwScope.names.lookup ("word" : Str) = some .local by decide +kernel), (show pwScope.names.lookup ("apart" : Str) = some .free by decide +kernel), (show pwScope.names.lookup ("members" : Str) = some .free by decide +kernel), ⟨c2, ta, hcl2, cell_at cc2 fun o e => old z hk _ o nc2 e⟩, ⟨c1, hcl1, cell_at cc1 fun o e => old z hk _ o nc1 e⟩⟩
    refine hQ h'.objs.size s.gens.size [s.heap.objs.size] h3.objs.size _ _ (fun i y h => ∃ (x : Int) (T : Addr) (t1 t2 : Tok), ws[i]? = some x ∧ y = .ref T ∧ h3.objs.size < T ∧ h.get? T = some { cls := .type "tuple", data := .seq #[.int x t1, .int (Builtin.bitXor x a) t2] })
      (((lim2.extBut hx hcP).keeps keepG)) ⟨_, _, _, Heap.get?_push_size _ rfl, rfl, rfl, rfl⟩ (Array.getElem?_push_size ..) ?_ ?_ ?_
    · refine once_start (A := X.A.in1.in1) (ce := genEnv pwScope (cloFrom X.env.cells pwScope.names []) h3.objs.size code builtinsNs X.env) (m := fun y => if y = ".0" then some (.ref s.heap.objs.size) else none) hr.hd W0 _ _ (h'.push { cls := .type "generator", data := .fields #[.int s.gens.size 0, .str "<genexpr>" (tk + 1), .str (X.env.qual ++ "<genexpr>") (tk + 1 + 1)] })
        (show pwScope.names.lookup ("word" : Str) = some .local by decide +kernel) (by rfl) rfl (fun hm => Nat.lt_irrefl _ (List.mem_range.mp hm)) ⟨fun A' E' i v z mz hA hPv hn2 hxv hk => ?_, fun A' E' i v z mz hA hPv hpz hn2 hxv hk => ?_⟩ _ ?_ ?_ ?_
      · obtain ⟨x, t, hx2, rfl⟩ := ints_vals rv i v (by simpa using hPv)
        refine wpAny_mono (ev_test (seen z.heap _ hk) hn2 hxv loM (dM.at' fun o e => old z.heap hk _ o nMP e)) (fun ok z3 q => ⟨q.1.trans ?_, q.2⟩) fun _ _ e => e
        rw [atP_some hx2]
        unfold pPass
        rw [(rel.val (Sum.inl (Builtin.bitXor x a))).isSome_eq]
      · obtain ⟨x, t, hx2, rfl⟩ := ints_vals rv i v (by simpa using hPv)
        refine wpAny_mono (ev_pair (seen z.heap _ hk) hn2 hxv) (fun y z3 q => ⟨?_, q.2⟩) fun _ _ e => e
        obtain ⟨⟨T, t1, t2, h1, h2, h3⟩, _⟩ := q
        exact ⟨x, T, t1, t2, hx2, h1, h2, h3⟩
      · exact hst0
      · exact hNs.push _
      · exact fun b _ _ o e => e
    · intro s1 hs1 h9 gs' hk9 hb9
      obtain ⟨h1, tk1, rfl, hk1⟩ := hs1
      have kept : ∀ b o, h3.get? b = some o → b ≠ s.heap.objs.size → h9.get? b = some o := fun b o e ne =>
        hk9 b o (hk1 b o (Nat.ne_of_lt (Heap.lt_size e)) (by simpa using ne) (keepG _ _ e))
      exact inv_grownT (s := s) (h' := h9) (d' := s.drawn) (tk := tk1) I hP (fun b o nb e => kept b o (keep3 _ _ nb e) (Nat.ne_of_lt (Heap.lt_size e))) ⟨ps', kept P _ hP3 (Nat.ne_of_lt hPlt), ht3⟩
        (bare_set (g := s.gens.size) (bare_set (g := s.gens.size) (x := .running) (I.bare.push (g := .fresh _) rfl) rfl) hb9) (Same.refl H) (fun b u e n => by rw [n] at e; cases e)
    · intro s1 i v hs1 hG gs' hb9
      obtain ⟨h1, tk1, rfl, hk1⟩ := hs1
      obtain ⟨x, T, t1, t2, hx2, rfl, lT, hT⟩ := hG
      have kept : ∀ b o, h3.get? b = some o → b ≠ s.heap.objs.size → h1.get? b = some o := fun b o e ne =>
        hk1 b o (Nat.ne_of_lt (Heap.lt_size e)) (by simpa using ne) (keepG _ _ e)
      have leT : s.heap.objs.size ≤ T := Nat.le_trans (Nat.le_trans (Nat.le_succ _) le3) (Nat.le_of_lt lT)
      have nT : H T = none := I.hok.fresh leT
      refine ⟨x, T, hx2, rfl, nT, inv_grownT (s := s) (h' := h1) (d' := s.drawn) (tk := tk1) I hP (fun b o nb e => kept b o (keep3 _ _ nb e) (Nat.ne_of_lt (Heap.lt_size e))) ⟨ps', kept P _ hP3 (Nat.ne_of_lt hPlt), ht3⟩
        (bare_set (g := s.gens.size) (bare_set (g := s.gens.size) (x := .running) (I.bare.push (g := .fresh _) rfl) rfl) hb9) (same_new nT) (fun b u e n => ?_)⟩
      have eb : b = T := by
        by_cases z : b = T
        · exact z
        · rw [upd_ne z, n] at e
          cases e
      subst eb
      rw [upd_same] at e
      cases e
      exact ⟨leT, by show 2 ≤ sizeLine; decide, [.int x t1, .int (Builtin.bitXor x a) t2], .cons ⟨_, rfl⟩ (.cons ⟨_, rfl⟩ .nil), ⟨_, hT, rfl, _, rfl⟩⟩
  cases hf : codeAmong e6 ps.toList with
  | none =>
    refine wpAny_genexprCodeX hcode (cd.code hP2 ht) (cd.tab hP2) hf fun c' h' tk hx hge hlt hco' _ htab' _ => ?_
    obtain ⟨o1, w1, f1, tf, fl, tg, inF, tx, tt, op, _, _, _, _, _, _, _, _, _, htr, _⟩ := hco'
    exact cont _ h' tk _ hx (Nat.le_trans hge (Nat.le_of_lt hlt)) htab'.2 htr
  | some cv =>
    refine wpAny_genexprCode_hit hcode (cd.code hP2 ht) hf ?_
    exact cont cv _ s.toks ps (Heap.ExtBut.refl _ _) (Nat.le_refl _) hP2 ht
end
end Sq
/-! text SqR7 -/
namespace Sq
open PySem PySem.Spec PyProof.Rows L2
section
variable {X : Cx} {c P : Addr} {p1 p2 p3 p4 p5 p6 p7 p8 p9 q1 q2 e1 e2 e3 e4 e5 e6 g1 g2 n1 n2 n3 : Pos} {kk jj : Nat}
theorem pe_pair {k : Nat} (hr : Room k X.A) (TB : GxR.TabB X.base X.mg c P) (hcode : X.env.code = .ref c) (hsc : X.env.scope = defScope s_pair_with) (hN : X.N = [("lot" : Str), ("members" : Str), ("apart" : Str)]) (hm : X.mg "next" = none)
    (hg : Gl X "next") :
    PE X (.Call (.Name "next" n1) [.GeneratorExp (.Tuple [.Name "word" e1, .BinOp (.Name "word" e2) .BitXor (.Name "apart" e3) e4] kk e5)
      [⟨.Name "word" g1, .Name "lot" g2, [.BoolOp .And [.Compare (.Name "word" p1) [.Lt] [.BinOp (.Name "word" p2) .BitXor (.Name "apart" p3) p4] p5, .Compare (.BinOp (.Name "word" p6) .BitXor (.Name "apart" p7) p8) [.In] [.Name "members" p9] q1] q2], 0⟩] pwScope e6,
      .Constant .none jj n2] [] n3) (tPair X.K P) := by
  refine ⟨fun pins s σ H Q I h => ?_⟩
  obtain ⟨L, M, ws, kvs, a, hσ, hL, hM, hP, qs, qn⟩ := h
  refine wpAny_Call_Name_kw (ld_blt (u := .builtin "next") I hg hm (by first | rfl | decide +kernel) ?_ (by decide) (by decide))
  refine PyProof.Rows.callWith_builtin1 ?_ (by rfl) (by rfl)
  refine Calls.spliced_cons (gen_pair hr TB hcode hsc hN I hσ hL hM hP fun gI n wr C cd sG G hlim hG hgs hgo k1 k2 => ?_)
  refine Calls.spliced_cons (Constant_none (k := jj) (pos := n2) ?_)
  refine Calls.spliced_nil ?_
  refine call_next_once (C := C) (wr := wr) (pz := atP (pPass a kvs) ws) (n₀ := ws.length) (G := G) hr.hd hlim (by have := hr.dp; show X.A.depth < recursionLimit; omega) hG hgs hgo (fun v s1 gs' i hb hs hi hno hpz hGv => ?_) fun s1 hs hno h' hk => ?_
  · obtain ⟨x, T, hx, rfl, nT, J⟩ := k2 s1 i v hs hGv gs' hb
    exact ⟨.ref T, _, J, rfl, qs x (find_some hx hno hpz) T nT⟩
  · exact ⟨.non, H, k1 s1 hs h' .finished hk rfl, rfl, qn (find_none hno)⟩
end
/-- the def x, with its code object at c -/
structure AtC (K : Fr) (mg : Str → Option Value) (x : Str) (st : Stmt) (ps : List Str) (c : Addr) : Prop where
  ex : ∃ (f : Addr) (oc : Value) (od : Option Addr) (kV doc pm : Value) (an : Option Addr) (ct : Value) (osl : Array (Option Value)),
    K.lookup f = some ⟨oc, od, .func (PySem.W.fnOf x x (defArgs st) (defBody st) (defScope st) .none kV doc pm an (.ref c) ct), osl⟩ ∧ PySem.W.codeIn K (.ref c) x = true ∧ mg x = some (.ref f) ∧
    Binds K (PySem.W.fnOf x x (defArgs st) (defBody st) (defScope st) .none kV doc pm an (.ref c) ct) ps [] ∧ PySem.W.keepIn K (.ref f) = true
/-- of the first word that passes -/
def spPair (K : Fr) (T : Addr) : Sp := fun vs H Q _ => ∃ (L M : Addr) (ws : List Int) (kvs : List (Key × V)) (a : Int), vs = [.ref L, .ref M, .int a] ∧ SqT K H L (ws.map V.int) ∧ Rd H M (.dK kvs) ∧ H T = some (TabE T) ∧
  (∀ x, ws.find? (pPass a kvs) = some x → ∀ p, H p = none → Q (.ref p) (upd H p (.tup [.int x, .int (Builtin.bitXor x a)]))) ∧ (ws.find? (pPass a kvs) = none → Q .non H)
theorem df_pair_with {P : Program} {w : World} {K : Fr} {mg : Str → Option Value} {base : Heap} {c T : Addr} (hm : mg "next" = none) (D : AtC K mg "pair_with" s_pair_with ["lot", "members", "apart"] c) (TB : GxR.TabB base mg c T) :
    Df P w K mg base CX0 2 "pair_with" (spPair K T) := by
  obtain ⟨f, oc, od, kV, doc, pm, an, ct, osl, lk, hcd, g, b, kp⟩ := D.ex
  refine ⟨f, _, _, fn_of lk hcd n_pair_with (fun vs H Q E h => ?_) (fun A outer s H vs Q E hr h => ?_), g, b, kp⟩
  · obtain ⟨L, M, ws, kvs, a, rfl, _⟩ := h
    rfl
  · obtain ⟨L, M, ws, kvs, a, rfl, hL, hM, hP, q⟩ := h
    refine ⟨_, pss_one (ps_ret (pe_pair hr TB rfl rfl rfl hm rfl)), ?_⟩
    exact ⟨L, M, ws, kvs, a, rfl, hL, hM, hP, q⟩
end Sq
/-! text SqX1 -/
/-! the own exception Refused, over ArithmeticError, whose __init__ says super().__init__(..) first -/
namespace Sq
open PySem PySem.Spec PyProof.Rows L2
structure TRef (P : Program) (K : Fr) (mg : Str → Option Value) (C : Addr) : Prop where
  g : mg "Refused" = some (.ref C)
  s0 : mg "super" = none
  cls : ∃ nm q N bs sn sub ab col dd k0 k1 k2 k3 k5, K.lookup C = some (excClassObj nm q C N bs aeTail true sn sub ab col dd k0 k1 k2 k3 k5 "ArithmeticError.__new__")
  exI : PySem.W.excInitIn K C aeTail "ArithmeticError.__new__" = true
  over : PySem.W.excOver K C aeTail = true
  sa : PySem.W.findIn K (.ref C) "__setattr__" = some (some (.builtin "object.__setattr__"))
  tk : PySem.W.takerIn K C "reason" = some none
  sup : PySem.W.ks_superIn K C C "__init__" = some (some (.builtin "ArithmeticError.__init__"))
  sub : PySem.W.subIn K (.ref C) (.type "ArithmeticError") = some true
  mro : PySem.W.mroIn K C (.ref C) = some true
  opq : PySem.W.nsIn K cStatics "thirdparty.any" = some none
  kC : PySem.W.keepIn K (.ref C) = true
  exC : PySem.W.subIn K (.ref C) (.type "BaseException") = some true
  tyC : PySem.W.typeIn K (.ref C) = some (.type "type")
  top : (P.main.scope.names.lookup ("super" : Str)).isSome = false
  fn : ∃ (fI : Addr) (oc : Value) (od : Option Addr) (kV doc pm : Value) (an : Option Addr) (cda : Addr) (ct : Value) (cc : Addr) (osl : Array (Option Value)) (ccl : Value) (cdd : Option Addr) (vs : Array Value) (ccs : Array (Option Value)) (file : Str) (tf : Tok) (cl : Value) (cld : Option Addr) (csl : Array (Option Value)),
    K.lookup fI = some ⟨oc, od, .func (PySem.W.ksFn "__init__" "Refused.__init__" (defArgs s_Refused_init) (defBody s_Refused_init) (defScope s_Refused_init) .none kV doc pm an (.ref cda) ct cc), osl⟩ ∧ PySem.W.codeIn K (.ref cda) "Refused.__init__" = true ∧
    K.lookup cda = some ⟨ccl, cdd, .fields vs, ccs⟩ ∧ vs[2]? = some (.str file tf) ∧ ((P.main.file : Str) == file) = true ∧ K.lookup cc = some ⟨cl, cld, .cell (some (.ref C)), csl⟩ ∧
    PySem.W.findIn K (.ref C) "__init__" = some (some (.ref fI)) ∧ PySem.W.typeIn K (.ref fI) = some (.type "function")
section
variable {P : Program} {w : World} {A : Around} {K : Fr} {mg : Str → Option Value} {base : Heap} {s : Shared} {R : Result → Shared → Prop} {C e t0 : Addr} {r : Value}
open PySem.W Builtin Builtin.ObjectAttr in
theorem init_refused (T : TRef P K mg C) (M : L2.Mod K mg base) (bs : ∀ b o, base.get? b = some o → s.heap.get? b = some o) (ne : base.get? e = none) (he : s.heap.get? e = some (HandSPX.excO C t0)) (hroom : A.depth + 1 < recursionLimit) :
    ∃ fI, PySem.W.findIn K (.ref C) "__init__" = some (some (.ref fI)) ∧ PySem.W.typeIn K (.ref fI) = some (.type "function") ∧
    ((∀ h' tk dx t', (∀ b o, b ≠ e → s.heap.get? b = some o → h'.get? b = some o) → s.heap.objs.size ≤ dx → dx ≠ e → h'.get? e = some ({ cls := .ref C, dict := some dx, data := .fields #[.ref t', .none, .none, .none, .bool false, .none] } : Obj) →
      h'.Ns1 dx (fun y => if y = "reason" then some r else none) → R (.ok (.ret .none)) { s with heap := h', toks := tk }) → codeAny (model P w) A (.call (.ref fI) ⟨[.ref e, r], []⟩) R s) := by
  obtain ⟨fI, oc, od, kV, doc, pm, an, cda, ct, cc, osl, ccl, cdd, vs, ccs, file, tf, cl, cld, csl, lf, hcd, lc, hvs, hfile, lcc, ini, tyI⟩ := T.fn
  refine ⟨fI, ini, tyI, fun h => ?_⟩
  have Ks : K.In s.heap := M.kin.keeps bs
  refine ks_codeAny_call_defAt (fd := ksFn "__init__" "Refused.__init__" (defArgs s_Refused_init) (defBody s_Refused_init) (defScope s_Refused_init) .none kV doc pm an (.ref cda) ct cc) (body := defBody s_Refused_init) (binds := [("self", .ref e), ("reason", r)])
    (by omega) (Ks _ _ lf) rfl (M.nolimit.keeps bs) (codeRec_of Ks hcd) rfl (BindsTo.of_eq rfl) (show ∀ x ∈ (defScope s_Refused_init).names, x.2 ≠ .cell by decide +kernel) (fun x hx => ?_) (fun h1 hns hk1 => ?_) rfl rfl rfl
  · rcases List.mem_cons.mp hx with z | z
    · rw [z]
      exact (show (defScope s_Refused_init).names.lookup ("self" : Str) = some .local by decide +kernel)
    · have z2 : x = (("reason" : Str), r) := by simpa using z
      rw [z2]
      exact (show (defScope s_Refused_init).names.lookup ("reason" : Str) = some .local by decide +kernel)
  obtain ⟨mb, hb, hbb⟩ := M.blt
  have lt_e : e < s.heap.objs.size := Heap.lt_size he
  have bG : ∀ b o, base.get? b = some o → (hideAll s.heap [e]).get? b = some o := fun b o q => hideAll_get _ (bs b o q) fun z => by
    have z2 : b = e := by simpa using z
    rw [z2, ne] at q
    cases q
  have XG : K.In (hideAll s.heap [e]) := M.kin.keeps bG
  have FF : PyProof.Rows.Fr (hideAll s.heap [e]) s.heap.objs.size h1 (fun x => ([(("self" : Str), Value.ref e), (("reason" : Str), r)] : List (Str × Value)).reverse.lookup x) := ⟨hns, fun b o q => hk1 b o (of_hideAll _ q), Nat.le_of_eq (hideAll_size _ _)⟩
  have NN : News (hideAll s.heap [e]) s.heap.objs.size h1 [(e, excObj C t0 none .none)] := fun p hp => by
    have z : p = (e, excObj C t0 none .none) := by simpa using hp
    rw [z]
    exact ⟨hk1 e _ he, Nat.ne_of_lt lt_e, hideAll_none _ (by simp)⟩
  have I1 : InstAt h1 e (excObj C t0 none .none) C none := ⟨hk1 e _ he, rfl, rfl, trivial⟩
  have X1 : K.In h1 := XG.keeps FF.keep
  obtain ⟨nm, q, N, bs', sn, sub, ab, col, dd, k0, k1, k2, k3, k5, hC⟩ := T.cls
  refine ks_wpAt_execs_cons (ks_wpAt_Expr_any (ks_wpAt_MethodCall ?_))
  refine ks_wpAt_super_base (f := fI) (cc := cda) (show (defScope s_Refused_init).names.lookup ("super" : Str) = some .globalImplicit by decide +kernel) (show (defScope s_Refused_init).names.lookup ("__class__" : Str) = some .free by decide +kernel) (by decide +kernel) rfl (X1 _ _ lf) rfl rfl rfl (X1 _ _ lc) rfl hvs hfile T.top ?_
  refine ks_loadName_global rfl (show (defScope s_Refused_init).names.lookup ("super" : Str) = some .globalImplicit by decide +kernel) (Calls.loadGlobal_builtin ((M.glob.keeps bG).keeps FF.keep) T.s0 ((hb.keeps bG).keeps FF.keep) ((hbb _ (by decide +kernel)).trans (by decide +kernel : bootBuiltins "super" = some (.type "super"))) ⟨rfl, ?_⟩)
  refine wpAny_loadName_free rfl (show (defScope s_Refused_init).names.lookup ("__class__" : Str) = some .free by decide +kernel) rfl ⟨_, X1 _ _ lcc, rfl⟩ ?_
  refine wpAny_loadName_local rfl (show (defScope s_Refused_init).names.lookup ("self" : Str) = some .local by decide +kernel) FF.ns rfl ?_
  refine ks_wpAny_isType_cls (X1 _ _ hC) rfl ⟨rfl, ?_⟩
  refine ks_wpAny_call_super (X1 _ _ hC) rfl I1.at_ I1.cls (fun c e => nomatch e) (looks_mroIn X1 T.mro) (fun h2 e2 k2 => ?_)
  obtain ⟨F2, N2, l2⟩ := ks_newsPush (s := { s with heap := h1 }) FF NN rfl e2 k2
  have ne_so : h1.objs.size ≠ e := Nat.ne_of_gt (l2 (e, excObj C t0 none .none) (by simp))
  refine kxs_method kxs_ArithmeticError F2 XG N2 (.head _) (InstAt.of_exc0 (t := t0) (c2 := .none) N2 (.tail _ (.head _))) T.opq T.sup T.sub (by decide) fun q3 h3 F3 N3 l3 => ?_
  have ne_q : q3 ≠ e := Nat.ne_of_gt (l3 (e, excObj C t0 none .none) (by simp))
  refine kxs_callWith1 (i := "ArithmeticError.__init__") (x := e) N3 (.head _) ?_
  refine Calls.spliced_cons ?_
  refine Calls.Constant_str (k := 0) (pos := ⟨33, 25, 33, 34⟩) ?_
  refine Calls.spliced_nil ⟨kxs_at N3 (.head _), ?_⟩
  refine kxs_call (nw := fun o => [(q3, kxs_mw "ArithmeticError.__init__" e), (h1.objs.size, ks_superObj C e C), (e, o)]) F3 XG N3 F.excBase_ArithmeticError T.exI (.head _) (.tail ne_q (.tail ne_so (.head fun p hp => nomatch hp))) (by show 1 ≤ sizeLine; decide) fun t4 h4 F4 N4 l4 => ?_
  refine ks_wpAt_execs_cons (ks_wpAt_Assign_Attr ?_)
  refine wpAt_of_wpAny (wpAny_Name (x := "reason") (pos := ⟨34, 22, 34, 28⟩) ?_)
  refine wpAny_loadName_local rfl ?_ F4.ns rfl ?_
  · exact (show (defScope s_Refused_init).names.lookup ("reason" : Str) = some .local by decide +kernel)
  refine wpAny_Name (x := "self") (pos := ⟨34, 8, 34, 12⟩) ?_
  refine wpAny_loadName_local rfl ?_ F4.ns rfl ?_
  · exact (show (defScope s_Refused_init).names.lookup ("self" : Str) = some .local by decide +kernel)
  have X4 : K.In h4 := XG.keeps F4.keep
  have g4 : h4.get? e = some (excObj C t4 none .none) := (N4 (e, excObj C t4 none .none) (by simp)).1
  have I4 : InstAt h4 e (excObj C t4 none .none) C none := ⟨g4, rfl, rfl, trivial⟩
  have kept4 : ∀ b o, b ≠ e → s.heap.get? b = some o → h4.get? b = some o := fun b o nb q => F4.keep b o (hideAll_get _ q (by simpa using nb))
  refine set_plain (od := none) (ox := excObj C t4 none .none) X4 I4 T.sa ?_
  refine osa_openX F.store_ArithmeticError X4 I4 T.over T.tk fun b => ?_
  have hcd : clsIn K C = some { name := nm, bases := bs', mro := .ref C :: aeTail, ns := N, qualname := q, hasDict := true, slotNames := sn, subclasses := sub, abstract := ab, collection := col, hasDel := false } := by unfold clsIn; rw [hC] <;> rfl
  have hcls : W.Looks (model P w) h4 (classData C) { name := nm, bases := bs', mro := .ref C :: aeTail, ns := N, qualname := q, hasDict := true, slotNames := sn, subclasses := sub, abstract := ab, collection := col, hasDel := false } := W.looks_clsIn X4 hcd
  have le4 : s.heap.objs.size ≤ h4.objs.size := Nat.le_of_lt F4.ns.lt
  have lt4 : e < h4.objs.size := Heap.lt_size g4
  show wpAny _ _ (storeInOwnDict (.ref e) (.ref C) _ "reason" r b) _ _ _
  unfold storeInOwnDict ownDictForStores
  have nx : e ≠ h4.objs.size := Nat.ne_of_lt lt4
  repeat (first | with_reducible refine HandSPX.store_in_new ?_ ?_ | with_reducible refine wpAny_loadPart_at g4 ?_ | with_reducible refine hcls.at ?_ | wp_step)
  · exact ⟨_, #[], _, (Heap.get?_update_ne _ _ _ _ nx.symm).trans (Heap.get?_push_at rfl rfl), rfl, fun e he => absurd he (by simp), fun _ => rfl⟩
  · intro h5 tk5 hn5 hs5
    refine wpAt_of_wpAny (wpAny_execs_nil ?_)
    refine h h5 tk5 h4.objs.size t4 (fun b o nb q => ?_) le4 nx.symm ?_ hn5
    · have q4 := kept4 b o nb q
      exact (hs5.2 b (Nat.ne_of_lt (Heap.lt_size q4))).trans ((Heap.get?_update_ne _ _ _ _ nb).trans (Heap.get?_push_of_some _ q4))
    · exact (hs5.2 e nx).trans (Heap.get?_update_self _ (Heap.get?_push_of_some _ g4) rfl)
end
end Sq
/-! text SqX2 -/
namespace Sq
open PySem PySem.Spec PyProof.Rows L2
/-- Refused(e) -/
def tMkR (C : Addr) (ta : TA) : L2.St → Hp → XK → Prop := fun σ H Q => ta σ H fun vs H1 => ∃ v, vs = [v] ∧ ∀ d, H1 d = none → Q (.ref C) (some d) (upd H1 d (.xd [("reason", v)]))
theorem pmk_refused {X : Cx} {C : Addr} {k : Nat} {e : Expr} {ta : TA} {p pos : Pos} (T : TRef X.prog X.K X.mg C) (hr : Room (k + 2) X.A) (hg : Gl X "Refused") (ha : PA X [e] ta)
    (hs : starEach [e] X.env = (false, eval e X.env) :: starEach [] X.env := by rfl) : PMk X (.Call (.Name "Refused" p) [e] [] pos) (tMkR C ta) := by
  intro pins s σ H Q I h
  obtain ⟨nm, q, N, bs, sn, sub, ab, col, dd, k0, k1, k2, k3, k5, hC⟩ := T.cls
  refine wpAny_Call_Name_kw (ld_glob I hg T.g ?_ (by decide))
  refine PySem.W.callWith_K (h₀ := X.base) I.ok.mod.kin T.kC (thn (ha.run pos pins s σ H _ I h) fun us s1 ⟨vs, H1, I1, r1, v, ev, q1⟩ => ⟨I1.kIn, ?_⟩) hs rfl
  subst ev
  obtain ⟨u, rfl, ru⟩ := vals1 r1
  show wpAny _ _ (call (.ref C) [u]) _ _ _
  obtain ⟨hp, g, dr, tk, os⟩ := s1
  have kk : ∀ b o, hp.get? b = some o → ((hp.push (PySem.W.kdv_tup [u])).push (HandSPX.excO C hp.objs.size)).get? b = some o := fun b o z => Heap.get?_push_of_some _ (Heap.get?_push_of_some _ z)
  have hget : ((hp.push (PySem.W.kdv_tup [u])).push (HandSPX.excO C hp.objs.size)).get? (hp.objs.size + 1) = some (HandSPX.excO C hp.objs.size) := by heap_get
  have nb : X.base.get? (hp.objs.size + 1) = none := by
    cases z : X.base.get? (hp.objs.size + 1) with
    | none => rfl
    | some o => exact absurd (Heap.lt_size (I1.bk _ _ z)) (by show ¬ hp.objs.size + 1 < hp.objs.size; omega)
  have hroom := (hr.make C [u] []).dp
  obtain ⟨fI, ini, tyI, run⟩ := init_refused (A := X.A.under (.builtin "type.__call__" ⟨.ref C :: [u], []⟩)) (R := _) (w := X.w) (e := hp.objs.size + 1) (t0 := hp.objs.size) (r := u) (s := ⟨(hp.push (PySem.W.kdv_tup [u])).push (HandSPX.excO C hp.objs.size), g, dr, tk, os⟩) T I.ok.mod (fun b o z => kk b o (I1.bk b o z)) nb hget (by
    have z := hroom
    show (X.A.under (.builtin "type.__call__" ⟨[.ref C, u], []⟩)).depth + 1 < recursionLimit
    omega)
  refine wpAny_call (HandSPX.call_own F.excBase_ArithmeticError (fun Y => rfl) (I1.kIn _ _ hC) (PySem.W.looks_findIn I1.kIn ini) (fun self => PySem.W.bind_fn I1.kIn self tyI) (by show 1 ≤ sizeLine; decide) (run fun h' tk' dx t' hk' ld ned hx hn => ?_))
  have nd : ∀ b o, hp.get? b = some o → b ≠ hp.objs.size + 1 := fun b o z => Nat.ne_of_lt (Nat.lt_succ_of_lt (Heap.lt_size z))
  have sz : hp.objs.size ≤ ((hp.push (PySem.W.kdv_tup [u])).push (HandSPX.excO C hp.objs.size)).objs.size := by
    rw [Heap.size_push, Heap.size_push]
    exact Nat.le_trans (Nat.le_succ _) (Nat.le_succ _)
  have gk : ∀ b o, b ≠ hp.objs.size + 1 → h'.get? b = some o → (PySem.W.hideAll h' [hp.objs.size + 1]).get? b = some o := fun b o z y => PySem.W.hideAll_get _ y (by simpa using z)
  have hd1 : H1 dx = none := I1.hok.fresh (Nat.le_trans sz ld)
  have J : Inv X pins σ (upd H1 dx (.xd [("reason", v)])) { (⟨hp, g, dr, tk, os⟩ : Shared) with heap := PySem.W.hideAll h' [hp.objs.size + 1], toks := tk' } :=
    inv_grown I1 (fun b o z => gk b o (nd b o z) (hk' b o (nd b o z) (kk b o z))) (same_new hd1) (fun b o z n => by
      by_cases hb : b = dx
      · subst hb
        rw [upd_same] at z
        cases z
        exact ⟨Nat.le_trans sz ld, _, hn.at fun o y => gk _ o ned y, relO_put (fs := []) (mA := fun _ => none) ru fun g => True.intro⟩
      · rw [upd_ne hb, n] at z
        cases z)
  refine ⟨rfl, hp.objs.size + 1, { cls := .ref C, dict := some dx, data := .fields #[.ref t', .none, .none, .none, .bool false, .none] }, #[.ref t', .none, .none, .none, .bool false, .none], _, _, .ref C, some dx, rfl, J, fun b o z => PySem.W.of_hideAll _ z, PySem.W.hideAll_none _ (by simp), hx, ⟨rfl, rfl⟩, rfl, rfl, ?_, rfl, I1.bare, raises_own T.exC T.tyC, q1 dx hd1⟩
  · rw [upd_ne (Ne.symm ned)]
    exact I1.hok.fresh (Nat.le_succ _)
end Sq
/-! text SqF -/
namespace Sq
open PySem PySem.Spec PyProof.Rows L2
/-! ### properties -/
structure Pt (K : Fr) (C : Addr) (f q : Str) (st : Stmt) : Prop where
  ex : ∃ p g fd, PropOf K C f p g ∧ (∃ dvs kws, FunD K f q (defArgs st) (defBody st) (defScope st) dvs kws g fd) ∧ Binds K fd ["self"] []
structure Rp (P : Program) (w : World) (K : Fr) (mg : Str → Option Value) (base : Heap) (k : Nat) (C : Addr) (f : Str) (sp : Sp) : Prop where
  ex : ∃ p g, PropOf K C f p g ∧ FnR P w K mg base CX0 k g sp
section
variable {P : Program} {w : World} {K : Fr} {mg : Str → Option Value} {base : Heap} {A : Ad} {C : Addr} {f q : Str} {st : Stmt} {sp : Sp} {k : Nat}
theorem Pt.rp (D : Pt K C f q st) (h : ∀ g fd dvs kws, FunD K f q (defArgs st) (defBody st) (defScope st) dvs kws g fd → FnOk P w K mg base CX0 k g fd ["self"] sp) : Rp P w K mg base k C f sp := by
  obtain ⟨p, g, fd, pr, ⟨dvs, kws, F⟩, b⟩ := D.ex
  refine ⟨p, g, pr, ((h g fd dvs kws F).raw b .nil).imp fun vs H Q E hs => ?_⟩
  rw [List.append_nil]
  exact hs
theorem pe_rp {X : Cx} {e : Expr} {ta : TE} {pos : Pos} {j : Nat} (R : Rp X.prog X.w X.K X.mg X.base k C f sp) (c : SlX.SCls X.K C) (hr : Room j X.A) (hj : k + 1 ≤ j) (he : PE X e ta)
    (hb : attributeBase e f X.env (eval e X.env) = eval e X.env := by rfl) : PE X (.Attribute e f pos) (SlX.tPropSl C sp E0 ta) := by
  obtain ⟨p, g, pr, F⟩ := R.ex
  exact SlX.pe_propSl he c pr.at_ pr.get pr.tak pr.rec_ F (hr.mono hj) (fun _ _ _ _ z => z) hb
def spTop (A : Ad) : Sp := fun vs H Q _ => ∃ (x : Addr) (a : Int), vs = [.ref x] ∧ IsR A a H x ∧ Q (.int a) H
def spBot (A : Ad) : Sp := fun vs H Q _ => ∃ (x : Addr) (a : Int), vs = [.ref x] ∧ IsR A a H x ∧ Q (.int 1) H
def spBoo (A : Ad) : Sp := fun vs H Q _ => ∃ (x : Addr) (a : Int), vs = [.ref x] ∧ IsR A a H x ∧ Q (.bl (a != 0)) H
theorem rp_top (T : TRatio K mg A) (D : Pt K A.ratio "top" "Ratio.top" s_Ratio_top) : Rp P w K mg base 1 A.ratio "top" (spTop A) := by
  refine D.rp fun g fd dvs kws F => F.ok n_Ratio_top (fun vs H Q E h => ?_) (fun cdv A' outer s H vs Q E hr h => ?_)
  · obtain ⟨x, a, rfl, _⟩ := h
    rfl
  · obtain ⟨x, a, rfl, hx, q⟩ := h
    obtain ⟨p1, S1⟩ := T.t
    obtain ⟨dx, hs⟩ := hx.slt
    exact ⟨_, pss_one (ps_ret (SlX.pe_sl (pv 0))), _, rfl, x, A.ratio, dx, p1, _, 1, .int a, rfl, hs, T.k.sc, S1, rfl, q⟩
theorem rp_bottom (T : TRatio K mg A) (D : Pt K A.ratio "bottom" "Ratio.bottom" s_Ratio_bottom) : Rp P w K mg base 1 A.ratio "bottom" (spBot A) := by
  refine D.rp fun g fd dvs kws F => F.ok n_Ratio_bottom (fun vs H Q E h => ?_) (fun cdv A' outer s H vs Q E hr h => ?_)
  · obtain ⟨x, a, rfl, _⟩ := h
    rfl
  · obtain ⟨x, a, rfl, hx, q⟩ := h
    obtain ⟨p1, S1⟩ := T.b
    obtain ⟨dx, hs⟩ := hx.slt
    exact ⟨_, pss_one (ps_ret (SlX.pe_sl (pv 0))), _, rfl, x, A.ratio, dx, p1, _, 0, .int 1, rfl, hs, T.k.sc, S1, rfl, q⟩
/-- a method of a class -/
structure Mt (K : Fr) (C : Addr) (f q : Str) (st : Stmt) (ps : List Str) : Prop where
  ex : ∃ g fd, PySem.W.findIn K (.ref C) f = some (some (.ref g)) ∧ PySem.W.isFn K (.ref g) = true ∧ (∃ dvs kws, FunD K f q (defArgs st) (defBody st) (defScope st) dvs kws g fd) ∧ Binds K fd ps []
structure Rm (P : Program) (w : World) (K : Fr) (mg : Str → Option Value) (base : Heap) (k : Nat) (C : Addr) (f : Str) (sp : Sp) : Prop where
  ex : ∃ g, PySem.W.findIn K (.ref C) f = some (some (.ref g)) ∧ PySem.W.isFn K (.ref g) = true ∧ FnR P w K mg base CX0 k g sp
theorem rm_bool (N : Nms mg) (T : TRatio K mg A) (D : Mt K A.ratio "__bool__" "Ratio.__bool__" s_Ratio_bool ["self"]) : Rm P w K mg base 1 A.ratio "__bool__" (spBoo A) := by
  obtain ⟨g, fd, h1, h2, ⟨dvs, kws, F⟩, b⟩ := D.ex
  have F1 : FnOk P w K mg base CX0 1 g fd ["self"] (spBoo A) := F.ok n_Ratio_bool (fun vs H Q E h => by
    obtain ⟨x, a, rfl, _⟩ := h
    rfl) (fun cdv A' outer s H vs Q E hr h => by
    obtain ⟨x, a, rfl, hx, q⟩ := h
    obtain ⟨p1, S1⟩ := T.t
    obtain ⟨dx, hs⟩ := hx.slt
    exact ⟨_, pss_one (ps_ret (pe_callTy call_bool1 (by rfl) N.bool (by decide +kernel) (pa_cons (SlX.pe_sl (pv 0)) pa_nil))), _, rfl, x, A.ratio, dx, p1, _, 1, .int a, rfl, hs, T.k.sc, S1, rfl, .inl ⟨a, rfl, q⟩⟩)
  refine ⟨g, h1, h2, (F1.raw b .nil).imp fun vs H Q E hs => ?_⟩
  rw [List.append_nil]
  exact hs
end
/-! ### tables of numbers -/
def RatV (A : Ad) : Rl Int := fun H v t => ∃ q, v = .ref q ∧ IsR A t H q
theorem RatV.mo {A : Ad} : Mo (RatV A) := fun H H' v x e h => by
  obtain ⟨q, rfl, o⟩ := h
  exact ⟨q, rfl, o.mono e⟩
abbrev RowV (A : Ad) : Rl (List Int) := Tu (RatV A)
abbrev TabV (A : Ad) : Rl (List (List Int)) := Tu (RowV A)
abbrev TabsV (A : Ad) : Rl (List (List (List Int))) := Tu (TabV A)
/-- r rows, each of c -/
def Side (r c : Nat) (t : List (List Int)) : Prop := t.length = r ∧ ∀ x ∈ t, x.length = c
theorem outs_true {n : Nat} {H : Hp} {out : List V} (h : Outs (fun _ v _ => v = .bl true) n H out) : out = (List.replicate n true).map V.bl := by
  refine List.ext_getElem? fun i => ?_
  by_cases hi : i < n
  · have e : i < out.length := by rw [h.1]; exact hi
    rw [List.getElem?_eq_getElem e, h.2 i _ (List.getElem?_eq_getElem e)]
    simp [hi]
  · rw [List.getElem?_eq_none (by rw [h.1]; omega), List.getElem?_eq_none (by simp; omega)]
theorem all_rep (n : Nat) : (List.replicate n true).all id = true := by
  simp
end Sq
/-! text SqK -/
/-! the built-in functions, each by its name; the frag is told, so that a comprehension's block can use them -/
namespace Sq
open PySem PySem.Spec PyProof.Rows L2
section
variable {X : Cx} {e : Expr} {es : List Expr} {t : TA} {p pos : Pos}
theorem kb_isi (K : Fr) (N : Nms X.mg) (ha : PA X (e :: es) t) (hg : Gl X "isinstance" := by rfl) (hK : X.K = K := by rfl)
    (he : starEach (e :: es) X.env = (false, eval e X.env) :: starEach es X.env := by rfl) (hpl : (backTo pos (starEach es X.env)).any (·.1) = false := by rfl) :
    PE X (.Call (.Name "isinstance" p) (e :: es) [] pos) (tCB (rIsi K) t) := by
  subst hK
  exact pe_callB call_isi hg N.isi (by decide +kernel) ha (by decide) (by decide) he hpl
theorem kb_len (K : Fr) (N : Nms X.mg) (ha : PA X (e :: es) t) (hg : Gl X "len" := by rfl) (hK : X.K = K := by rfl)
    (he : starEach (e :: es) X.env = (false, eval e X.env) :: starEach es X.env := by rfl) (hpl : (backTo pos (starEach es X.env)).any (·.1) = false := by rfl) :
    PE X (.Call (.Name "len" p) (e :: es) [] pos) (tCB (fun xs H Q => ∃ x n, xs = [x] ∧ LenV K x H n ∧ Q (.int n) H) t) := by
  subst hK
  exact pe_callB call_len hg N.len (by decide +kernel) ha (by decide) (by decide) he hpl
theorem kb_all (K : Fr) (hc : X.calm = true) (N : Nms X.mg) (ha : PA X (e :: es) t) (hg : Gl X "all" := by rfl) (hK : X.K = K := by rfl)
    (he : starEach (e :: es) X.env = (false, eval e X.env) :: starEach es X.env := by rfl) (hpl : (backTo pos (starEach es X.env)).any (·.1) = false := by rfl) :
    PE X (.Call (.Name "all" p) (e :: es) [] pos) (tCB (rAll K) t) := by
  subst hK
  exact pe_callB (cr_all hc) hg N.all_ (by decide +kernel) ha (by decide) (by decide) he hpl
theorem kb_any (K : Fr) (hc : X.calm = true) (N : Nms X.mg) (ha : PA X (e :: es) t) (hg : Gl X "any" := by rfl) (hK : X.K = K := by rfl)
    (he : starEach (e :: es) X.env = (false, eval e X.env) :: starEach es X.env := by rfl) (hpl : (backTo pos (starEach es X.env)).any (·.1) = false := by rfl) :
    PE X (.Call (.Name "any" p) (e :: es) [] pos) (tCB (rAny K) t) := by
  subst hK
  exact pe_callB (cr_any hc) hg N.any_ (by decide +kernel) ha (by decide) (by decide) he hpl
theorem kb_sum (K : Fr) (hc : X.calm = true) (N : Nms X.mg) (ha : PA X (e :: es) t) (hg : Gl X "sum" := by rfl) (hK : X.K = K := by rfl)
    (he : starEach (e :: es) X.env = (false, eval e X.env) :: starEach es X.env := by rfl) (hpl : (backTo pos (starEach es X.env)).any (·.1) = false := by rfl) :
    PE X (.Call (.Name "sum" p) (e :: es) [] pos) (tCB (rSum K) t) := by
  subst hK
  exact pe_callB (cr_sum hc) hg N.sum_ (by decide +kernel) ha (by decide) (by decide) he hpl
theorem kb_abs (N : Nms X.mg) (ha : PA X (e :: es) t) (hg : Gl X "abs" := by rfl)
    (he : starEach (e :: es) X.env = (false, eval e X.env) :: starEach es X.env := by rfl) (hpl : (backTo pos (starEach es X.env)).any (·.1) = false := by rfl) :
    PE X (.Call (.Name "abs" p) (e :: es) [] pos) (tCB (fun xs H Q => ∃ i, xs = [.int i] ∧ Q (.int (if i < 0 then -i else i)) H) t) := pe_callB call_abs hg N.abs_ (by decide +kernel) ha (by decide) (by decide) he hpl
theorem kb_max (hc : X.calm = true) (N : Nms X.mg) (ha : PA X (e :: es) t) (hg : Gl X "max" := by rfl)
    (he : starEach (e :: es) X.env = (false, eval e X.env) :: starEach es X.env := by rfl) (hpl : (backTo pos (starEach es X.env)).any (·.1) = false := by rfl) :
    PE X (.Call (.Name "max" p) (e :: es) [] pos) (tCB (fun xs H Q => ∃ i j, xs = [.int i, .int j] ∧ Q (.int (if j > i then j else i)) H) t) := pe_callB (call_max2 hc) hg N.max_ (by decide +kernel) ha (by decide) (by decide) he hpl
theorem kb_min (hc : X.calm = true) (N : Nms X.mg) (ha : PA X (e :: es) t) (hg : Gl X "min" := by rfl)
    (he : starEach (e :: es) X.env = (false, eval e X.env) :: starEach es X.env := by rfl) (hpl : (backTo pos (starEach es X.env)).any (·.1) = false := by rfl) :
    PE X (.Call (.Name "min" p) (e :: es) [] pos) (tCB (fun xs H Q => ∃ i j, xs = [.int i, .int j] ∧ Q (.int (if j < i then j else i)) H) t) := pe_callB (call_min2 hc) hg N.min_ (by decide +kernel) ha (by decide) (by decide) he hpl
theorem kb_srtI (K : Fr) (N : Nms X.mg) (ha : PA X (e :: es) t) (hg : Gl X "sorted" := by rfl) (hK : X.K = K := by rfl)
    (he : starEach (e :: es) X.env = (false, eval e X.env) :: starEach es X.env := by rfl) (hpl : (backTo pos (starEach es X.env)).any (·.1) = false := by rfl) :
    PE X (.Call (.Name "sorted" p) (e :: es) [] pos) (tCB (rSortedI K) t) := by
  subst hK
  exact pe_callB cr_sortedI hg N.srt (by decide +kernel) ha (by decide) (by decide) he hpl
theorem kb_int (N : Nms X.mg) (ha : PA X (e :: es) t) (hg : Gl X "int" := by rfl)
    (he : starEach (e :: es) X.env = (false, eval e X.env) :: starEach es X.env := by rfl) (hpl : (backTo pos (starEach es X.env)).any (·.1) = false := by rfl) :
    PE X (.Call (.Name "int" p) (e :: es) [] pos) (tCB (fun xs H Q => (∃ i, xs = [.int i] ∧ Q (.int i) H) ∨ ∃ k, xs = [.bl k] ∧ Q (.int (if k then 1 else 0)) H) t) := pe_callTy call_int1 hg N.int (by decide +kernel) ha (by decide) (by decide) he hpl
theorem kb_bool (N : Nms X.mg) (ha : PA X (e :: es) t) (hg : Gl X "bool" := by rfl)
    (he : starEach (e :: es) X.env = (false, eval e X.env) :: starEach es X.env := by rfl) (hpl : (backTo pos (starEach es X.env)).any (·.1) = false := by rfl) :
    PE X (.Call (.Name "bool" p) (e :: es) [] pos) (tCB (fun xs H Q => (∃ i, xs = [.int i] ∧ Q (.bl (i != 0)) H) ∨ ∃ k, xs = [.bl k] ∧ Q (.bl k) H) t) := pe_callTy call_bool1 hg N.bool (by decide +kernel) ha (by decide) (by decide) he hpl
theorem kb_tup (K : Fr) (N : Nms X.mg) (ha : PA X (e :: es) t) (hg : Gl X "tuple" := by rfl) (hK : X.K = K := by rfl)
    (he : starEach (e :: es) X.env = (false, eval e X.env) :: starEach es X.env := by rfl) (hpl : (backTo pos (starEach es X.env)).any (·.1) = false := by rfl) :
    PE X (.Call (.Name "tuple" p) (e :: es) [] pos) (tCB (fun xs H Q => ∃ p ys, xs = [.ref p] ∧ ((SqL K H p ys ∧ ∀ l, H l = none → Q (.ref l) (upd H l (.tup ys))) ∨ (SqT K H p ys ∧ Q (.ref p) H))) t) := by
  subst hK
  exact pe_callTy call_tuple_of hg N.tup (by decide +kernel) ha (by decide) (by decide) he hpl
theorem kb_isiTup (K : Fr) {v : Expr} {tv : TE} {p2 : Pos} (N : Nms X.mg) (hv : PE X v tv) (hg : Gl X "isinstance" := by rfl) (hg2 : Gl X "tuple" := by rfl) (hK : X.K = K := by rfl)
    (he : starEach [v, .Name "tuple" p2] X.env = (false, eval v X.env) :: starEach [.Name "tuple" p2] X.env := by rfl) (hpl : (backTo pos (starEach [.Name "tuple" p2] X.env)).any (·.1) = false := by rfl) :
    PE X (.Call (.Name "isinstance" p) [v, .Name "tuple" p2] [] pos) (tCB (rIsi K) fun σ H Q => tv σ H fun x H1 => Q [x, .ty "tuple"] H1) :=
  kb_isi K N (pa_cons hv (pa_cons (pe_bltn hg2 N.tup (by decide +kernel) (v := .ty "tuple") rfl) pa_nil) he) hg hK he hpl
theorem kb_ixT (K : Fr) {a : Expr} {ta : TE} {i : Int} {k : Nat} {p2 : Pos} (ha : PE X a ta) (hK : X.K = K := by rfl) (hs : PlainIx (.Constant (.int i) k p2) := by intro o i; rfl) : PE X (.Subscript a (.Constant (.int i) k p2) pos) (tOp (rIxT K) ta (tC (.int i))) := by
  subst hK
  exact pe_ix ix_tup ha pe_int hs
theorem kb_ixL (K : Fr) {a : Expr} {ta : TE} {i : Int} {k : Nat} {p2 : Pos} (ha : PE X a ta) (hK : X.K = K := by rfl) (hs : PlainIx (.Constant (.int i) k p2) := by intro o i; rfl) : PE X (.Subscript a (.Constant (.int i) k p2) pos) (tOp (rIxL K) ta (tC (.int i))) := by
  subst hK
  exact pe_ix ix_list ha pe_int hs
end
end Sq
/-! text SqL -/
/-! comprehensions, by the reading of the iterable -/
namespace Sq
open PySem PySem.Spec PyProof.Rows L2
/-- ta gives some a, in a heap, of which G is true -/
def Gives (ta : TE) (σ : L2.St) (H : Hp) (G : Addr → Hp → Prop) : Prop := ∀ R : VK, (∀ a H1, G a H1 → R (.ref a) H1) → ta σ H R
theorem gives_pv {i : Nat} {σ : L2.St} {H : Hp} {a : Addr} (h : σ[i]? = some (some (.ref a))) : Gives (tVar i) σ H fun b H1 => a = b ∧ H = H1 := fun R k => ⟨_, h, k a H ⟨rfl, rfl⟩⟩
theorem tlc_t {K : Fr} {ta te : TE} {j : Nat} {vs : List Nat} {σ : L2.St} {H : Hp} {Q : VK} {G : Addr → Hp → Prop} (R : Hp → V → Nat → Prop) (mono : ∀ H H' v i, Same H H' → R H v i → R H' v i) (he : Gives ta σ H G)
    (hw : ∀ x, wipe ((wipe σ vs).set j (some x)) vs = wipe σ vs)
    (body : ∀ a H1, G a H1 → ∃ xs, SqT K H1 a xs ∧ xs.length ≤ 100000 ∧
      (∀ (i : Nat) x H', xs[i]? = some x → Same H1 H' → ∀ Qe : VK, (∀ v H4, Same H' H4 → R (np H' H4) v i → Qe v H4) → te ((wipe σ vs).set j (some x)) H' Qe) ∧
      (∀ D H' out, Same H1 H' → np H1 H' D = some (.lst out) → Outs R xs.length (np H1 H') out → Q (.ref D) H')) : tLc (iTup K ta) (gName j) tYes te vs σ H Q := by
  refine he _ fun a H1 g => ?_
  obtain ⟨xs, hx, hn, turn, hd⟩ := body a H1 g
  exact ⟨a, rfl, ⟨xs, hx⟩, lc_t R mono hx hn hw turn hd⟩
theorem tlc_l {K : Fr} {ta te : TE} {j : Nat} {vs : List Nat} {σ : L2.St} {H : Hp} {Q : VK} {G : Addr → Hp → Prop} (R : Hp → V → Nat → Prop) (mono : ∀ H H' v i, Same H H' → R H v i → R H' v i) (he : Gives ta σ H G)
    (hw : ∀ x, wipe ((wipe σ vs).set j (some x)) vs = wipe σ vs)
    (body : ∀ a H1, G a H1 → ∃ xs, SqL K H1 a xs ∧ xs.length ≤ 100000 ∧
      (∀ (i : Nat) x H', xs[i]? = some x → Same H1 H' → ∀ Qe : VK, (∀ v H4, Same H' H4 → R (np H' H4) v i → Qe v H4) → te ((wipe σ vs).set j (some x)) H' Qe) ∧
      (∀ D H' out, Same H1 H' → np H1 H' D = some (.lst out) → Outs R xs.length (np H1 H') out → Q (.ref D) H')) : tLc (iList K ta) (gName j) tYes te vs σ H Q := by
  refine he _ fun a H1 g => ?_
  obtain ⟨xs, hx, hn, turn, hd⟩ := body a H1 g
  exact ⟨a, rfl, ⟨xs, hx⟩, lc_l R mono hx hn hw turn hd⟩
theorem tlc_r1 {ta : TE} {te : TE} {j n : Nat} {vs : List Nat} {σ : L2.St} {H : Hp} {Q : VK} (R : Hp → V → Nat → Prop) (mono : ∀ H H' v i, Same H H' → R H v i → R H' v i) (he : ∀ S : VK, S (.int (n : Int)) H → ta σ H S) (hn : n ≤ 100000)
    (hw : ∀ x, wipe ((wipe σ vs).set j (some x)) vs = wipe σ vs)
    (turn : ∀ i H', i < n → Same H H' → ∀ Qe : VK, (∀ v H4, Same H' H4 → R (np H' H4) v i → Qe v H4) → te ((wipe σ vs).set j (some (.int (i : Int)))) H' Qe)
    (hd : ∀ D H' out, Same H H' → np H H' D = some (.lst out) → Outs R n (np H H') out → Q (.ref D) H') : tLc (iRng1 (tCons ta tNil)) (gName j) tYes te vs σ H Q := by
  refine he _ ⟨(n : Int), rfl, by omega, by omega, ?_⟩
  rw [Int.toNat_natCast]
  exact lc_r (lo := 0) R mono hn hw (fun i H' hi s Qe k => by
    rw [Int.zero_add]
    exact turn i H' hi s Qe k) hd
end Sq
/-! text SqG -/
namespace Sq
open PySem PySem.Spec PyProof.Rows L2
section
variable {P : Program} {w : World} {K : Fr} {mg : Str → Option Value} {base : Heap} {A : Ad}
theorem kit_tup_tup : PySem.W.kitOne K (.type "tuple") (.type "tuple") = some true := kit_ty (by decide +kernel)
theorem len_tup {K : Fr} {H : Hp} {p : Addr} {xs : List V} (h : H p = some (.tup xs)) : LenV K (.ref p) H xs.length := .inr ⟨xs, .of h, rfl⟩
theorem len_lst {K : Fr} {H : Hp} {p : Addr} {xs : List V} (h : H p = some (.lst xs)) : LenV K (.ref p) H xs.length := .inl ⟨xs, .of h, rfl⟩
theorem bmono {P : V → Nat → Prop} : ∀ H H' v i, Same H H' → (fun (_ : Hp) v i => P v i) H v i → (fun (_ : Hp) v i => P v i) H' v i := fun _ _ _ _ _ h => h
theorem atI_n {α : Type} {xs : List α} {i : Nat} {v : α} (h : xs[i]? = some v) : atI xs (i : Int) = some v := by
  have hl : i < xs.length := (List.getElem?_eq_some_iff.mp h).1
  unfold atI ixN
  rw [if_pos (by omega), if_pos (by omega), Int.toNat_natCast]
  exact h
theorem atI_z {xs : List V} {v : V} (h : xs[0]? = some v) : atI xs 0 = some v := atI_n (i := 0) h
def spEven (A : Ad) : Sp := fun vs H Q _ => ∃ (v : V) (r c : Nat) (t : List (List Int)), vs = [v] ∧ TabV A H v t ∧ Side r c t ∧ 1 ≤ r ∧ r ≤ 32 ∧ 1 ≤ c ∧ c ≤ 32 ∧ ∀ H', Same H H' → Q (.bl true) H'
theorem df_are_even_rows (N : Nms mg) (D : At K mg "are_even_rows" s_are_even_rows ["value"]) : Df P w K mg base CX0 1 "are_even_rows" (spEven A) := by
  refine D.df fun f fd F => F.ok n_are_even_rows (fun vs H Q E h => ?_) (fun cdv A' outer s H vs Q E hr h => ?_)
  · obtain ⟨v, r, c, t, rfl, _⟩ := h
    rfl
  · obtain ⟨v, r, c, t, rfl, ht, sd, r1, r32, c1, c32, q⟩ := h
    obtain ⟨tm, hst⟩ := N.st
    obtain ⟨a, us, rfl, ha, pr⟩ := ht
    have lu : us.length = r := (pr_len pr).trans sd.1
    have rowAt : ∀ (i : Nat) (u : V), us[i]? = some u → ∃ p vs, u = .ref p ∧ H p = some (.tup vs) ∧ vs.length = c := fun i u e => by
      obtain ⟨xs, e2, p, vs, rfl, hp, pr2⟩ := pr_get pr e
      exact ⟨p, vs, rfl, hp, (pr_len pr2).trans (sd.2 xs (List.mem_of_getElem? e2))⟩
    refine ⟨_, pss_cons (ps_if (PW.pt (pw_or (pt_not (pt_val (kb_isiTup K N (pv 0))))
          (pw_or1 (pt_not (pt_chain op_le op_le pe_int (kb_len K N (pa_cons (pv 0) pa_nil)) (pe_gi hst)))))) pss_never pss_nil)
      (pss_cons (ps_if (pt_not (pt_val (kb_all K rfl N (pa_cons (pe_lc (own := [("row", 1)]) (g := gName 1) (tt := tYes) rfl n_are_even_rows.nd (pi_tup (pv 0)) (blkOk_by (N := ["value", "row"]) (sc := defScope s_are_even_rows) (by decide +kernel))
          (fun _ _ _ _ _ => pg_name (i := 1) n_are_even_rows.nd rfl (Or.inl rfl)) (fun _ _ _ _ _ => pts_nil)
          (fun _ _ _ _ _ => pe_and (kb_isiTup K N (pv 1))
            (pe_one (pe_chain op_le op_le pe_int (kb_len K N (pa_cons (pv 1) pa_nil)) (pe_gi hst))))) pa_nil)))) pss_never pss_nil)
      (pss_one (ps_ret (kb_all K rfl N (pa_cons (pe_lc (own := [("row", 1)]) (g := gName 1) (tt := tYes) rfl n_are_even_rows.nd (pi_tup (pv 0)) (blkOk_by (N := ["value", "row"]) (sc := defScope s_are_even_rows) (by decide +kernel))
          (fun _ _ _ _ _ => pg_name (i := 1) n_are_even_rows.nd rfl (Or.inl rfl)) (fun _ _ _ _ _ => pts_nil)
          (fun _ _ _ _ _ => pe_cmp (pc_eqI (kb_len K N (pa_cons (pv 1) pa_nil)) (kb_len K N (pa_cons (kb_ixT K (pv 0)) pa_nil))))) pa_nil))))), ?_⟩
    refine ⟨_, rfl, _, _, _, _, true, rfl, .ty _, .base (.tup ha), kit_tup_tup, true, rfl, iteF ?_⟩
    refine ⟨_, rfl, _, _, rfl, len_tup ha, 1, _, rfl, rfl, _, rfl, ?_⟩
    rw [decide_eq_true (by omega)]
    refine iteT ⟨_, _, rfl, rfl, _, rfl, ?_⟩
    rw [decide_eq_true (by omega)]
    refine iteF ?_
    dsimp only [tNext, tSeq, tIfS, tNot, tB, tCB, tCons, tNil, tRet]
    refine tlc_t (fun _ v _ => v = .bl true) bmono (gives_pv (by rfl)) (by intro x; rfl) ?_
    rintro _ _ ⟨rfl, rfl⟩
    refine ⟨us, .of ha, by omega, fun i x H1 hx s1 Qe k => ?_, fun D H1 out s1 hD ho => ?_⟩
    · obtain ⟨p, vs, rfl, hp, lv⟩ := rowAt i x hx
      have hp1 := s1 _ _ hp
      refine ⟨_, rfl, _, _, _, _, true, rfl, .ty _, .base (.tup hp1), kit_tup_tup, true, rfl, iteT ?_⟩
      refine ⟨_, rfl, _, _, rfl, len_tup hp1, 1, _, rfl, rfl, _, rfl, ?_⟩
      rw [decide_eq_true (by omega)]
      exact iteT ⟨_, _, rfl, rfl, k _ _ (Same.refl _) (congrArg V.bl (decide_eq_true (by omega)))⟩
    · have ho1 := outs_true ho
      subst ho1
      refine ⟨D, _, rfl, .of (np_at hD).2, _, rfl, ?_⟩
      rw [all_rep]
      refine iteF ?_
      have ha1 := s1 _ _ ha
      try dsimp only [tNext, tSeq, tIfS, tNot, tB, tCB, tCons, tNil, tRet]
      refine tlc_t (fun _ v _ => v = .bl true) bmono (gives_pv (by rfl)) (by intro x; rfl) ?_
      rintro _ _ ⟨rfl, rfl⟩
      refine ⟨us, .of ha1, by omega, fun i x H2 hx s2 Qe k => ?_, fun D2 H2 out s2 hD2 ho2 => ?_⟩
      · obtain ⟨p, vs, rfl, hp, lv⟩ := rowAt i x hx
        have hp2 := (s1.trans s2) _ _ hp
        obtain ⟨u0, e0⟩ : ∃ u, us[0]? = some u := ⟨us[0]'(by omega), List.getElem?_eq_getElem (by omega)⟩
        obtain ⟨p0, vs0, rfl, hp0, lv0⟩ := rowAt 0 u0 e0
        have hp02 := (s1.trans s2) _ _ hp0
        refine ⟨_, rfl, _, _, rfl, len_tup hp2, _, rfl, a, us, 0, _, rfl, rfl, .of (s2 _ _ ha1), (atI_z e0), _, _, rfl, len_tup hp02, _, _, rfl, rfl, k _ _ (Same.refl _) ?_⟩
        exact congrArg V.bl (decide_eq_true (by rw [lv, lv0]))
      · have ho3 := outs_true ho2
        subst ho3
        refine ⟨D2, _, rfl, .of (np_at hD2).2, ?_⟩
        rw [all_rep]
        exact q H2 (s1.trans s2)
end
end Sq
/-! text SqG2 -/
namespace Sq
open PySem PySem.Spec PyProof.Rows L2
section
variable {P : Program} {w : World} {K : Fr} {mg : Str → Option Value} {base : Heap} {A : Ad}
/-- [e for row in t for entry in row], each e True -/
theorem tlc2_true {K : Fr} {te : TE} {i0 j j1 : Nat} {vs vs1 : List Nat} {σ : L2.St} {H : Hp} {Q : VK} {a : Addr} {us : List V} (hv : σ[i0]? = some (some (.ref a))) (ha : H a = some (.tup us)) (hn : us.length ≤ 100)
    (hrow : ∀ (i : Nat) u, us[i]? = some u → ∃ p ws, u = .ref p ∧ H p = some (.tup ws) ∧ ws.length ≤ 100)
    (hw : ∀ x, wipe ((wipe σ vs).set j (some x)) vs = wipe σ vs) (hj : ∀ x, ((wipe σ vs).set j (some x))[j]? = some (some x))
    (hw1 : ∀ x y, wipe ((wipe ((wipe σ vs).set j (some x)) vs1).set j1 (some y)) vs1 = wipe ((wipe σ vs).set j (some x)) vs1)
    (turn : ∀ (i k : Nat) p ws y H', us[i]? = some (.ref p) → H p = some (.tup ws) → ws[k]? = some y → Same H H' → ∀ Qe : VK, Qe (.bl true) H' → te ((wipe ((wipe σ vs).set j (some (.ref p))) vs1).set j1 (some y)) H' Qe)
    (hd : ∀ D H' out, Same H H' → H' D = some (.lst out) → (∀ v ∈ out, v = .bl true) → Q (.ref D) H') : tLc2 (iTup K (tVar i0)) (gName j) tYes (iTup K (tVar j)) (gName j1) tYes te vs vs1 σ H Q := by
  refine ⟨_, hv, a, rfl, ⟨us, .of ha⟩, fun D hD => ?_⟩
  refine ⟨fun i m H' => m = us.length - i ∧ i ≤ us.length ∧ Same H H' ∧ ∃ out, H' D = some (.lst out) ∧ out.length ≤ i * 100 ∧ ∀ v ∈ out, v = .bl true, ⟨us.length, by simp, Nat.zero_le _, same_new hD, [], upd_same, by simp, by simp⟩, ?_⟩
  rintro i m H' ⟨rfl, hi, s, out, ho, hl, hb⟩
  by_cases hlt : i < us.length
  · refine .inr ⟨⟨us, us[i], .of (s _ _ ha), List.getElem?_eq_getElem hlt⟩, fun H2 => Same H H2 ∧ ∃ out, H2 D = some (.lst out) ∧ out.length ≤ (i + 1) * 100 ∧ ∀ v ∈ out, v = .bl true, fun H2 p => ⟨us.length - (i + 1), by omega, rfl, hlt, p⟩, ?_⟩
    rintro x _ ⟨rfl, f⟩
    have hx := f us (.of (s _ _ ha))
    obtain ⟨p, ws, rfl, hp, lw⟩ := hrow i x hx
    refine ⟨hw _, ?_⟩
    dsimp only [tYes]
    rw [if_pos rfl]
    refine ⟨_, hj _, p, rfl, ⟨ws, .of (s _ _ hp)⟩, ?_⟩
    refine ⟨fun k m H2 => m = ws.length - k ∧ k ≤ ws.length ∧ Same H H2 ∧ ∃ out, H2 D = some (.lst out) ∧ out.length ≤ i * 100 + k ∧ ∀ v ∈ out, v = .bl true, ⟨ws.length, by simp, Nat.zero_le _, s, out, ho, by omega, hb⟩, ?_⟩
    rintro k m H2 ⟨rfl, hk, s2, out2, ho2, hl2, hb2⟩
    by_cases hlt2 : k < ws.length
    · refine .inr ⟨⟨ws, ws[k], .of (s2 _ _ hp), List.getElem?_eq_getElem hlt2⟩, fun H3 => Same H H3 ∧ ∃ out, H3 D = some (.lst out) ∧ out.length ≤ i * 100 + (k + 1) ∧ ∀ v ∈ out, v = .bl true, fun H3 q => ⟨ws.length - (k + 1), by omega, rfl, hlt2, q⟩, ?_⟩
      rintro y _ ⟨rfl, f2⟩
      have hy := f2 ws (.of (s2 _ _ hp))
      refine ⟨hw1 _ _, ?_⟩
      dsimp only [tYes]
      rw [if_pos rfl]
      refine turn i k p ws y _ hx hp hy s2 _ ?_
      have bound : i * 100 + ws.length ≤ 10000 := by
        have : i * 100 ≤ 99 * 100 := Nat.mul_le_mul_right _ (by omega)
        omega
      refine ⟨out2, ho2, szt (by omega), same_mut s2 hD, out2 ++ [.bl true], upd_same, by rw [List.length_append]; show out2.length + 1 ≤ _; omega, fun v hv => ?_⟩
      rcases List.mem_append.mp hv with z | z
      · exact hb2 v z
      · simpa using z
    · refine .inl ⟨⟨ws, .of (s2 _ _ hp), by omega⟩, s2, out2, ho2, by omega, hb2⟩
  · exact .inl ⟨⟨us, .of (s _ _ ha), by omega⟩, hd D H' out s ho hb⟩
theorem kb_isiSl (K : Fr) (u : Addr) {X : Cx} {v : Expr} {tv : TE} {x : Str} {p p2 pos : Pos} (N : Nms X.mg) (hv : PE X v tv) (g : X.mg x = some (.ref u)) (hg : Gl X "isinstance" := by rfl) (hg2 : Gl X x := by rfl) (hd : (x == ("__debug__" : Str)) = false := by decide) (hK : X.K = K := by rfl)
    (he : starEach [v, .Name x p2] X.env = (false, eval v X.env) :: starEach [.Name x p2] X.env := by rfl) (hpl : (backTo pos (starEach [.Name x p2] X.env)).any (·.1) = false := by rfl) :
    PE X (.Call (.Name "isinstance" p) [v, .Name x p2] [] pos) (tCB (SlX.rIsiSl K (.ref u)) fun σ H Q => tv σ H fun y H1 => Q [y, .ref u] H1) := by
  subst hK
  exact pe_callB (SlX.call_isiSl (.ref u)) hg N.isi (by decide +kernel) (pa_cons hv (pa_cons (pe_glob (v := .ref u) hg2 g rfl hd) pa_nil) he) (by decide) (by decide) he hpl
theorem trues {out : List V} (h : ∀ v ∈ out, v = .bl true) : out = (List.replicate out.length true).map V.bl := by
  rw [List.map_replicate]
  exact List.eq_replicate_iff.mpr ⟨rfl, h⟩
theorem df_is_table (N : Nms mg) (T : TRatio K mg A) (D : At K mg "is_table" s_is_table ["value"]) (E0 : Df P w K mg base CX0 1 "are_even_rows" (spEven A)) : Df P w K mg base CX0 2 "is_table" (spEven A) := by
  refine D.df fun f fd F => F.ok n_is_table (fun vs H Q E h => ?_) (fun cdv A' outer s H vs Q E hr h => ?_)
  · obtain ⟨v, r, c, t, rfl, _⟩ := h
    rfl
  · obtain ⟨v, r, c, t, rfl, ht, sd, r1, r32, c1, c32, q⟩ := h
    refine ⟨_, pss_one (ps_ret (pe_and (pe_df E0 hr (by decide) pass0 (pa_cons (pv 0) pa_nil)) (pe_one (kb_all K rfl N (pa_cons (pe_lc2 (own := [("row", 1), ("entry", 2)]) (vs1 := [2]) (g := gName 1) (tt := tYes) (wi1 := iTup K (tVar 1)) (g1 := gName 2) (tt1 := tYes) rfl n_is_table.nd (pi_tup (pv 0))
        (blkOk_by (N := ["value", "row", "entry"]) (sc := defScope s_is_table) (by decide +kernel)) (by decide)
        (fun _ _ _ _ _ => pg_name (i := 1) n_is_table.nd rfl (Or.inl rfl)) (fun _ _ _ _ _ => pts_nil) (fun _ _ _ _ _ => pi_tup (pv 1)) (fun _ _ _ _ _ => pg_name (i := 2) n_is_table.nd rfl (Or.inl rfl)) (fun _ _ _ _ _ => pts_nil)
        (fun _ _ _ _ _ => kb_isiSl K A.ratio N (pv 2) T.k.g)) pa_nil))))), ?_⟩
    refine ⟨_, rfl, v, r, c, t, rfl, ht, sd, r1, r32, c1, c32, fun H1 s1 => ⟨true, rfl, iteT ?_⟩⟩
    obtain ⟨a, us, rfl, ha, pr⟩ := ht
    have rowAt : ∀ (i : Nat) (u : V), us[i]? = some u → ∃ p vs, u = .ref p ∧ H p = some (.tup vs) ∧ vs.length = c ∧ ∀ (k : Nat) (y : V), vs[k]? = some y → ∃ n, RatV A H y n := fun i u e => by
      obtain ⟨xs, e2, p, vs, rfl, hp, pr2⟩ := pr_get pr e
      exact ⟨p, vs, rfl, hp, (pr_len pr2).trans (sd.2 xs (List.mem_of_getElem? e2)), fun k y hy => by
        obtain ⟨n, _, h⟩ := pr_get pr2 hy
        exact ⟨n, h⟩⟩
    have lu : us.length = r := (pr_len pr).trans sd.1
    dsimp only [tCB, tCons, tNil]
    refine tlc2_true rfl (s1 _ _ ha) (by omega) (fun i u hu => ?_) (by intro x; rfl) (by intro x; rfl) (by intro x y; rfl) (fun i k p ws y H2 hx hp hy s2 Qe q2 => ?_) (fun D H2 out s2 hD hb => ?_)
    · obtain ⟨p, vs, rfl, hp, lv, _⟩ := rowAt i u hu
      exact ⟨p, vs, rfl, s1 _ _ hp, by omega⟩
    · obtain ⟨p', vs, e, hp', lv, he⟩ := rowAt i _ hx
      cases e
      have e2 : vs = ws := by
        have e3 := (s1 _ _ hp').symm.trans hp
        cases e3
        rfl
      subst e2
      obtain ⟨n, q', rfl, o⟩ := he k y hy
      obtain ⟨dx, hs⟩ := (o.mono (s1.trans s2)).slt
      exact ⟨_, rfl, q', A.ratio, dx, _, .ref A.ratio, true, rfl, rfl, fun w h => h, hs, T.k.sc, T.k.si, T.k.kit, q2⟩
    · refine ⟨D, List.replicate out.length true, rfl, .of (by rw [← trues hb]; exact hD), ?_⟩
      rw [all_rep]
      exact q H2 (s1.trans s2)
end
end Sq
/-! text SqM -/
/-! for loops, by the reading of the iterable -/
namespace Sq
open PySem PySem.Spec PyProof.Rows L2
section
variable {K : Fr} {ta tb2 : TE} {g : TG} {tb : TS} {D : Ends} {σ : L2.St} {H : Hp} {G : Addr → Hp → Prop}
abbrev Rn (D : Ends) (Pv : Nat → L2.St → Hp → Prop) (i : Nat) : Ends := { D with nx := Pv (i + 1), ct := Pv (i + 1), bk := D.nx }
theorem tfor_t (he : Gives ta σ H G) (body : ∀ a H1, G a H1 → ∃ xs, SqT K H1 a xs ∧ ∃ Pv : Nat → L2.St → Hp → Prop, Pv 0 σ H1 ∧ (∀ i σ H, i ≤ xs.length → Pv i σ H → SqT K H a xs) ∧
    (∀ (i : Nat) x σ H, xs[i]? = some x → Pv i σ H → g x σ H fun σ2 H2 => tb (Rn D Pv i) σ2 H2) ∧ ∀ σ H, Pv xs.length σ H → D.nx σ H) : tFor (iTup K ta) g tb D σ H := by
  refine he _ fun a H1 h => ?_
  obtain ⟨xs, hx, Pv, h0, hl, hs, hd⟩ := body a H1 h
  exact ⟨a, rfl, ⟨xs, hx⟩, for_tup Pv h0 hl hs hd⟩
theorem tfor_l (he : Gives ta σ H G) (body : ∀ a H1, G a H1 → ∃ xs, SqL K H1 a xs ∧ ∃ Pv : Nat → L2.St → Hp → Prop, Pv 0 σ H1 ∧ (∀ i σ H, i ≤ xs.length → Pv i σ H → SqL K H a xs) ∧
    (∀ (i : Nat) x σ H, xs[i]? = some x → Pv i σ H → g x σ H fun σ2 H2 => tb (Rn D Pv i) σ2 H2) ∧ ∀ σ H, Pv xs.length σ H → D.nx σ H) : tFor (iList K ta) g tb D σ H := by
  refine he _ fun a H1 h => ?_
  obtain ⟨xs, hx, Pv, h0, hl, hs, hd⟩ := body a H1 h
  exact ⟨a, rfl, ⟨xs, hx⟩, for_list Pv h0 hl hs hd⟩
/-- for x in range(n) -/
theorem tfor_r1 {n : Nat} (he : ∀ S : VK, S (.int (n : Int)) H → ta σ H S) (hn : n ≤ 1000000) (Pv : Nat → L2.St → Hp → Prop) (h0 : Pv 0 σ H) (hs : ∀ i σ H, i < n → Pv i σ H → g (.int (i : Int)) σ H fun σ2 H2 => tb (Rn D Pv i) σ2 H2)
    (hd : ∀ σ H, Pv n σ H → D.nx σ H) : tFor (iRng1 (tCons ta tNil)) g tb D σ H := by
  refine he _ ⟨(n : Int), rfl, by omega, by omega, ?_⟩
  rw [Int.toNat_natCast]
  exact for_range (lo := 0) Pv h0 (fun i σ H hi p => by
    rw [Int.zero_add]
    exact hs i σ H hi p) hd
/-- for x in range(lo, hi) -/
theorem tfor_r2 {lo n : Nat} {hi : Int} (he : ∀ S : List V → Hp → Prop, S [.int (lo : Int), .int hi] H → (tCons ta (tCons tb2 tNil)) σ H S) (e : hi = (lo : Int) + n) (hn : lo + n ≤ 1000000) (Pv : Nat → L2.St → Hp → Prop) (h0 : Pv 0 σ H)
    (hs : ∀ i σ H, i < n → Pv i σ H → g (.int ((lo + i : Nat) : Int)) σ H fun σ2 H2 => tb (Rn D Pv i) σ2 H2) (hd : ∀ σ H, Pv n σ H → D.nx σ H) : tFor (iRng2 (tCons ta (tCons tb2 tNil))) g tb D σ H := by
  unfold tFor iRng2
  refine he _ ?_
  refine ⟨(lo : Int), hi, rfl, ⟨by omega, by omega, by omega, by omega⟩, ?_⟩
  rw [show (hi - (lo : Int)).toNat = n by omega]
  exact for_range (lo := (lo : Int)) Pv h0 (fun i σ H hi p => by
    have h := hs i σ H hi p
    rw [Int.natCast_add] at h
    exact h) hd
theorem tfor_eT (he : Gives ta σ H G) (body : ∀ a H1, G a H1 → ∃ xs, SqT K H1 a xs ∧ ∃ Pv : Nat → L2.St → Hp → Prop, Pv 0 σ H1 ∧ (∀ i σ H, Pv i σ H → SqT K H a xs) ∧
    (∀ (i : Nat) x σ H T, xs[i]? = some x → Pv i σ H → H T = none → g (.ref T) σ (upd H T (.tup [.int (i : Nat), x])) fun σ2 H2 => tb (Rn D Pv i) σ2 H2) ∧ ∀ σ H, Pv xs.length σ H → D.nx σ H) : tFor (iEnumT K (tCons ta tNil)) g tb D σ H := by
  refine he _ fun a H1 h => ?_
  obtain ⟨xs, hx, Pv, h0, hl, hs, hd⟩ := body a H1 h
  exact ⟨a, xs, rfl, hx, for_enumT Pv h0 hl hs hd⟩
theorem tfor_eL (he : Gives ta σ H G) (body : ∀ a H1, G a H1 → ∃ xs, SqL K H1 a xs ∧ ∃ Pv : Nat → L2.St → Hp → Prop, Pv 0 σ H1 ∧ (∀ i σ H, Pv i σ H → SqL K H a xs) ∧
    (∀ (i : Nat) x σ H T, xs[i]? = some x → Pv i σ H → H T = none → g (.ref T) σ (upd H T (.tup [.int (i : Nat), x])) fun σ2 H2 => tb (Rn D Pv i) σ2 H2) ∧ ∀ σ H, Pv xs.length σ H → D.nx σ H) : tFor (iEnum K (tCons ta tNil)) g tb D σ H := by
  refine he _ fun a H1 h => ?_
  obtain ⟨xs, hx, Pv, h0, hl, hs, hd⟩ := body a H1 h
  exact ⟨a, xs, rfl, hx, for_enumL Pv h0 hl hs hd⟩
end
section
variable {P : Program} {w : World} {K : Fr} {mg : Str → Option Value} {base : Heap} {A : Ad}
/-! ### common_bottom -/
def spBottom (A : Ad) : Sp := fun vs H Q _ => ∃ (v : V) (t : List (List Int)), vs = [v] ∧ TabV A H v t ∧ Q (.int 1) H
theorem df_common_bottom (T : TRatio K mg A) (B : Rp P w K mg base 1 A.ratio "bottom" (spBot A)) (C : Df P w K mg base CX0 1 "common_of" spCommon) (D : At K mg "common_bottom" s_common_bottom ["table"]) : Df P w K mg base CX0 3 "common_bottom" (spBottom A) := by
  refine D.df fun f fd F => F.ok n_common_bottom (fun vs H Q E h => ?_) (fun cdv A' outer s H vs Q E hr h => ?_)
  · obtain ⟨v, t, rfl, _⟩ := h
    rfl
  · obtain ⟨v, t, rfl, ht, q⟩ := h
    obtain ⟨a, us, rfl, ha, pr⟩ := ht
    refine ⟨_, pss_cons (ps_set (i := 1) n_common_bottom.nd rfl (.inl rfl) pe_int) (pss_cons (ps_for PassesOwn.never rfl (pi_tup (pv 0)) (pg_name (i := 2) n_common_bottom.nd rfl (.inl rfl))
        (pss_one (ps_for PassesOwn.never rfl (pi_tup (pv 2)) (pg_name (i := 3) n_common_bottom.nd rfl (.inl rfl))
          (pss_one (ps_set (i := 1) n_common_bottom.nd rfl (.inl rfl) (pe_op op_mul (pe_op op_fdiv (pv 1) (pe_df C hr (by decide) pass0 (pa_cons (pv 1) (pa_cons (pe_rp B T.k.sc hr (by decide) (pv 3)) pa_nil)))) (pe_rp B T.k.sc hr (by decide) (pv 3))))))))
      (pss_one (ps_ret (pv 1)))), ?_⟩
    have entry : ∀ (p : Addr) (ws : List V) (x : V) (k : Nat) (e : Nat), us[e]? = some (.ref p) → H p = some (.tup ws) → ws[k]? = some x → ∃ n q, x = .ref q ∧ IsR A n H q := fun p ws x k e h1 h2 h3 => by
      obtain ⟨xs, _, p', ws', e1, hp', pr2⟩ := pr_get pr h1
      cases e1
      have e3 := h2.symm.trans hp'
      cases e3
      obtain ⟨n, _, q, rfl, o⟩ := pr_get pr2 h3
      exact ⟨n, q, rfl, o⟩
    dsimp only [tSeq, tAsg, gName, tC]
    refine tfor_t (gives_pv (by rfl)) ?_
    rintro _ _ ⟨rfl, rfl⟩
    refine ⟨us, .of ha, fun _ σ' H' => H' = H ∧ ∃ z1 z2, σ' = [some (.ref a), some (.int 1), z1, z2], ⟨rfl, _, _, rfl⟩, ?_, ?_, ?_⟩
    · rintro i _ _ _ ⟨rfl, _⟩
      exact .of ha
    · rintro i x _ _ hx ⟨rfl, z1, z2, rfl⟩
      obtain ⟨xs, _, p, ws, rfl, hp, _⟩ := pr_get pr hx
      refine tfor_t (gives_pv (by rfl)) ?_
      rintro _ _ ⟨rfl, rfl⟩
      refine ⟨ws, .of hp, fun _ σ' H' => H' = _ ∧ ∃ z1, σ' = [some (.ref a), some (.int 1), some (.ref p), z1], ⟨rfl, _, rfl⟩, ?_, ?_, ?_⟩
      · rintro i _ _ _ ⟨rfl, _⟩
        exact .of hp
      · rintro j y _ _ hy ⟨rfl, z1, rfl⟩
        obtain ⟨n, q', rfl, o⟩ := entry p ws y j i hx hp hy
        obtain ⟨dx, hs⟩ := o.slt
        refine ⟨_, rfl, _, rfl, _, rfl, q', dx, _, rfl, hs, q', n, rfl, o, 1, rfl, 1, 1, rfl, rfl, ⟨by decide, by decide⟩, _, rfl, q', dx, _, rfl, hs, q', n, rfl, o, 1, 1, rfl, rfl, .inl ⟨by decide, by decide⟩, ?_⟩
        exact ⟨rfl, _, rfl⟩
      · rintro _ _ ⟨rfl, z1, rfl⟩
        exact ⟨rfl, _, _, rfl⟩
    · rintro _ _ ⟨rfl, z1, z2, rfl⟩
      exact ⟨_, rfl, q⟩
end
end Sq
/-! text SqN -/
namespace Sq
open PySem PySem.Spec PyProof.Rows L2
section
variable {X : Cx} {o e : Expr} {to te : TE} {apos cpos pos : Pos}
/-- o.append(e) -/
def tAppE (K : Fr) (to te : TE) : TE := tBM K "list" rAppend to (tCons te tNil)
theorem kb_app (K : Fr) (ho : PE X o to) (he : PE X e te) (hK : X.K = K := by rfl) (hbase : attributeBase o "append" X.env (eval o X.env) = eval o X.env := by rfl)
    (hfew : ((backTo cpos (starEach [e] X.env)).all (fun x => !x.1) && (backToKw cpos (keywordEach [] X.env)).all (fun x => x.1.isSome) && decide (([e] : List Expr).length + ([] : List Keyword).length + (if ([] : List Keyword).isEmpty then 0 else 1) < 30)) = true := by rfl)
    (hline : (apos.endLine == cpos.line) = true := by rfl) (hs : starEach [e] X.env = (false, eval e X.env) :: starEach [] X.env := by rfl) :
    PE X (.Call (.Attribute o "append" apos) [e] [] cpos) (tAppE K to te) := by
  subst hK
  exact pe_bm PySem.F.plainAttrs_list PySem.F.slot_list_append PySem.F.type_list_append mt_append ho (pa_cons he pa_nil hs) hbase hfew hline hs rfl
end
/-- a row, as Plain holds it: place ↦ entry, of what is not zero -/
def rowF : Nat → List Int → List (Key × V)
  | _, [] => []
  | o, x :: xs => (if x ≠ 0 then [(Sum.inl (o : Int), V.int x)] else []) ++ rowF (o + 1) xs
abbrev rowK (xs : List Int) : List (Key × V) := rowF 0 xs
theorem rowF_app : ∀ (xs : List Int) (o : Nat) (x : Int), rowF o (xs ++ [x]) = rowF o xs ++ (if x ≠ 0 then [(Sum.inl ((o + xs.length : Nat) : Int), V.int x)] else [])
  | [], o, x => by
    simp [rowF]
  | y :: ys, o, x => by
    show (if y ≠ 0 then [(Sum.inl (o : Int), V.int y)] else []) ++ rowF (o + 1) (ys ++ [x]) = ((if y ≠ 0 then [(Sum.inl (o : Int), V.int y)] else []) ++ rowF (o + 1) ys) ++ _
    rw [rowF_app ys (o + 1) x, List.append_assoc, List.length_cons, show o + 1 + ys.length = o + (ys.length + 1) by omega]
theorem rowF_key : ∀ (xs : List Int) (o : Nat) (p : Key × V), p ∈ rowF o xs → ∃ i : Nat, p.1 = Sum.inl (i : Int) ∧ o ≤ i ∧ i < o + xs.length
  | [], o, p, h => by simp [rowF] at h
  | y :: ys, o, p, h => by
    rcases List.mem_append.mp (show p ∈ (if y ≠ 0 then [(Sum.inl (o : Int), V.int y)] else []) ++ rowF (o + 1) ys from h) with z | z
    · split at z
      · have e : p = (Sum.inl (o : Int), V.int y) := by simpa using z
        exact ⟨o, by rw [e], Nat.le_refl _, by rw [List.length_cons]; omega⟩
      · simp at z
    · obtain ⟨i, h1, h2, h3⟩ := rowF_key ys (o + 1) p z
      exact ⟨i, h1, by omega, by rw [List.length_cons]; omega⟩
theorem rowF_len : ∀ (xs : List Int) (o : Nat), (rowF o xs).length ≤ xs.length
  | [], o => Nat.le_refl _
  | y :: ys, o => by
    show ((if y ≠ 0 then [(Sum.inl (o : Int), V.int y)] else []) ++ rowF (o + 1) ys).length ≤ _
    have h := rowF_len ys (o + 1)
    rw [List.length_append, List.length_cons]
    split
    · rw [List.length_singleton]; omega
    · rw [List.length_nil]; omega
theorem rowK_put {xs : List Int} {x : Int} (h : x ≠ 0) : putK (rowK xs) (Sum.inl ((xs.length : Nat) : Int)) (V.int x) = rowK (xs ++ [x]) := by
  unfold putK
  have no : (rowK xs).any (fun kv => decide (kv.1 = Sum.inl ((xs.length : Nat) : Int))) = false := by
    rw [List.any_eq_false]
    intro p hp
    obtain ⟨i, h1, _, h3⟩ := rowF_key xs 0 p hp
    simp only [decide_eq_true_eq]
    rw [h1]
    intro z
    have z2 : (i : Int) = (xs.length : Int) := Sum.inl.inj z
    omega
  rw [no, if_neg Bool.false_ne_true]
  show rowF 0 xs ++ _ = rowF 0 (xs ++ [x])
  rw [rowF_app, if_pos h, Nat.zero_add]
theorem rowK_skip {xs : List Int} : rowK (xs ++ [0]) = rowK xs := by
  rw [rowK, rowF_app, if_neg (fun h => h rfl), List.append_nil]
/-- a Plain of a table -/
def PlainV (A : Ad) : Rl (List (List Int)) := fun H v t => ∃ p L ds, v = .ref p ∧ Ob A.plain [some (.int 1), some (.ref L)] H p ∧ H L = some (.lst ds) ∧ Paired (fun d xs => ∃ a, d = .ref a ∧ H a = some (.dK (rowK xs))) ds t
theorem PlainV.mo {A : Ad} : Mo (PlainV A) := fun H H' v x e h => by
  obtain ⟨p, L, ds, rfl, o, hL, pr⟩ := h
  exact ⟨p, L, ds, rfl, o.mono e, e _ _ hL, Paired.mapP pr fun d xs r => by
    obtain ⟨a, rfl, ha⟩ := r
    exact ⟨a, rfl, e _ _ ha⟩⟩
theorem slH_at {H : Hp} {a C dx : Addr} {vs : List (Option V)} : SlX.slH H a C dx vs a = some (SlX.SlO a C dx vs) := upd_same
theorem slH_dx {H : Hp} {a C dx : Addr} {vs : List (Option V)} (ne : dx ≠ a) : SlX.slH H a C dx vs dx = some (.xd []) := by
  unfold SlX.slH
  rw [upd_ne ne, upd_same]
theorem ne_some {H : Hp} {a b : Addr} {o : HO} (h : H a = none) (h2 : H b = some o) : a ≠ b := fun z => by
  rw [z, h2] at h
  cases h
structure TPlain (K : Fr) (mg : Str → Option Value) (A : Ad) : Prop where
  k : Kl K mg "Plain" A.plain
  b : ∃ p, SlX.Slot1 K A.plain "own_bottom" p 0
  r : ∃ p, SlX.Slot1 K A.plain "own_rows" p 1
  i : In K A.plain "Plain.__init__" s_Plain_init ["self", "table"]
section
variable {P : Program} {w : World} {K : Fr} {mg : Str → Option Value} {base : Heap} {A : Ad}
def spPlain (A : Ad) : Sp := fun vs H Q _ => ∃ (v : V) (t : List (List Int)), vs = [v] ∧ TabV A H v t ∧ t.length ≤ 100 ∧ (∀ x ∈ t, x.length ≤ 100) ∧ ∀ p H', Same H H' → PlainV A (np H H') (.ref p) t → Q (.ref p) H'
def spPlainI (A : Ad) : Sp := fun vs H Q _ => ∃ (x dx : Addr) (v : V) (t : List (List Int)) (H0 : Hp), vs = [.ref x, v] ∧ H = upd (upd H0 dx (.own x)) x (.ins A.plain dx []) ∧ H0 x = none ∧ H0 dx = none ∧ dx ≠ x ∧ TabV A H0 v t ∧ t.length ≤ 100 ∧
  (∀ x ∈ t, x.length ≤ 100) ∧ ∀ H', Same H0 H' → PlainV A (np H0 H') (.ref x) t → Q .non H'
theorem dc_Plain (N : Nms mg) (TR : TRatio K mg A) (T : TPlain K mg A) (B : Rp P w K mg base 1 A.ratio "bottom" (spBot A)) (Tp : Rp P w K mg base 1 A.ratio "top" (spTop A)) (Bo : Rm P w K mg base 1 A.ratio "__bool__" (spBoo A))
    (C : Df P w K mg base CX0 3 "common_bottom" (spBottom A)) : Dc P w K mg base 4 "Plain" (spPlain A) := by
  obtain ⟨f, fd, ⟨dvs, kws, F⟩, M, b⟩ := T.i.ex
  refine ⟨A.plain, f, fd, ["self", "table"], spPlainI A, F.ok n_Plain_init (fun vs H Q E h => ?_) (fun cdv A' outer s H vs Q E hr h => ?_), M, T.k.g, b, fun vs H Q h a dx n1 n2 ne => ?_⟩
  · obtain ⟨x, dx, v, t, H0, rfl, _⟩ := h
    rfl
  · obtain ⟨x, dx, v, t, H0, rfl, rfl, h1, h2, ne, ht, ht1, ht2, q⟩ := h
    obtain ⟨p0, S0⟩ := T.b
    obtain ⟨p1, S1⟩ := T.r
    obtain ⟨gb, hgb, hfb, Fb⟩ := Bo.ex
    refine ⟨_, PSs.nox <| pss_cons (ps_set (i := 2) n_Plain_init.nd rfl (.inl rfl) (pe_df C hr (by decide) pass0 (pa_cons (pv 1) pa_nil)))
      <| pss_cons (SlX.ps_sl (pv 0) (pv 2))
      <| pss_cons (SlX.ps_sl (pv 0) (pe_lst pa_nil))
      <| pss_one <| ps_for PassesOwn.never rfl (pi_tup (pv 1)) (pg_name (i := 3) n_Plain_init.nd rfl (.inl rfl))
        <| pss_cons (ps_set (i := 4) n_Plain_init.nd rfl (.inl rfl) pe_dnewK)
        <| pss_cons (ps_for PassesOwn.never rfl (pi_enumT N.enu (pa_cons (pv 3) pa_nil)) (pg_tup rfl (pgs_cons (pg_name (i := 5) n_Plain_init.nd rfl (.inl rfl)) (pgs_cons (pg_name (i := 6) n_Plain_init.nd rfl (.inl rfl)) pgs_nil)))
          <| pss_one <| ps_if (pt_val (pe_callTy (call_boolOwn (C := A.ratio) hgb hfb Fb (hr.mono (by decide)) pass0) (by rfl) N.bool (by decide +kernel) (pa_cons (pv 6) pa_nil)))
            (pss_one <| ps_dput (hu_of hr) (pv 4) (pv 5) (pe_op op_mul (pe_rp Tp TR.k.sc hr (by decide) (pv 6)) (pe_op op_fdiv (pv 2) (pe_rp B TR.k.sc hr (by decide) (pv 6)))) (by rfl)) pss_nil)
        <| pss_one <| ps_expr (kb_app K (SlX.pe_sl (pv 0)) (pv 4)), ?_⟩
    have s0 : Same H0 (upd (upd H0 dx (.own x)) x (.ins A.plain dx [])) := same_made h1 h2
    obtain ⟨a, us, rfl, ha, pr⟩ := id ht
    refine ⟨_, rfl, _, t, rfl, (Tu.mo (Tu.mo RatV.mo)) _ _ _ _ s0 ht, ?_⟩
    refine ⟨_, rfl, _, rfl, x, A.plain, dx, p0, [], 0, rfl, slt_new, T.k.sc, S0, ?_⟩
    refine ⟨Nat.zero_le _, fun L hL => ?_⟩
    have nLx : L ≠ x := ne_some hL slH_at
    have nLd : L ≠ dx := ne_some hL (slH_dx ne)
    have hL0 : H0 L = none := by
      rw [SlX.slH_ne nLx nLd, upd_ne nLx, upd_ne nLd] at hL
      exact hL
    refine ⟨_, rfl, x, A.plain, dx, p1, [some (.int 1)], 1, rfl, .inr ⟨?_, ?_⟩, T.k.sc, S1, ?_⟩
    · rw [upd_ne nLx.symm]
      exact slH_at
    · rw [upd_ne nLd.symm]
      exact slH_dx ne
    dsimp only
    refine tfor_t (gives_pv (by rfl)) ?_
    rintro _ _ ⟨rfl, rfl⟩
    have s1 : Same H0 (SlX.slH (upd (SlX.slH (upd (upd H0 dx (.own x)) x (.ins A.plain dx [])) x A.plain dx [some (.int 1)]) L (.lst [])) x A.plain dx [some (.int 1), some (.ref L)]) := fun b o e => by
      rw [SlX.slH_ne (ne_of_none e h1) (ne_of_none e h2), upd_ne (ne_of_none e hL0), SlX.slH_ne (ne_of_none e h1) (ne_of_none e h2)]
      exact s0 b o e
    refine ⟨us, .of (s1 _ _ ha), fun i σ' H' => Same H0 H' ∧ H' x = some (SlX.SlO x A.plain dx [some (.int 1), some (.ref L)]) ∧ H' dx = some (.xd []) ∧ (∃ ds, H' L = some (.lst ds) ∧ Paired (fun d xs => ∃ b, d = .ref b ∧ H0 b = none ∧ H' b = some (.dK (rowK xs))) ds (t.take i)) ∧
      ∃ z3 z4 z5 z6, σ' = [some (.ref x), some (.ref a), some (.int 1), z3, z4, z5, z6], ?_, ?_, ?_, ?_⟩
    · refine ⟨s1, slH_at, slH_dx ne, ⟨[], ?_, .nil⟩, _, _, _, _, rfl⟩
      rw [SlX.slH_ne nLx nLd, upd_same]
    · rintro i _ _ _ ⟨s, _⟩
      exact .of (s _ _ ha)
    · rintro i y _ H1 hy ⟨s2, hx, hdx, ⟨ds, hds, prd⟩, z3, z4, z5, z6, rfl⟩
      obtain ⟨xs, hxs, p, ws, rfl, hp, prw⟩ := pr_get pr hy
      dsimp only [tSeq, tAsg, gName, tDNewK]
      intro d hd
      have hd0 : H0 d = none := s2.free hd
      have ndx : d ≠ x := ne_some hd hx
      have nddx : d ≠ dx := ne_some hd hdx
      have ndL : d ≠ L := ne_some hd hds
      have sd : Same H1 (upd H1 d (.dK [])) := same_new hd
      refine tfor_eT (gives_pv (by rfl)) ?_
      rintro _ _ ⟨rfl, rfl⟩
      refine ⟨ws, .of (sd _ _ (s2 _ _ hp)), fun k σ' H' => Same H1 H' ∧ H' d = some (.dK (rowK (xs.take k))) ∧ ∃ z5 z6, σ' = [some (.ref x), some (.ref a), some (.int 1), some (.ref p), some (.ref d), z5, z6], ⟨sd, upd_same, _, _, rfl⟩, ?_, ?_, ?_⟩
      · rintro k _ _ ⟨s3, _⟩
        exact .of (s3 _ _ (s2 _ _ hp))
      · rintro k y _ H3 Tp hy3 ⟨s3, hd3, z5', z6', rfl⟩ hT
        obtain ⟨n, hn, q', rfl, o⟩ := pr_get prw hy3
        have sT : Same H3 (upd H3 Tp (.tup [.int (k : Nat), .ref q'])) := same_new hT
        have nTd : Tp ≠ d := ne_some hT hd3
        obtain ⟨dq, hsq⟩ := (o.mono ((s2.trans s3).trans sT)).slt
        have ok := o.mono ((s2.trans s3).trans sT)
        have hk : k < xs.length := (List.getElem?_eq_some_iff.mp hn).1
        have lk : (xs.take k).length = k := by rw [List.length_take]; omega
        have tk : xs.take (k + 1) = xs.take k ++ [n] := by
          rw [List.take_add_one, hn]
          rfl
        refine ⟨Tp, _, rfl, .of upd_same, rfl, ?_⟩
        refine ⟨_, _, rfl, _, _, rfl, rfl, _, rfl, q', dq, _, rfl, hsq, q', n, rfl, ok, _, rfl, _, rfl, ?_⟩
        by_cases z : n = 0
        · subst z
          refine iteF ⟨s3.trans sT, ?_, _, _, rfl⟩
          rw [tk, rowK_skip]
          exact sT _ _ hd3
        · rw [show (n != 0) = true by simpa using z]
          refine iteT ⟨_, rfl, q', dq, _, rfl, hsq, q', n, rfl, ok, _, rfl, _, rfl, q', dq, _, rfl, hsq, q', n, rfl, ok, 1, 1, rfl, rfl, ⟨by decide, by decide⟩, n, _, rfl, rfl, .inr ⟨by decide, by decide⟩, ?_⟩
          refine ⟨_, rfl, _, rfl, d, _, rfl, .k (k := .inl (k : Int)) (sT _ _ hd3) (szt (Nat.le_trans (rowF_len _ _) (by rw [lk]; have := ht2 xs (List.mem_of_getElem? hxs); omega))), ?_⟩
          refine ⟨fun b o e => ?_, ?_, _, _, rfl⟩
          · rw [upd_ne (ne_of_none e hd)]
            exact sT _ _ (s3 _ _ e)
          · rw [upd_same, tk]
            have h9 := rowK_put (xs := xs.take k) z
            rw [lk] at h9
            rw [← h9]
            show some (HO.dK (putK _ _ (V.int (n * (1 / 1))))) = _
            rw [show n * (1 / 1) = n by rw [Int.ediv_one, Int.mul_one]]
      · rintro _ H4 ⟨s3, hd3, z5', z6', rfl⟩
        have lw : ws.length = xs.length := pr_len prw
        rw [lw, List.take_length] at hd3
        have lds : ds.length ≤ 100 := by
          rw [pr_len prd, List.length_take]
          omega
        refine ⟨_, rfl, x, A.plain, dx, p1, _, 1, .ref L, rfl, .inr ⟨s3 _ _ hx, s3 _ _ hdx⟩, T.k.sc, S1, rfl, .inl ⟨rfl, _, .of (s3 _ _ hds)⟩, _, rfl, L, ds, _, rfl, rfl, s3 _ _ hds, szt (by omega), ?_⟩
        have nLd' : L ≠ d := ndL.symm
        refine ⟨fun b o e => ?_, ?_, ?_, ⟨ds ++ [.ref d], upd_same, ?_⟩, _, _, _, _, rfl⟩
        · rw [upd_ne (ne_of_none e hL0)]
          exact s3 _ _ (s2 _ _ e)
        · rw [upd_ne nLx.symm]
          exact s3 _ _ hx
        · rw [upd_ne nLd.symm]
          exact s3 _ _ hdx
        · rw [List.take_add_one, hxs]
          refine pr_app (Paired.mapP prd fun d' xs' r => ?_) (.cons ⟨d, rfl, hd0, ?_⟩ .nil)
          · obtain ⟨b, rfl, n, e⟩ := r
            refine ⟨b, rfl, n, ?_⟩
            rw [upd_ne (fun z => by
              rw [z, hds] at e
              cases e)]
            exact s3 _ _ e
          · rw [upd_ne ndL]
            exact hd3
    · rintro _ H1 ⟨s2, hx, hdx, ⟨ds, hds, prd⟩, z3, z4, z5, z6, rfl⟩
      refine q H1 s2 ⟨x, L, ds, rfl, ⟨dx, (np_none h1).trans hx, (np_none h2).trans hdx⟩, (np_none hL0).trans hds, ?_⟩
      rw [pr_len pr, List.take_length] at prd
      exact Paired.mapP prd fun d xs r => by
        obtain ⟨b, rfl, n, e⟩ := r
        exact ⟨b, rfl, (np_none n).trans e⟩
  · obtain ⟨v, t, rfl, ht, l1, l2, q⟩ := h
    exact ⟨a, dx, v, t, H, rfl, rfl, n1, n2, ne, ht, l1, l2, fun H' s pl => ⟨rfl, q a H' s pl⟩⟩
end
end Sq
/-! text SqO -/
namespace Sq
open PySem PySem.Spec PyProof.Rows L2
/-- a comprehension with a test; what is laid is no heap's -/
theorem lcf {J : It} {n : Nat} {g : TG} {tt : TT} {te : TE} {vs : List Nat} {σ : L2.St} {H1 : Hp} {Q : VK} (acc : Nat → List V) (h0 : acc 0 = []) (hn : ∀ i, i ≤ n → (acc i).length < 100000)
    (hgo : ∀ i H', i < n → Same H1 H' → J.go i H') (hst : ∀ H', Same H1 H' → J.stop n H')
    (turn : ∀ i x H' H2, i < n → Same H1 H' → J.yld i H' x H2 → ∀ (Qe : VK) (Qn : Hp → Prop), (∀ y H5, Same H' H5 → acc (i + 1) = acc i ++ [y] → Qe y H5) → (∀ H4, Same H' H4 → acc (i + 1) = acc i → Qn H4) →
      g x (wipe σ vs) H2 fun σ2 H3 => wipe σ2 vs = wipe σ vs ∧ tt σ2 H3 fun b H4 => if b = true then te σ2 H4 Qe else Qn H4)
    (hd : ∀ D H', Same H1 H' → np H1 H' D = some (.lst (acc n)) → Q (.ref D) H') :
    ∀ D, H1 D = none → ∃ W : Nat → Nat → Hp → Prop, (∃ m, W 0 m (upd H1 D (.lst []))) ∧ ∀ i m H, W i m H →
      (J.stop i H ∧ Q (.ref D) H) ∨ (J.go i H ∧ ∃ Nx : Hp → Prop, (∀ H', Nx H' → ∃ m', m' < m ∧ W (i + 1) m' H') ∧ ∀ x H', J.yld i H x H' → g x (wipe σ vs) H' fun σ2 H2 => wipe σ2 vs = wipe σ vs ∧ tt σ2 H2 fun b H3 =>
        if b = true then te σ2 H3 fun y H4 => ∃ acc, H4 D = some (.lst acc) ∧ acc.length < sizeLine ∧ Nx (upd H4 D (.lst (acc ++ [y]))) else Nx H3) := by
  intro D hD
  refine ⟨fun i m H => m = n - i ∧ i ≤ n ∧ Same H1 H ∧ H D = some (.lst (acc i)), ⟨n, by simp, Nat.zero_le _, same_new hD, by rw [h0]; exact upd_same⟩, ?_⟩
  rintro i m H ⟨rfl, hi, s, ho⟩
  by_cases hlt : i < n
  · refine .inr ⟨hgo i H hlt s, fun H' => Same H1 H' ∧ H' D = some (.lst (acc (i + 1))), fun H' p => ⟨n - (i + 1), by omega, rfl, hlt, p⟩, fun x H2 y => ?_⟩
    refine turn i x H H2 hlt s y _ _ (fun v H5 s5 e => ⟨acc i, s5 _ _ ho, szt (Nat.le_of_lt (hn i hi)), same_mut (s.trans s5) hD, by rw [upd_same, e]⟩) fun H4 s4 e => ⟨s.trans s4, ?_⟩
    rw [e]
    exact s4 _ _ ho
  · have e : i = n := by omega
    subst e
    exact .inl ⟨hst H s, hd D H s (by rw [np_none hD]; exact ho)⟩
/-- a lock taken and left -/
theorem same_lock {H H' : Hp} {d : Addr} {u v : HO} (hd : H d = some u) (s : Same (upd H d v) H') : Same H (upd H' d u) := fun b o e => by
  by_cases z : b = d
  · rw [z] at e ⊢
    rw [upd_same, ← hd]
    exact e
  · rw [upd_ne z]
    exact s b o (by rw [upd_ne z]; exact e)
/-! ### the scalar product -/
def ip (xs ys : List Int) : Int := ((xs.zip ys).map fun p => p.1 * p.2).sum
def prodK (L : List (Key × V)) (p : Key × V) : Option V := match p.2, valV L p.1 with
  | .int a, some (.int b) => some (.int (a * b))
  | _, _ => none
def prodN (L : List (Key × V)) (p : Key × V) : Option Int := match p.2, valV L p.1 with
  | .int a, some (.int b) => some (a * b)
  | _, _ => none
theorem prodK_N (L : List (Key × V)) (p : Key × V) : prodK L p = (prodN L p).map V.int := by
  unfold prodK prodN
  split <;> rfl
theorem prods (L kvs : List (Key × V)) : kvs.filterMap (prodK L) = (kvs.filterMap (prodN L)).map V.int := by
  rw [List.map_filterMap]
  exact congrArg (fun f => kvs.filterMap f) (funext fun p => prodK_N L p)
theorem rowF_val : ∀ (ys : List Int) (o i : Nat), o ≤ i → valV (rowF o ys) (Sum.inl (i : Int)) = match ys[i - o]? with
    | some y => if y ≠ 0 then some (V.int y) else none
    | none => none
  | [], o, i, h => by
    simp [rowF, valV]
  | y :: ys, o, i, h => by
    have ih := rowF_val ys (o + 1) i
    by_cases e : i = o
    · subst e
      rw [Nat.sub_self]
      show valV ((if y ≠ 0 then [(Sum.inl (i : Int), V.int y)] else []) ++ rowF (i + 1) ys) _ = if y ≠ 0 then some (V.int y) else none
      by_cases z : y ≠ 0
      · rw [if_pos z, if_pos z]
        exact valV_pos rfl
      · rw [if_neg z, if_neg z, List.nil_append]
        unfold valV
        rw [List.find?_eq_none.mpr]
        · rfl
        · intro p hp
          obtain ⟨j, h1, h2, _⟩ := rowF_key ys (i + 1) p hp
          simp only [decide_eq_true_eq]
          rw [h1]
          intro q
          have q2 : (j : Int) = (i : Int) := Sum.inl.inj q
          omega
    · have h3 : o + 1 ≤ i := by omega
      rw [show i - o = (i - (o + 1)) + 1 by omega, List.getElem?_cons_succ, ← ih h3]
      show valV ((if y ≠ 0 then [(Sum.inl (o : Int), V.int y)] else []) ++ rowF (o + 1) ys) _ = _
      by_cases z : y ≠ 0
      · rw [if_pos z]
        refine valV_neg fun q => e ?_
        have q2 : (o : Int) = (i : Int) := Sum.inl.inj q
        omega
      · rw [if_neg z, List.nil_append]
theorem ip_sum (ys : List Int) : ∀ (xs : List Int) (o : Nat), ((rowF o xs).filterMap (prodN (rowK ys))).sum = ip xs (ys.drop o)
  | [], o => by
    simp [rowF, ip]
  | x :: xs, o => by
    have ih := ip_sum ys xs (o + 1)
    have hv := rowF_val ys 0 o (Nat.zero_le _)
    rw [Nat.sub_zero] at hv
    show (((if x ≠ 0 then [(Sum.inl (o : Int), V.int x)] else []) ++ rowF (o + 1) xs).filterMap (prodN (rowK ys))).sum = _
    rw [List.filterMap_append, List.sum_append, ih]
    cases hy : ys[o]? with
    | none =>
      have hl : ys.length ≤ o := List.getElem?_eq_none_iff.mp hy
      rw [List.drop_eq_nil_of_le hl, List.drop_eq_nil_of_le (by omega)]
      rw [hy] at hv
      by_cases z : x ≠ 0
      · rw [if_pos z]
        simp [prodN, hv, ip]
      · rw [if_neg z]
        simp [ip]
    | some y =>
      have hl : o < ys.length := (List.getElem?_eq_some_iff.mp hy).1
      rw [List.drop_eq_getElem_cons hl, (List.getElem?_eq_some_iff.mp hy).2]
      have e : ip (x :: xs) (y :: ys.drop (o + 1)) = x * y + ip xs (ys.drop (o + 1)) := by
        simp [ip]
      rw [e]
      congr 1
      rw [hy] at hv
      by_cases z : x ≠ 0
      · rw [if_pos z]
        by_cases z2 : y ≠ 0
        · simp [prodN, hv, z2]
        · have z3 : y = 0 := by simpa using z2
          simp [prodN, hv, z3]
      · have z3 : x = 0 := by simpa using z
        simp [z3]
theorem ip_dot (xs ys : List Int) : ((rowK xs).filterMap (prodN (rowK ys))).sum = ip xs ys := ip_sum ys xs 0
theorem rowF_ints : ∀ (xs : List Int) (o : Nat) (p : Key × V), p ∈ rowF o xs → ∃ x ∈ xs, p.2 = .int x
  | [], o, p, h => by simp [rowF] at h
  | y :: ys, o, p, h => by
    rcases List.mem_append.mp (show p ∈ (if y ≠ 0 then [(Sum.inl (o : Int), V.int y)] else []) ++ rowF (o + 1) ys from h) with z | z
    · split at z
      · have e : p = (Sum.inl (o : Int), V.int y) := by simpa using z
        exact ⟨y, List.mem_cons_self .., by rw [e]⟩
      · simp at z
    · obtain ⟨x, h1, h2⟩ := rowF_ints ys (o + 1) p z
      exact ⟨x, List.mem_cons_of_mem _ h1, h2⟩
theorem valV_int {ys : List Int} {i : Nat} {u : V} (h : valV (rowK ys) (Sum.inl (i : Int)) = some u) : ∃ y, u = .int y := by
  rw [rowF_val ys 0 i (Nat.zero_le _)] at h
  split at h
  · split at h
    · cases h
      exact ⟨_, rfl⟩
    · cases h
  · cases h
theorem tlc_i {ta te : TE} {tt : TT} {g : TG} {vs : List Nat} {σ : L2.St} {H : Hp} {Q : VK} {a : Addr} {od : Obj} {kvs : List (Key × V)} (he : Gives ta σ H fun b H1 => a = b ∧ H = H1) (ha : H a = some (.frz od (.dK kvs))) (acc : Nat → List V) (h0 : acc 0 = []) (hn : ∀ i, i ≤ kvs.length → (acc i).length < 100000)
    (turn : ∀ (i : Nat) k v T H', kvs[i]? = some (k, v) → Same H H' → H' T = none → ∀ (Qe : VK) (Qn : Hp → Prop), (∀ y H5, Same H' H5 → acc (i + 1) = acc i ++ [y] → Qe y H5) → (∀ H4, Same H' H4 → acc (i + 1) = acc i → Qn H4) →
      g (.ref T) (wipe σ vs) (upd H' T (.tup [kV k, v])) fun σ2 H3 => wipe σ2 vs = wipe σ vs ∧ tt σ2 H3 fun b H4 => if b = true then te σ2 H4 Qe else Qn H4)
    (hd : ∀ D H', Same H H' → np H H' D = some (.lst (acc kvs.length)) → Q (.ref D) H') : tLc (iItems ta) g tt te vs σ H Q := by
  refine he _ fun b H1 z => ?_
  obtain ⟨rfl, rfl⟩ := z
  refine ⟨a, od, kvs, rfl, ha, lcf acc h0 hn (fun i H' hi s => ⟨s _ _ ha, hi⟩) (fun H' s => ⟨s _ _ ha, Nat.le_refl _⟩) (fun i x H' H2 hi s y Qe Qn => ?_) hd⟩
  obtain ⟨T, k, v, e, rfl, nT, rfl⟩ := y
  exact turn i k v T H' e s nT Qe Qn
theorem kb_pair (K : Fr) {X : Cx} {x y : Str} {p1 p2 pos : Pos} {k i j : Nat} (hc : X.calm = true) (h1 : PG X (.Name x p1) (gName i)) (h2 : PG X (.Name y p2) (gName j)) (hK : X.K = K := by rfl) :
    PG X (.Tuple [.Name x p1, .Name y p2] k pos) (gTup K 2 (gCons (gName i) (gCons (gName j) gNil))) := by
  subst hK
  exact pg_tup hc (pgs_cons h1 (pgs_cons h2 pgs_nil))
section
variable {P : Program} {w : World} {K : Fr} {mg : Str → Option Value} {base : Heap} {A : Ad}
/-- small entries -/
def Sm (xs : List Int) : Prop := xs.length ≤ 100 ∧ ∀ x ∈ xs, -1000 ≤ x ∧ x ≤ 1000
def spDot : Sp := fun vs H Q _ => ∃ (a b : Addr) (xs ys : List Int), vs = [.ref a, .ref b] ∧ H a = some (.dK (rowK xs)) ∧ H b = some (.dK (rowK ys)) ∧ Sm xs ∧ ∀ H', Same H H' → Q (.int (ip xs ys)) H'
theorem df_dot (N : Nms mg) (D : At K mg "dot" s_dot ["one", "other"]) : Df P w K mg base CX0 1 "dot" spDot := by
  refine D.df fun f fd F => F.ok n_dot (fun vs H Q E h => ?_) (fun cdv A' outer s H vs Q E hr h => ?_)
  · obtain ⟨a, b, xs, ys, rfl, _⟩ := h
    rfl
  · obtain ⟨a, b, xs, ys, rfl, ha, hb, sm, q⟩ := h
    refine ⟨_, pss_one <| ps_ret <| kb_sum K rfl N <| pa_cons (pe_lock (pe_lc (own := [("place", 2), ("entry", 3)]) rfl n_dot.nd (pi_items (pv 0)) (blkOk_by (N := ["one", "other", "place", "entry"]) (sc := defScope s_dot) (by decide +kernel))
      (fun _ _ _ _ _ => kb_pair K rfl (pg_name (i := 2) n_dot.nd rfl (Or.inl rfl)) (pg_name (i := 3) n_dot.nd rfl (Or.inl rfl)))
      (fun _ _ _ _ _ => pts_one (pt_cmp (pc_din (hu_of hr) (pv 2) (pv 1)))) (fun _ _ _ _ _ => pe_op op_mul (pv 3) (pe_dget (hu_of hr) (pv 1) (pv 2) (fun _ _ => rfl))))) pa_nil, ?_⟩
    have acl : ∀ i, ((((rowK xs).take i).filterMap (prodK (rowK ys)))).length < 100000 := fun i => by
      have h1 := List.length_filterMap_le (prodK (rowK ys)) ((rowK xs).take i)
      have h2 : ((rowK xs).take i).length ≤ (rowK xs).length := by rw [List.length_take]; omega
      have h3 : (rowK xs).length ≤ xs.length := rowF_len xs 0
      have h4 := sm.1
      show List.length _ < _
      omega
    dsimp only [tRet, tCB, tCons, tNil]
    refine ⟨a, _, ha, trivial, fun od => ?_⟩
    refine tlc_i (gives_pv (by rfl)) upd_same (fun i => ((rowK xs).take i).filterMap (prodK (rowK ys))) rfl (fun i _ => acl i) (fun i k v T H' hi s1 nT Qe Qn ke kn => ?_) (fun D H' s1 hD => ?_)
    · have hm : (k, v) ∈ rowK xs := List.mem_of_getElem? hi
      obtain ⟨j, hj, _, _⟩ := rowF_key xs 0 _ hm
      obtain ⟨x, hx, hv⟩ := rowF_ints xs 0 _ hm
      have hk : k = Sum.inl (j : Int) := hj
      have hv : v = .int x := hv
      subst hk hv
      have st : Same H' (upd H' T (.tup [kV (Sum.inl (j : Int)), .int x])) := same_new nT
      have tk : (rowK xs).take (i + 1) = (rowK xs).take i ++ [(Sum.inl (j : Int), V.int x)] := by
        rw [List.take_add_one, hi]
        rfl
      have rb : ∃ kv, kv = rowK ys ∧ Rd (upd H' T (.tup [kV (Sum.inl (j : Int)), .int x])) b (.dK kv) := by
        refine ⟨_, rfl, ?_⟩
        by_cases z : b = a
        · subst z
          have e : rowK xs = rowK ys := by
            have e1 := ha.symm.trans hb
            injection e1 with e2
            injection e2
          rw [← e]
          exact .inr ⟨od, st _ _ (s1 _ _ upd_same)⟩
        · exact .inl (st _ _ (s1 _ _ (by rw [upd_ne z]; exact hb)))
      obtain ⟨_, rfl, rb⟩ := rb
      refine ⟨T, _, rfl, .of upd_same, rfl, _, _, rfl, _, _, rfl, rfl, rfl, ?_⟩
      refine ⟨_, rfl, _, rfl, b, _, rfl, .inl ⟨_, _, rb, rfl, rfl⟩, _, rfl, ?_⟩
      cases hw : valV (rowK ys) (Sum.inl (j : Int)) with
      | none =>
        refine iteF (kn _ st ?_)
        rw [tk, List.filterMap_append]
        simp [prodK, hw]
      | some u =>
        obtain ⟨y, rfl⟩ := valV_int hw
        refine iteT ⟨_, rfl, _, rfl, _, rfl, b, _, rfl, .inl ⟨_, _, rb, rfl, hw.symm⟩, x, y, rfl, rfl, .inl ?_, ke _ _ st ?_⟩
        · have := sm.2 x hx
          omega
        · rw [tk, List.filterMap_append]
          simp [prodK, hw]
    · refine ⟨s1 _ _ upd_same, ?_⟩
      have hD2 := (np_at hD).2
      have nDa : D ≠ a := ne_some (np_at hD).1 upd_same
      rw [List.take_length, prods] at hD2
      refine ⟨D, (rowK xs).filterMap (prodN (rowK ys)), rfl, .of (by rw [upd_ne nDa]; exact hD2), ?_⟩
      rw [ip_dot]
      exact q _ (same_lock ha s1)
end
end Sq
/-! text SqP -/
namespace Sq
open PySem PySem.Spec PyProof.Rows L2
theorem cut_hi (xs : List V) (k : Nat) : cutV xs none (some (k : Int)) = xs.take k := by
  unfold cutV
  rw [HT.sIx_none, HT.sIx_nat, List.drop_zero, Nat.sub_zero]
  by_cases h : k ≤ xs.length
  · rw [Nat.min_eq_left h]
  · rw [Nat.min_eq_right (by omega), List.take_length, List.take_of_length_le (by omega)]
theorem cut_lo (xs : List V) (k : Nat) : cutV xs (some (k : Int)) none = xs.drop k := by
  unfold cutV
  rw [HT.sIx_none, HT.sIx_nat]
  by_cases h : k ≤ xs.length
  · rw [Nat.min_eq_left h, List.take_of_length_le (by rw [List.length_drop]; omega)]
  · rw [Nat.min_eq_right (by omega), List.drop_length, List.drop_eq_nil_of_le (by omega), List.take_nil]
/-- xs[:k], xs[k:] give a new list -/
theorem gives_hi {K : Fr} {ta tk : TE} {σ : L2.St} {H : Hp} {a : Addr} {xs : List V} {k : Nat} (h1 : ∀ R : VK, R (.ref a) H → ta σ H R) (h2 : ∀ R : VK, R (.int (k : Int)) H → tk σ H R) (hx : SqL K H a xs) :
    Gives (tSl (rSlL K) ta tNoPart (tPart tk)) σ H fun b H1 => H b = none ∧ H1 = upd H b (.lst (xs.take k)) := fun R r => by
  refine h1 _ (h2 _ ⟨(k : Int), rfl, a, xs, rfl, hx, fun p hp => ?_⟩)
  rw [cut_hi]
  exact r p _ ⟨hp, rfl⟩
theorem gives_loT {K : Fr} {ta tk : TE} {σ : L2.St} {H : Hp} {a : Addr} {xs : List V} {k : Nat} (h1 : ∀ R : VK, R (.ref a) H → ta σ H R) (h2 : ∀ R : VK, R (.int (k : Int)) H → tk σ H R) (hx : SqT K H a xs) (h0 : 0 < k) (hl : 0 < xs.length) :
    Gives (tSl (rSlT K) ta (tPart tk) tNoPart) σ H fun b H1 => H b = none ∧ H1 = upd H b (.tup (xs.drop k)) := fun R r => by
  refine h1 _ (h2 _ ⟨(k : Int), rfl, a, xs, rfl, hx, fun z => ?_, fun p hp => ?_⟩)
  · have z1 := z.1
    rw [HT.sIx_nat] at z1
    omega
  · rw [cut_lo]
    exact r p _ ⟨hp, rfl⟩
section
variable {P : Program} {w : World} {K : Fr} {mg : Str → Option Value} {base : Heap} {A : Ad}
/-- each row has length 1 and is square to the earlier ones -/
def Keep1 (t : List (List Int)) : Prop := (∀ x ∈ t, Sm x ∧ ip x x = 1) ∧ ∀ (i j : Nat) x y, j < i → t[i]? = some x → t[j]? = some y → ip x y = 0
def spKs (A : Ad) : Sp := fun vs H Q _ => ∃ (v : V) (t : List (List Int)), vs = [v] ∧ PlainV A H v t ∧ t.length ≤ 100 ∧ Keep1 t ∧ ∀ H', Same H H' → Q (.bl true) H'
theorem outs_false {n : Nat} {H : Hp} {out : List V} (h : Outs (fun _ v _ => v = .bl false) n H out) : out = (List.replicate n false).map V.bl := by
  refine List.ext_getElem? fun i => ?_
  by_cases hi : i < n
  · have e : i < out.length := by rw [h.1]; exact hi
    rw [List.getElem?_eq_getElem e, h.2 i _ (List.getElem?_eq_getElem e)]
    simp [hi]
  · rw [List.getElem?_eq_none (by rw [h.1]; omega), List.getElem?_eq_none (by simp; omega)]
theorem any_rep (n : Nat) : (List.replicate n false).any id = false := by
  simp
theorem df_keeps_size (N : Nms mg) (T : TPlain K mg A) (Dt : Df P w K mg base CX0 1 "dot" spDot) (D : At K mg "keeps_size" s_keeps_size ["plain"]) : Df P w K mg base CX0 3 "keeps_size" (spKs A) := by
  refine D.df fun f fd F => F.ok n_keeps_size (fun vs H Q E h => ?_) (fun cdv A' outer s H vs Q E hr h => ?_)
  · obtain ⟨v, t, rfl, _⟩ := h
    rfl
  · obtain ⟨v, t, rfl, hv, lt, kp, q⟩ := h
    obtain ⟨p0, S0⟩ := T.b
    obtain ⟨p1, S1⟩ := T.r
    refine ⟨_, pss_cons (ps_par (i := 1) (j := 2) rfl n_keeps_size.nd rfl rfl (by decide) rfl rfl (pa_cons (pe_op op_mul (SlX.pe_sl (pv 0)) (SlX.pe_sl (pv 0))) (pa_cons (SlX.pe_sl (pv 0)) pa_nil)) (by rfl))
      <| pss_cons (ps_for PassesOwn.never rfl (pi_enum (by rfl) N.enu (pa_cons (pv 2) pa_nil)) (kb_pair K rfl (pg_name (i := 3) n_keeps_size.nd rfl (.inl rfl)) (pg_name (i := 4) n_keeps_size.nd rfl (.inr rfl)))
        <| pss_one <| ps_if (PW.pt (pw_or (pt_cmp (pc_neI (pe_df Dt hr (by decide) pass0 (pa_cons (pv 4) (pa_cons (pv 4) pa_nil))) (pv 1)))
            (pw_or1 (pt_val (kb_any K rfl N (pa_cons (pe_lc (own := [("other", 5)]) (g := gName 5) (tt := tYes) rfl n_keeps_size.nd (pi_list (pe_slice sl_list (pv 2) po_none (po_some (pv 3)))) (blkOk_by (N := ["plain", "whole", "rows", "at", "row", "other"]) (sc := defScope s_keeps_size) (by decide +kernel))
              (fun _ _ _ _ _ => pg_name (i := 5) n_keeps_size.nd rfl (Or.inl rfl)) (fun _ _ _ _ _ => pts_nil)
              (fun _ _ _ _ _ => pe_cmp (pc_neI (pe_df Dt hr (by decide) pass0 (pa_cons (pv 4) (pa_cons (pv 5) pa_nil))) pe_int))) pa_nil)))))) pss_never pss_nil)
      <| pss_one <| ps_ret pe_bl, ?_⟩
    obtain ⟨x, L, ds, rfl, o, hL, pr⟩ := hv
    obtain ⟨dx, hs⟩ := o.slt
    have lds : ds.length = t.length := pr_len pr
    refine ⟨_, rfl, x, A.plain, dx, p0, _, 0, .int 1, rfl, hs, T.k.sc, S0, rfl, _, rfl, x, A.plain, dx, p0, _, 0, .int 1, rfl, hs, T.k.sc, S0, rfl, 1, 1, rfl, rfl, .inl ⟨by decide, by decide⟩, _, rfl, x, A.plain, dx, p1, _, 1, .ref L, rfl, hs, T.k.sc, S1, rfl, _, _, rfl, ?_⟩
    dsimp only
    refine tfor_eL (gives_pv (by rfl)) ?_
    rintro _ _ ⟨rfl, rfl⟩
    refine ⟨ds, .of hL, fun i σ' H' => Same H H' ∧ ∃ z3 z4 z5, σ' = [some (.ref x), some (.int 1), some (.ref L), z3, z4, z5], ⟨Same.refl _, _, _, _, rfl⟩, ?_, ?_, ?_⟩
    · rintro i _ _ ⟨s, _⟩
      exact .of (s _ _ hL)
    · rintro i y _ H1 Tp hy ⟨s, z3, z4, z5, rfl⟩ hT
      obtain ⟨xs, hxs, a, rfl, ha⟩ := pr_get pr hy
      have sT : Same H1 (upd H1 Tp (.tup [.int (i : Nat), .ref a])) := same_new hT
      have ha1 := (s.trans sT) _ _ ha
      obtain ⟨smx, one⟩ := kp.1 xs (List.mem_of_getElem? hxs)
      refine ⟨Tp, _, rfl, .of upd_same, rfl, _, _, rfl, _, _, rfl, rfl, ?_⟩
      refine ⟨_, rfl, _, rfl, a, a, xs, xs, rfl, ha1, ha1, smx, fun H2 s2 => ?_⟩
      refine ⟨_, rfl, _, _, rfl, rfl, false, by rw [one]; rfl, iteF ?_⟩
      dsimp only [tB, tCB, tCons, tNil]
      refine tlc_l (fun _ v _ => v = .bl false) bmono (gives_hi (xs := ds) (k := i) (fun R r => ⟨_, rfl, r⟩) (fun R r => ⟨_, rfl, r⟩) (.of (s2 _ _ (sT _ _ (s _ _ hL))))) (by intro x; rfl) ?_
      rintro b _ ⟨nb, rfl⟩
      have sb : Same H2 (upd H2 b (.lst (ds.take i))) := same_new nb
      refine ⟨ds.take i, .of upd_same, by rw [List.length_take]; omega, fun j y H3 hj s3 Qe k => ?_, fun D H3 out s3 hD ho => ?_⟩
      · have hji : j < i := by
          have := (List.getElem?_eq_some_iff.mp hj).1
          rw [List.length_take] at this
          omega
        rw [List.getElem?_take_of_lt hji] at hj
        obtain ⟨ys, hys, a2, rfl, ha2⟩ := pr_get pr hj
        have st := ((s.trans sT).trans s2).trans (sb.trans s3)
        refine ⟨_, rfl, _, rfl, a, a2, xs, ys, rfl, st _ _ ha, st _ _ ha2, smx, fun H4 s4 => ?_⟩
        refine ⟨_, _, rfl, rfl, k _ _ s4 ?_⟩
        rw [kp.2 i j xs ys hji hxs hys]
        rfl
      · have hf := outs_false ho
        subst hf
        refine ⟨D, _, rfl, .of (np_at hD).2, _, rfl, ?_⟩
        rw [any_rep]
        exact iteF ⟨((s.trans sT).trans s2).trans (sb.trans s3), _, _, _, rfl⟩
    · rintro _ H1 ⟨s, z3, z4, z5, rfl⟩
      exact q H1 s
end
end Sq
/-! text SqQ -/
namespace Sq
open PySem PySem.Spec PyProof.Rows L2
theorem tlc_lg {K : Fr} {ta te : TE} {g : TG} {vs : List Nat} {σ : L2.St} {H : Hp} {Q : VK} {G : Addr → Hp → Prop} (R : Hp → V → Nat → Prop) (mono : ∀ H H' v i, Same H H' → R H v i → R H' v i) (he : Gives ta σ H G)
    (body : ∀ a H1, G a H1 → ∃ xs, SqL K H1 a xs ∧ xs.length ≤ 100000 ∧
      (∀ (i : Nat) x H', xs[i]? = some x → Same H1 H' → ∀ Qe : VK, (∀ v H4, Same H' H4 → R (np H' H4) v i → Qe v H4) → g x (wipe σ vs) H' fun σ2 H3 => wipe σ2 vs = wipe σ vs ∧ te σ2 H3 Qe) ∧
      (∀ D H' out, Same H1 H' → np H1 H' D = some (.lst out) → Outs R xs.length (np H1 H') out → Q (.ref D) H')) : tLc (iList K ta) g tYes te vs σ H Q := by
  refine he _ fun a H1 g1 => ?_
  obtain ⟨xs, hx, hn, turn, hd⟩ := body a H1 g1
  refine ⟨a, rfl, ⟨xs, hx⟩, lcs R mono hn (fun i H' hi s => ⟨xs, xs[i], s.seq hx, List.getElem?_eq_getElem hi⟩) (fun H' s => ⟨xs, s.seq hx, Nat.le_refl _⟩) (fun i x H' H2 hi s y Qe k => ?_) hd⟩
  obtain ⟨rfl, f⟩ := y
  exact turn i x _ (f xs (s.seq hx)) s Qe k
section
variable {P : Program} {w : World} {K : Fr} {mg : Str → Option Value} {base : Heap} {A : Ad}
def KeepA (s t : List (List Int)) : Prop := (∀ x ∈ s, Sm x) ∧ (∀ x ∈ t, Sm x) ∧ ∀ (i j : Nat) x x' y y', j ≤ i → s[i]? = some x → t[i]? = some x' → s[j]? = some y → t[j]? = some y' → ip x y' + ip x' y = 0
def spKa (A : Ad) : Sp := fun vs H Q _ => ∃ (u v : V) (s t : List (List Int)), vs = [u, v] ∧ PlainV A H u s ∧ PlainV A H v t ∧ s.length = t.length ∧ 0 < s.length ∧ s.length ≤ 100 ∧ KeepA s t ∧ ∀ H', Same H H' → Q (.bl true) H'
theorem df_keeps_apart (N : Nms mg) (T : TPlain K mg A) (Dt : Df P w K mg base CX0 1 "dot" spDot) (D : At K mg "keeps_apart" s_keeps_apart ["one", "other"]) : Df P w K mg base CX0 3 "keeps_apart" (spKa A) := by
  refine D.df fun f fd F => F.ok n_keeps_apart (fun vs H Q E h => ?_) (fun cdv A' outer s0 H vs Q E hr h => ?_)
  · obtain ⟨u, v, s, t, rfl, _⟩ := h
    rfl
  · obtain ⟨u, v, s, t, rfl, hu, hv, ls, l0, l1, kp, q⟩ := h
    obtain ⟨p1, S1⟩ := T.r
    refine ⟨_, pss_cons (ps_set (i := 2) n_keeps_apart.nd rfl (.inl rfl) (pe_listZip rfl N.lst N.zip_ (pa_cons (SlX.pe_sl (pv 0)) (pa_cons (SlX.pe_sl (pv 1)) pa_nil))))
      <| pss_cons (ps_for PassesOwn.never rfl (pi_enum (by rfl) N.enu (pa_cons (pv 2) pa_nil)) (pg_tup rfl (pgs_cons (pg_name (i := 3) n_keeps_apart.nd rfl (.inl rfl)) (pgs_cons (kb_pair K rfl (pg_name (i := 4) n_keeps_apart.nd rfl (.inr rfl)) (pg_name (i := 5) n_keeps_apart.nd rfl (.inr rfl))) pgs_nil)))
        <| pss_one <| ps_if (pt_val (kb_any K rfl N (pa_cons (pe_lc (own := [("less", 6), ("more", 7)]) (tt := tYes) rfl n_keeps_apart.nd (pi_list (pe_slice sl_list (pv 2) po_none (po_some (pe_op op_add (pv 3) pe_int)))) (blkOk_by (N := ["one", "other", "pairs", "at", "first", "second", "less", "more"]) (sc := defScope s_keeps_apart) (by decide +kernel))
              (fun _ _ _ _ _ => kb_pair K rfl (pg_name (i := 6) n_keeps_apart.nd rfl (Or.inl rfl)) (pg_name (i := 7) n_keeps_apart.nd rfl (Or.inl rfl))) (fun _ _ _ _ _ => pts_nil)
              (fun _ _ _ _ _ => pe_cmp (pc_neI (pe_op op_add (pe_df Dt hr (by decide) pass0 (pa_cons (pv 4) (pa_cons (pv 7) pa_nil))) (pe_df Dt hr (by decide) pass0 (pa_cons (pv 5) (pa_cons (pv 6) pa_nil)))) pe_int))) pa_nil))) pss_never pss_nil)
      <| pss_one <| ps_ret pe_bl, ?_⟩
    obtain ⟨x, L, ds, rfl, o, hL, pr⟩ := hu
    obtain ⟨x2, L2, ds2, rfl, o2, hL2, pr2⟩ := hv
    obtain ⟨dx, hs⟩ := o.slt
    obtain ⟨dx2, hs2⟩ := o2.slt
    have lds : ds.length = s.length := pr_len pr
    have lds2 : ds2.length = t.length := pr_len pr2
    refine ⟨_, rfl, x, A.plain, dx, p1, _, 1, .ref L, rfl, hs, T.k.sc, S1, rfl, _, rfl, x2, A.plain, dx2, p1, _, 1, .ref L2, rfl, hs2, T.k.sc, S1, rfl, ?_⟩
    refine ⟨L, L2, ds, ds2, rfl, .of hL, .of hL2, by omega, by omega, by omega, fun D hD => ?_⟩
    dsimp only [gName]
    have s1 : Same H (zpH H D (ds.zip ds2)) := zpH_same hD
    have lz : (ds.zip ds2).length = s.length := by
      rw [List.length_zip]
      omega
    have pairAt : ∀ i : Nat, i < s.length → ∃ x x' a a', s[i]? = some x ∧ t[i]? = some x' ∧ H a = some (.dK (rowK x)) ∧ H a' = some (.dK (rowK x')) ∧ zpH H D (ds.zip ds2) (D + 1 + i) = some (.tup [.ref a, .ref a']) := fun i hi => by
      obtain ⟨d, hd⟩ : ∃ d, ds[i]? = some d := ⟨ds[i]'(by omega), List.getElem?_eq_getElem (by omega)⟩
      obtain ⟨d2, hd2⟩ : ∃ d, ds2[i]? = some d := ⟨ds2[i]'(by omega), List.getElem?_eq_getElem (by omega)⟩
      obtain ⟨x, h1, a, rfl, ha⟩ := pr_get pr hd
      obtain ⟨x', h2, a', rfl, ha'⟩ := pr_get pr2 hd2
      exact ⟨x, x', a, a', h1, h2, ha, ha', zpH_pair (p := (.ref a, .ref a')) (List.getElem?_zip_eq_some.mpr ⟨hd, hd2⟩)⟩
    have hlst := zpH_at (H := H) (D := D) (ps := ds.zip ds2)
    refine tfor_eL (gives_pv (by rfl)) ?_
    rintro _ _ ⟨rfl, rfl⟩
    refine ⟨_, .of hlst, fun i σ' H' => Same (zpH H D (ds.zip ds2)) H' ∧ ∃ z3 z4 z5 z6 z7, σ' = [some (.ref x), some (.ref x2), some (.ref D), z3, z4, z5, z6, z7], ⟨Same.refl _, _, _, _, _, _, rfl⟩, ?_, ?_, ?_⟩
    · rintro i _ _ ⟨s2, _⟩
      exact .of (s2 _ _ hlst)
    · rintro i y _ H1 Tp hy ⟨s2, z3, z4, z5, z6, z7, rfl⟩ hT
      have hi : i < s.length := by
        have := (List.getElem?_eq_some_iff.mp hy).1
        rw [List.length_map, List.length_range] at this
        omega
      have ey : y = .ref (D + 1 + i) := by
        rw [List.getElem?_map, List.getElem?_range (by omega)] at hy
        exact (Option.some.inj hy).symm
      subst ey
      obtain ⟨xi, xi', a, a', hx1, hx2, ha, ha', hp⟩ := pairAt i hi
      have sT : Same H1 (upd H1 Tp (.tup [.int (i : Nat), .ref (D + 1 + i)])) := same_new hT
      have hp1 := (s2.trans sT) _ _ hp
      refine ⟨Tp, _, rfl, .of upd_same, rfl, _, _, rfl, _, _, rfl, ⟨_, _, rfl, .of hp1, rfl, _, _, rfl, _, _, rfl, rfl, rfl, ?_⟩⟩
      dsimp only [tIfS, tB, tCB, tCons, tNil]
      have hl2 := (s2.trans sT) _ _ hlst
      refine tlc_lg (fun _ v _ => v = .bl false) bmono (gives_hi (k := i + 1) (fun R r => ⟨_, rfl, r⟩) (fun R r => ⟨_, rfl, _, _, rfl, rfl, r⟩) (.of hl2)) ?_
      rintro b _ ⟨nb, rfl⟩
      have sb := same_new (o := .lst (((List.range (ds.zip ds2).length).map fun i => V.ref (D + 1 + i)).take (i + 1))) nb
      refine ⟨_, .of upd_same, by rw [List.length_take, List.length_map, List.length_range]; omega, fun j y H3 hj s3 Qe k => ?_, fun D2 H3 out s3 hD2 ho => ?_⟩
      · have hji : j < i + 1 := by
          have := (List.getElem?_eq_some_iff.mp hj).1
          rw [List.length_take] at this
          omega
        rw [List.getElem?_take_of_lt hji, List.getElem?_map, List.getElem?_range (by omega)] at hj
        have ey : y = .ref (D + 1 + j) := (Option.some.inj hj).symm
        subst ey
        obtain ⟨yj, yj', c, c', hy1, hy2, hc, hc', hpj⟩ := pairAt j (by omega)
        have st := ((s2.trans sT).trans sb).trans s3
        refine ⟨_, _, rfl, .of (st _ _ hpj), rfl, _, _, rfl, _, _, rfl, rfl, rfl, ?_⟩
        have st2 := s1.trans st
        refine ⟨_, rfl, _, rfl, a, c', xi, yj', rfl, st2 _ _ ha, st2 _ _ hc', kp.1 xi (List.mem_of_getElem? hx1), fun H4 s4 => ?_⟩
        refine ⟨_, rfl, _, rfl, a', c, xi', yj, rfl, (st2.trans s4) _ _ ha', (st2.trans s4) _ _ hc, kp.2.1 xi' (List.mem_of_getElem? hx2), fun H5 s5 => ?_⟩
        refine ⟨_, _, rfl, rfl, _, _, rfl, rfl, k _ _ (s4.trans s5) ?_⟩
        have e := kp.2.2 i j xi xi' yj yj' (by omega) hx1 hx2 hy1 hy2
        rw [e]
        rfl
      · have hf := outs_false ho
        subst hf
        refine ⟨D2, _, rfl, .of (np_at hD2).2, _, rfl, ?_⟩
        rw [any_rep]
        exact iteF ⟨((s2.trans sT).trans sb).trans s3, _, _, _, _, _, rfl⟩
    · rintro _ H1 ⟨s2, _⟩
      exact q H1 (s1.trans s2)
end
end Sq
/-! text SqS -/
namespace Sq
open PySem PySem.Spec PyProof.Rows L2
section
variable {P : Program} {w : World} {K : Fr} {mg : Str → Option Value} {base : Heap} {A : Ad}
/-! ### least_broken -/
/-- the tables keep the rules -/
def KeepAll (ts : List (List (List Int))) : Prop := (∀ t ∈ ts, Keep1 t) ∧ ∀ (i j : Nat) s t, i < j → ts[i]? = some s → ts[j]? = some t → KeepA s t
def spLb (A : Ad) : Sp := fun vs H Q _ => ∃ (v : V) (ts : List (List (List Int))) (r : Nat), vs = [v] ∧ Li (PlainV A) H v ts ∧ ts.length ≤ 100 ∧ 0 < r ∧ r ≤ 100 ∧ (∀ t ∈ ts, t.length = r) ∧ KeepAll ts ∧ ∀ H', Same H H' → Q .non H'
theorem df_least_broken (N : Nms mg) (Ks : Df P w K mg base CX0 3 "keeps_size" (spKs A)) (Ka : Df P w K mg base CX0 3 "keeps_apart" (spKa A)) (D : At K mg "least_broken" s_least_broken ["plains"]) : Df P w K mg base CX0 5 "least_broken" (spLb A) := by
  refine D.df fun f fd F => F.ok n_least_broken (fun vs H Q E h => ?_) (fun cdv A' outer s0 H vs Q E hr h => ?_)
  · obtain ⟨v, ts, r, rfl, _⟩ := h
    rfl
  · obtain ⟨v, ts, r, rfl, hv, lt, r0, r1, hrr, kp, q⟩ := h
    refine ⟨_, pss_cons (ps_for PassesOwn.never rfl (pi_enum (by rfl) N.enu (pa_cons (pv 0) pa_nil)) (kb_pair K rfl (pg_name (i := 1) n_least_broken.nd rfl (.inl rfl)) (pg_name (i := 2) n_least_broken.nd rfl (.inl rfl)))
        <| pss_one <| ps_for PassesOwn.never rfl (pi_range2 (by rfl) N.rng (pa_cons (pv 1) (pa_cons (kb_len K N (pa_cons (pv 0) pa_nil)) pa_nil))) (pg_name (i := 3) n_least_broken.nd rfl (.inl rfl))
          <| pss_cons (ps_set (i := 4) n_least_broken.nd rfl (.inl rfl) (pe_ifExp (pt_cmp (pc_eqI (pv 3) (pv 1))) (pe_df Ks hr (by decide) pass0 (pa_cons (pv 2) pa_nil)) (pe_df Ka hr (by decide) pass0 (pa_cons (pv 2) (pa_cons (pe_ix ix_list (pv 0) (pv 3) (fun _ _ => rfl)) pa_nil)))))
          <| pss_one <| ps_if (pt_not (pt_val (pv 4))) pss_never pss_nil)
      <| pss_one <| ps_ret pe_non, ?_⟩
    obtain ⟨L, ds, rfl, hL, pr⟩ := hv
    have lds : ds.length = ts.length := pr_len pr
    dsimp only [tSeq]
    refine tfor_eL (gives_pv (by rfl)) ?_
    rintro _ _ ⟨rfl, rfl⟩
    refine ⟨ds, .of hL, fun i σ' H' => Same H H' ∧ ∃ z1 z2 z3 z4, σ' = [some (.ref L), z1, z2, z3, z4], ⟨Same.refl _, _, _, _, _, rfl⟩, ?_, ?_, ?_⟩
    · rintro i _ _ ⟨s, _⟩
      exact .of (s _ _ hL)
    · rintro i y _ H1 Tp hy ⟨s, z1, z2, z3, z4, rfl⟩ hT
      obtain ⟨t, ht, hpt⟩ := pr_get pr hy
      have hi : i < ds.length := (List.getElem?_eq_some_iff.mp hy).1
      have sT : Same H1 (upd H1 Tp (.tup [.int (i : Nat), y])) := same_new hT
      have s1 := s.trans sT
      refine ⟨Tp, _, rfl, .of upd_same, rfl, _, _, rfl, _, _, rfl, rfl, ?_⟩
      dsimp only [gName]
      refine tfor_r2 (lo := i) (n := ds.length - i) (fun S r => ⟨_, rfl, _, rfl, _, _, rfl, len_lst (s1 _ _ hL), r⟩) (by omega) (by omega) (fun k σ' H' => Same H H' ∧ ∃ z3 z4, σ' = [some (.ref L), some (.int (i : Nat)), some y, z3, z4]) ⟨s1, _, _, rfl⟩ ?_ ?_
      · rintro k _ H2 hk ⟨s2, z3', z4', rfl⟩
        by_cases hk0 : k = 0
        · subst hk0
          refine ⟨_, rfl, _, rfl, _, _, rfl, rfl, true, by rw [Nat.add_zero]; exact congrArg V.bl (decide_eq_true rfl), iteT ?_⟩
          refine ⟨_, rfl, y, t, rfl, PlainV.mo _ _ _ _ s2 hpt, ?_, kp.1 t (List.mem_of_getElem? ht), fun H3 s3 => ?_⟩
          · rw [hrr t (List.mem_of_getElem? ht)]
            exact r1
          · exact ⟨_, rfl, true, rfl, iteF ⟨s2.trans s3, _, _, rfl⟩⟩
        · refine ⟨_, rfl, _, rfl, _, _, rfl, rfl, false, congrArg V.bl (decide_eq_false (by omega)), iteF ?_⟩
          obtain ⟨y2, hy2⟩ : ∃ y2, ds[i + k]? = some y2 := ⟨ds[i + k]'(by omega), List.getElem?_eq_getElem (by omega)⟩
          obtain ⟨t2, ht2, hpt2⟩ := pr_get pr hy2
          have m1 := hrr t (List.mem_of_getElem? ht)
          have m2 := hrr t2 (List.mem_of_getElem? ht2)
          refine ⟨_, rfl, _, rfl, _, rfl, L, ds, _, y2, rfl, rfl, .of (s2 _ _ hL), atI_n hy2, y, y2, t, t2, rfl, PlainV.mo _ _ _ _ s2 hpt, PlainV.mo _ _ _ _ s2 hpt2, by omega, by omega, by omega, kp.2 i (i + k) t t2 (by omega) ht ht2, fun H3 s3 => ?_⟩
          exact ⟨_, rfl, true, rfl, iteF ⟨s2.trans s3, _, _, rfl⟩⟩
      · rintro _ H2 ⟨s2, z3', z4', rfl⟩
        exact ⟨s2, _, _, _, _, rfl⟩
    · rintro _ H1 ⟨s, _⟩
      exact q H1 s
/-! ### are_tables, is_formula -/
/-- n tables of r rows of c -/
def Cube (n r c : Nat) (ts : List (List (List Int))) : Prop := ts.length = n ∧ ∀ t ∈ ts, Side r c t
def Ok32 (n : Nat) : Prop := 1 ≤ n ∧ n ≤ 32
def spTabs (A : Ad) : Sp := fun vs H Q _ => ∃ (v : V) (n r c : Nat) (ts : List (List (List Int))), vs = [v] ∧ TabsV A H v ts ∧ Cube n r c ts ∧ Ok32 n ∧ Ok32 r ∧ Ok32 c ∧ ∀ H', Same H H' → Q (.bl true) H'
theorem df_are_tables (N : Nms mg) (It : Df P w K mg base CX0 2 "is_table" (spEven A)) (D : At K mg "are_tables" s_are_tables ["value"]) : Df P w K mg base CX0 3 "are_tables" (spTabs A) := by
  refine D.df fun f fd F => F.ok n_are_tables (fun vs H Q E h => ?_) (fun cdv A' outer s0 H vs Q E hr h => ?_)
  · obtain ⟨v, n, r, c, ts, rfl, _⟩ := h
    rfl
  · obtain ⟨v, n, r, c, ts, rfl, hv, cu, ok1, ok2, ok3, q⟩ := h
    obtain ⟨tm, hsf⟩ := N.sf
    refine ⟨_, pss_cons (ps_if (PW.pt (pw_or (pt_not (pt_val (kb_isiTup K N (pv 0)))) (pw_or (pt_not (pt_chain op_le op_le pe_int (kb_len K N (pa_cons (pv 0) pa_nil)) (pe_gi hsf)))
          (pw_or1 (pt_not (pt_val (kb_all K rfl N (pa_cons (pe_lc (own := [("table", 1)]) (g := gName 1) (tt := tYes) rfl n_are_tables.nd (pi_tup (pv 0)) (blkOk_by (N := ["value", "table", "rows", "columns"]) (sc := defScope s_are_tables) (by decide +kernel))
            (fun _ _ _ _ _ => pg_name (i := 1) n_are_tables.nd rfl (Or.inl rfl)) (fun _ _ _ _ _ => pts_nil) (fun _ _ _ _ _ => pe_df It hr (by decide) pass0 (pa_cons (pv 1) pa_nil))) pa_nil)))))))) pss_never pss_nil)
      <| pss_cons (ps_asg (pe_tup (pa_cons (kb_len K N (pa_cons (kb_ixT K (pv 0)) pa_nil)) (pa_cons (kb_len K N (pa_cons (kb_ixT K (kb_ixT K (pv 0))) pa_nil)) pa_nil))) (kb_pair K rfl (pg_name (i := 2) n_are_tables.nd rfl (.inr rfl)) (pg_name (i := 3) n_are_tables.nd rfl (.inr rfl))))
      <| pss_one <| ps_ret (kb_all K rfl N (pa_cons (pe_lc (own := [("table", 1)]) (g := gName 1) (tt := tYes) rfl n_are_tables.nd (pi_tup (pv 0)) (blkOk_by (N := ["value", "table", "rows", "columns"]) (sc := defScope s_are_tables) (by decide +kernel))
            (fun _ _ _ _ _ => pg_name (i := 1) n_are_tables.nd rfl (Or.inl rfl)) (fun _ _ _ _ _ => pts_nil)
            (fun _ _ _ _ _ => pe_and (pe_cmp (pc_eqI (kb_len K N (pa_cons (pv 1) pa_nil)) (pv 2))) (pe_one (pe_cmp (pc_eqI (kb_len K N (pa_cons (kb_ixT K (pv 1)) pa_nil)) (pv 3)))))) pa_nil)), ?_⟩
    obtain ⟨a, us, rfl, ha, pr⟩ := hv
    have lu : us.length = n := (pr_len pr).trans cu.1
    obtain ⟨n1, n32⟩ := ok1
    have tabAt : ∀ (i : Nat) (u : V), us[i]? = some u → ∃ p vs, u = .ref p ∧ H p = some (.tup vs) ∧ vs.length = r ∧ (∃ t, TabV A H u t ∧ Side r c t) ∧ ∃ p0 vs0, vs[0]? = some (.ref p0) ∧ H p0 = some (.tup vs0) ∧ vs0.length = c := fun i u e => by
      obtain ⟨t, e2, ht⟩ := pr_get pr e
      have sd := cu.2 t (List.mem_of_getElem? e2)
      obtain ⟨p, vs, rfl, hp, prt⟩ := id ht
      have lv : vs.length = r := (pr_len prt).trans sd.1
      have h0 : 0 < vs.length := by have := ok2.1; omega
      obtain ⟨xs, e3, p0, vs0, e4, hp0, pr0⟩ := pr_get prt (List.getElem?_eq_getElem h0)
      exact ⟨p, vs, rfl, hp, lv, ⟨t, ht, sd⟩, p0, vs0, (List.getElem?_eq_getElem h0).trans (congrArg some e4), hp0, (pr_len pr0).trans (sd.2 xs (List.mem_of_getElem? e3))⟩
    obtain ⟨u0, e0⟩ : ∃ u, us[0]? = some u := ⟨us[0]'(by omega), List.getElem?_eq_getElem (by omega)⟩
    refine ⟨_, rfl, _, _, _, _, true, rfl, .ty _, .base (.tup ha), kit_tup_tup, true, rfl, iteF ?_⟩
    refine ⟨_, rfl, _, _, rfl, len_tup ha, 1, _, rfl, rfl, true, congrArg V.bl (decide_eq_true (by omega)), iteT ⟨_, _, rfl, rfl, true, congrArg V.bl (decide_eq_true (by omega)), iteF ?_⟩⟩
    dsimp only [tNot, tB, tCB, tCons, tNil]
    refine tlc_t (fun _ v _ => v = .bl true) bmono (gives_pv (by rfl)) (by intro x; rfl) ?_
    rintro _ _ ⟨rfl, rfl⟩
    refine ⟨us, .of ha, by omega, fun i x H1 hx s1 Qe k => ?_, fun D H1 out s1 hD ho => ?_⟩
    · obtain ⟨p, vs, rfl, hp, lv, ⟨t, ht, sd⟩, _⟩ := tabAt i x hx
      exact ⟨_, rfl, _, r, c, t, rfl, (Tu.mo (Tu.mo RatV.mo)) _ _ _ _ s1 ht, sd, ok2.1, ok2.2, ok3.1, ok3.2, fun H2 s2 => k _ _ s2 rfl⟩
    · have hf := outs_true ho
      subst hf
      refine ⟨D, _, rfl, .of (np_at hD).2, true, congrArg V.bl (all_rep _), iteF ?_⟩
      obtain ⟨p, vs, rfl, hp, lv, _, p0, vs0, ep0, hp0, lv0⟩ := tabAt 0 u0 e0
      have ha1 := s1 _ _ ha
      refine ⟨_, rfl, a, us, 0, _, rfl, rfl, .of ha1, atI_z e0, _, _, rfl, len_tup (s1 _ _ hp), _, rfl, a, us, 0, _, rfl, rfl, .of ha1, atI_z e0, p, vs, 0, _, rfl, rfl, .of (s1 _ _ hp), atI_z ep0, _, _, rfl, len_tup (s1 _ _ hp0), by show 2 ≤ sizeLine; decide, fun T hT => ?_⟩
      have sT : Same H1 (upd H1 T (.tup [.int (vs.length : Int), .int (vs0.length : Int)])) := same_new hT
      refine ⟨T, _, rfl, .of upd_same, rfl, _, _, rfl, _, _, rfl, rfl, ?_⟩
      dsimp only [tRet, tCB, tCons, tNil]
      refine tlc_t (fun _ v _ => v = .bl true) bmono (gives_pv (by rfl)) (by intro x; rfl) ?_
      rintro _ _ ⟨rfl, rfl⟩
      refine ⟨us, .of (sT _ _ ha1), by omega, fun i x H2 hx s2 Qe k => ?_, fun D2 H2 out s2 hD2 ho2 => ?_⟩
      · obtain ⟨p', vs', rfl, hp', lv', _, p0', vs0', ep0', hp0', lv0'⟩ := tabAt i x hx
        have st := (s1.trans sT).trans s2
        refine ⟨_, rfl, _, _, rfl, len_tup (st _ _ hp'), _, rfl, _, _, rfl, rfl, true, congrArg V.bl (decide_eq_true (by rw [lv, lv'])), iteT ?_⟩
        exact ⟨_, rfl, p', vs', 0, _, rfl, rfl, .of (st _ _ hp'), atI_z ep0', _, _, rfl, len_tup (st _ _ hp0'), _, rfl, _, _, rfl, rfl, k _ _ (Same.refl _) (congrArg V.bl (decide_eq_true (by rw [lv0, lv0'])))⟩
      · have hf := outs_true ho2
        subst hf
        refine ⟨D2, _, rfl, .of (np_at hD2).2, ?_⟩
        rw [all_rep]
        exact q H2 ((s1.trans sT).trans s2)
end
end Sq
/-! text SqT -/
namespace Sq
open PySem PySem.Spec PyProof.Rows L2
/-! ### old things and what is new -/
def ov (H N : Hp) : Hp := fun b => match H b with
  | some o => some o
  | none => N b
theorem ov_old {H N : Hp} : Same H (ov H N) := fun b o e => by
  unfold ov
  rw [e]
theorem ov_new {H N : Hp} {b : Addr} (h : H b = none) : ov H N b = N b := by
  unfold ov
  rw [h]
theorem ov_same {H N N' : Hp} (s : Same N N') : Same (ov H N) (ov H N') := fun b o e => by
  cases h : H b with
  | some u =>
    rw [ov_old b u h] at e ⊢
    exact e
  | none =>
    rw [ov_new h] at e ⊢
    exact s b o e
theorem ov_full {H H' : Hp} (s : Same H H') : ov H (np H H') = H' := by
  funext b
  cases h : H b with
  | some u => rw [ov_old b u h, s b u h]
  | none => rw [ov_new h, np_none h]
theorem omono {R : Hp → V → Nat → Prop} {H0 : Hp} (mono : ∀ H H' v i, Same H H' → R H v i → R H' v i) : ∀ H H' v i, Same H H' → (fun N v i => R (ov H0 N) v i) H v i → (fun N v i => R (ov H0 N) v i) H' v i := fun _ _ _ _ s h => mono _ _ _ _ (ov_same s) h
/-- the turns' things are those of a list -/
def Of {α : Type} (R : Rl α) (ts : List α) : Hp → V → Nat → Prop := fun H v i => ∃ t, ts[i]? = some t ∧ R H v t
theorem Of.mo {α : Type} {R : Rl α} {ts : List α} (m : Mo R) : ∀ H H' v i, Same H H' → Of R ts H v i → Of R ts H' v i := fun H H' v i s h => by
  obtain ⟨t, e, r⟩ := h
  exact ⟨t, e, m _ _ _ _ s r⟩
theorem outs_of {α : Type} {R : Rl α} {ts : List α} {n : Nat} {H : Hp} {out : List V} (h : Outs (Of R ts) n H out) (hn : n = ts.length) : Paired (R H) out ts := by
  refine pr_of (h.1.trans hn) fun i a b e1 e2 => ?_
  obtain ⟨t, e3, r⟩ := h.2 i a e1
  rw [e2] at e3
  cases e3
  exact r
section
variable {P : Program} {w : World} {K : Fr} {mg : Str → Option Value} {base : Heap} {A : Ad}
/-! ### is_formula -/
def SmAll (ts : List (List (List Int))) : Prop := ∀ t ∈ ts, ∀ x ∈ t, Sm x
theorem plains_ok {ts : List (List (List Int))} {n r c : Nat} (cu : Cube n r c ts) (o1 : Ok32 r) (o2 : Ok32 c) : ∀ t ∈ ts, t.length ≤ 100 ∧ ∀ x ∈ t, x.length ≤ 100 := fun t h => by
  have sd := cu.2 t h
  refine ⟨by rw [sd.1]; have := o1.2; omega, fun x hx => ?_⟩
  rw [sd.2 x hx]
  have := o2.2
  omega
def spIf (A : Ad) : Sp := fun vs H Q _ => ∃ (v : V) (n r c : Nat) (ts : List (List (List Int))), vs = [v] ∧ TabsV A H v ts ∧ Cube n r c ts ∧ Ok32 n ∧ Ok32 r ∧ Ok32 c ∧ KeepAll ts ∧ ∀ H', Same H H' → Q (.bl true) H'
theorem df_is_formula (N : Nms mg) (At_ : Df P w K mg base CX0 3 "are_tables" (spTabs A)) (Pl : Dc P w K mg base 4 "Plain" (spPlain A)) (Lb : Df P w K mg base CX0 5 "least_broken" (spLb A)) (D : At K mg "is_formula" s_is_formula ["value"]) : Df P w K mg base CX0 6 "is_formula" (spIf A) := by
  refine D.df fun f fd F => F.ok n_is_formula (fun vs H Q E h => ?_) (fun cdv A' outer s0 H vs Q E hr h => ?_)
  · obtain ⟨v, n, r, c, ts, rfl, _⟩ := h
    rfl
  · obtain ⟨v, n, r, c, ts, rfl, hv, cu, ok1, ok2, ok3, kp, q⟩ := h
    refine ⟨_, pss_one <| ps_ret <| pe_and (pe_df At_ hr (by decide) pass0 (pa_cons (pv 0) pa_nil)) <| pe_one <| pe_cmp <| pc_isN <| pe_df Lb hr (by decide) pass0 <| pa_cons
      (pe_lc (own := [("table", 1)]) (g := gName 1) (tt := tYes) rfl n_is_formula.nd (pi_tup (pv 0)) (blkOk_by (N := ["value", "table"]) (sc := defScope s_is_formula) (by decide +kernel))
            (fun _ _ _ _ _ => pg_name (i := 1) n_is_formula.nd rfl (Or.inl rfl)) (fun _ _ _ _ _ => pts_nil) (fun _ _ _ _ _ => pe_dc Pl hr (by decide) (pa_cons (pv 1) pa_nil))) pa_nil, ?_⟩
    refine ⟨_, rfl, v, n, r, c, ts, rfl, hv, cu, ok1, ok2, ok3, fun H1 s1 => ⟨true, rfl, iteT ?_⟩⟩
    obtain ⟨a, us, rfl, ha, pr⟩ := hv
    have lu : us.length = ts.length := pr_len pr
    have lts := cu.1
    have l32 := ok1.2
    dsimp only [tIsN, tDf, tCons, tNil]
    refine tlc_t (Of (PlainV A) ts) (Of.mo PlainV.mo) (gives_pv (by rfl)) (by intro x; rfl) ?_
    rintro _ _ ⟨rfl, rfl⟩
    refine ⟨us, .of (s1 _ _ ha), by omega, fun i x H2 hx s2 Qe k => ?_, fun D2 H2 out s2 hD ho => ?_⟩
    · obtain ⟨t, ht, hx2⟩ := pr_get pr hx
      have hm := plains_ok cu ok2 ok3 t (List.mem_of_getElem? ht)
      exact ⟨_, rfl, x, t, rfl, (Tu.mo (Tu.mo RatV.mo)) _ _ _ _ (s1.trans s2) hx2, hm.1, hm.2, fun p H3 s3 hp => k _ _ s3 ⟨t, ht, hp⟩⟩
    · refine ⟨_, ts, r, rfl, ⟨D2, out, rfl, (np_at hD).2, Paired.mapP (outs_of ho lu) fun a b h => PlainV.mo _ _ _ _ np_same h⟩, by omega, by have := ok2.1; omega, by have := ok2.2; omega, fun t ht => (cu.2 t ht).1, kp, fun H3 s3 => ?_⟩
      exact q H3 ((s1.trans s2).trans s3)
end
end Sq
/-! text SqU -/
namespace Sq
open PySem PySem.Spec PyProof.Rows L2
structure TKept (K : Fr) (mg : Str → Option Value) (A : Ad) : Prop where
  k : Kl K mg "Kept" A.kept
  t : ∃ p, SlX.Slot1 K A.kept "own_tables" p 0
  i : In K A.kept "Kept.__init__" s_Kept_init ["self", "tables"]
structure TForm (K : Fr) (mg : Str → Option Value) (A : Ad) : Prop where
  k : Kl K mg "Formula" A.formula
  p : ∃ p, SlX.Slot1 K A.formula "own_plains" p 0
  t : ∃ p, SlX.Slot1 K A.formula "own_tables" p 1
  i : In K A.formula "Formula.__init__" s_Formula_init ["self", "tables"]
section
variable {P : Program} {w : World} {K : Fr} {mg : Str → Option Value} {base : Heap} {A : Ad}
def spKept (A : Ad) : Sp := fun vs H Q _ => ∃ v : V, vs = [v] ∧ ∀ p H', Same H H' → Ob A.kept [some v] (np H H') p → Q (.ref p) H'
def spKeptI (A : Ad) : Sp := fun vs H Q _ => ∃ (x dx : Addr) (v : V), vs = [.ref x, v] ∧ dx ≠ x ∧ SlX.Slt H x A.kept dx [] ∧ Q .non (SlX.slH H x A.kept dx [some v])
theorem dc_Kept (T : TKept K mg A) : Dc P w K mg base 1 "Kept" (spKept A) := by
  obtain ⟨f, fd, ⟨dvs, kws, F⟩, M, b⟩ := T.i.ex
  refine ⟨A.kept, f, fd, ["self", "tables"], spKeptI A, F.ok n_Kept_init (fun vs H Q E h => ?_) (fun cdv A' outer s H vs Q E hr h => ?_), M, T.k.g, b, fun vs H Q h a dx n1 n2 ne => ?_⟩
  · obtain ⟨x, dx, v, rfl, _⟩ := h
    rfl
  · obtain ⟨x, dx, v, rfl, ne, hs, q⟩ := h
    obtain ⟨p0, S0⟩ := T.t
    exact ⟨_, PSs.nox (pss_one (SlX.ps_sl (pv 0) (pv 1))), _, rfl, _, rfl, x, A.kept, dx, p0, [], 0, rfl, hs, T.k.sc, S0, q⟩
  · obtain ⟨v, rfl, q⟩ := h
    refine ⟨a, dx, v, rfl, ne, slt_new, rfl, ?_⟩
    obtain ⟨s, o⟩ := slH_new (C := A.kept) (vs := [some v]) (same_made (C := A.kept) n1 n2) n1 n2 ne
    exact q a _ s o
def spTold (A : Ad) : Sp := fun vs H Q _ => ∃ (k : Addr) (v : V), vs = [.ref k] ∧ Ob A.kept [some v] H k ∧ Q v H
theorem df_told_tables (N : Nms mg) (T : TKept K mg A) (D : At K mg "told_tables" s_told_tables ["tables"]) : Df P w K mg base CX0 1 "told_tables" (spTold A) := by
  refine D.df fun f fd F => F.ok n_told_tables (fun vs H Q E h => ?_) (fun cdv A' outer s H vs Q E hr h => ?_)
  · obtain ⟨k, v, rfl, _⟩ := h
    rfl
  · obtain ⟨k, v, rfl, o, q⟩ := h
    obtain ⟨p0, S0⟩ := T.t
    obtain ⟨dx, hs⟩ := o.slt
    refine ⟨_, pss_cons (ps_if (pt_val (kb_isiSl K A.kept N (pv 0) T.k.g)) (pss_one (ps_ret (SlX.pe_sl (pv 0)))) pss_nil) pss_never, ?_⟩
    exact ⟨_, rfl, k, A.kept, dx, _, .ref A.kept, true, rfl, rfl, fun w h => h, hs, T.k.sc, T.k.si, T.k.kit, true, rfl, iteT ⟨_, rfl, k, A.kept, dx, p0, _, 0, v, rfl, hs, T.k.sc, S0, rfl, q⟩⟩
/-! ### Formula -/
def FormV (A : Ad) : Rl (List (List (List Int))) := fun H u ts => ∃ p L v, u = .ref p ∧ Ob A.formula [some (.ref L), some v] H p ∧ TabsV A H v ts ∧ Li (PlainV A) H (.ref L) ts
theorem FormV.mo {A : Ad} : Mo (FormV A) := fun H H' u ts e h => by
  obtain ⟨p, L, v, rfl, o, h1, h2⟩ := h
  exact ⟨p, L, v, rfl, o.mono e, (Tu.mo (Tu.mo (Tu.mo RatV.mo))) _ _ _ _ e h1, (Li.mo PlainV.mo) _ _ _ _ e h2⟩
def spForm (A : Ad) : Sp := fun vs H Q _ => ∃ (k : Addr) (v : V) (ts : List (List (List Int))), vs = [.ref k] ∧ Ob A.kept [some v] H k ∧ TabsV A H v ts ∧ ts.length ≤ 100 ∧ (∀ t ∈ ts, t.length ≤ 100 ∧ ∀ x ∈ t, x.length ≤ 100) ∧
  ∀ p H', Same H H' → FormV A H' (.ref p) ts → Q (.ref p) H'
def spFormI (A : Ad) : Sp := fun vs H Q _ => ∃ (x dx k : Addr) (v : V) (ts : List (List (List Int))) (H0 : Hp), vs = [.ref x, .ref k] ∧ H = upd (upd H0 dx (.own x)) x (.ins A.formula dx []) ∧ H0 x = none ∧ H0 dx = none ∧ dx ≠ x ∧ Ob A.kept [some v] H0 k ∧ TabsV A H0 v ts ∧
  ts.length ≤ 100 ∧ (∀ t ∈ ts, t.length ≤ 100 ∧ ∀ x ∈ t, x.length ≤ 100) ∧ ∀ H', Same H0 H' → FormV A H' (.ref x) ts → Q .non H'
theorem dc_Formula (T : TForm K mg A) (To : Df P w K mg base CX0 1 "told_tables" (spTold A)) (Pl : Dc P w K mg base 4 "Plain" (spPlain A)) : Dc P w K mg base 6 "Formula" (spForm A) := by
  obtain ⟨f, fd, ⟨dvs, kws, F⟩, M, b⟩ := T.i.ex
  refine ⟨A.formula, f, fd, ["self", "tables"], spFormI A, F.ok n_Formula_init (fun vs H Q E h => ?_) (fun cdv A' outer s H vs Q E hr h => ?_), M, T.k.g, b, fun vs H Q h a dx n1 n2 ne => ?_⟩
  · obtain ⟨x, dx, k, v, ts, H0, rfl, _⟩ := h
    rfl
  · obtain ⟨x, dx, k, v, ts, H0, rfl, rfl, h1, h2, ne, ok, ht, l1, l2, q⟩ := h
    obtain ⟨p0, S0⟩ := T.p
    obtain ⟨p1, S1⟩ := T.t
    refine ⟨_, PSs.nox <| pss_cons (SlX.ps_sl (pv 0) (pe_df To hr (by decide) pass0 (pa_cons (pv 1) pa_nil)))
      <| pss_one <| SlX.ps_sl (pv 0) <| pe_lc (own := [("table", 2)]) (g := gName 2) (tt := tYes) rfl n_Formula_init.nd (pi_tup (SlX.pe_sl (pv 0))) (blkOk_by (N := ["self", "tables", "table"]) (sc := defScope s_Formula_init) (by decide +kernel))
            (fun _ _ _ _ _ => pg_name (i := 2) n_Formula_init.nd rfl (Or.inl rfl)) (fun _ _ _ _ _ => pts_nil) (fun _ _ _ _ _ => pe_dc Pl hr (by decide) (pa_cons (pv 2) pa_nil)), ?_⟩
    have s0 : Same H0 (upd (upd H0 dx (.own x)) x (.ins A.formula dx [])) := same_made h1 h2
    refine ⟨_, rfl, k, v, rfl, ok.mono s0, _, rfl, x, A.formula, dx, p1, [], 1, rfl, slt_new, T.k.sc, S1, ?_⟩
    obtain ⟨s1, o1⟩ := slH_new (C := A.formula) (vs := [none, some v]) s0 h1 h2 ne
    have hsl : SlX.Slt (SlX.slH (upd (upd H0 dx (.own x)) x (.ins A.formula dx [])) x A.formula dx [none, some v]) x A.formula dx [none, some v] := SlX.slH_slt ne
    obtain ⟨a, us, rfl, ha, pr⟩ := id ht
    have lu : us.length = ts.length := pr_len pr
    dsimp only [SlX.sSl]
    refine tlc_t (G := fun b H1 => a = b ∧ SlX.slH (upd (upd H0 dx (.own x)) x (.ins A.formula dx [])) x A.formula dx [none, some (.ref a)] = H1) (Of (PlainV A) ts) (Of.mo PlainV.mo) (fun R r => ⟨_, rfl, x, A.formula, dx, p1, _, 1, .ref a, rfl, hsl, T.k.sc, S1, rfl, r _ _ ⟨rfl, rfl⟩⟩) (by intro x; rfl) ?_
    rintro _ _ ⟨rfl, rfl⟩
    refine ⟨us, .of (s1 _ _ ha), by omega, fun i y H2 hx s2 Qe k => ?_, fun D2 H2 out s2 hD ho => ?_⟩
    · obtain ⟨t, ht', hx2⟩ := pr_get pr hx
      have hm := l2 t (List.mem_of_getElem? ht')
      exact ⟨_, rfl, y, t, rfl, (Tu.mo (Tu.mo RatV.mo)) _ _ _ _ (s1.trans s2) hx2, hm.1, hm.2, fun p H3 s3 hp => k _ _ s3 ⟨t, ht', hp⟩⟩
    · refine ⟨_, rfl, x, A.formula, dx, p0, _, 0, rfl, .inr ⟨s2 _ _ slH_at, s2 _ _ (slH_dx ne)⟩, T.k.sc, S0, ?_⟩
      have key : ∀ b, SlX.slH (upd (upd H0 dx (.own x)) x (.ins A.formula dx [])) x A.formula dx [none, some (.ref a)] b = none → b ≠ x ∧ b ≠ dx := fun b e => ⟨ne_some e slH_at, ne_some e (slH_dx ne)⟩
      have sn : Same (np (SlX.slH (upd (upd H0 dx (.own x)) x (.ins A.formula dx [])) x A.formula dx [none, some (.ref a)]) H2) (SlX.slH H2 x A.formula dx [some (.ref D2), some (.ref a)]) := fun b o e => by
        obtain ⟨e1, e2⟩ := np_at e
        rw [SlX.slH_ne (key b e1).1 (key b e1).2]
        exact e2
      have sf : Same H0 (SlX.slH H2 x A.formula dx [some (.ref D2), some (.ref a)]) := fun b o e => by
        rw [SlX.slH_ne (ne_of_none e h1) (ne_of_none e h2)]
        exact s2 _ _ (s1 _ _ e)
      refine q _ sf ⟨x, D2, .ref a, rfl, ⟨dx, slH_at, slH_dx ne⟩, (Tu.mo (Tu.mo (Tu.mo RatV.mo))) _ _ _ _ sf ht, D2, out, rfl, sn _ _ hD, Paired.mapP (outs_of ho lu) fun u t h => PlainV.mo _ _ _ _ sn h⟩
  · obtain ⟨k, v, ts, rfl, ok, ht, l1, l2, q⟩ := h
    exact ⟨a, dx, k, v, ts, H, rfl, rfl, n1, n2, ne, ok, ht, l1, l2, fun H' s pl => ⟨rfl, q a H' s pl⟩⟩
end
end Sq
/-! text SqV -/
namespace Sq
open PySem PySem.Spec PyProof.Rows L2
theorem kb_sl (K : Fr) {X : Cx} {o : Expr} {to : TE} {f : Str} {pos : Pos} (ho : PE X o to) (hK : X.K = K := by rfl) (hb : attributeBase o f X.env (eval o X.env) = eval o X.env := by rfl) : PE X (.Attribute o f pos) (SlX.tSl K to f) := by
  subst hK
  exact SlX.pe_sl ho hb
section
variable {P : Program} {w : World} {K : Fr} {mg : Str → Option Value} {base : Heap} {A : Ad}
def spSizes (A : Ad) : Sp := fun vs H Q _ => ∃ (u : V) (n r c : Nat) (ts : List (List (List Int))), vs = [u] ∧ FormV A H u ts ∧ Cube n r c ts ∧ 0 < n ∧ 0 < r ∧ ∀ T, H T = none → Q (.ref T) (upd H T (.tup [.int (n : Int), .int (r : Int), .int (c : Int)]))
theorem rp_sizes (N : Nms mg) (T : TForm K mg A) (D : Pt K A.formula "sizes" "Formula.sizes" s_Formula_sizes) : Rp P w K mg base 1 A.formula "sizes" (spSizes A) := by
  refine D.rp fun g fd dvs kws F => F.ok n_Formula_sizes (fun vs H Q E h => ?_) (fun cdv A' outer s H vs Q E hr h => ?_)
  · obtain ⟨u, n, r, c, ts, rfl, _⟩ := h
    rfl
  · obtain ⟨u, n, r, c, ts, rfl, hu, cu, n0, r0, q⟩ := h
    obtain ⟨p1, S1⟩ := T.t
    obtain ⟨x, L, v, rfl, o, ht, hp⟩ := hu
    obtain ⟨dx, hs⟩ := o.slt
    obtain ⟨a, us, rfl, ha, pr⟩ := ht
    have lu : us.length = n := (pr_len pr).trans cu.1
    obtain ⟨u0, e0⟩ : ∃ u, us[0]? = some u := ⟨us[0]'(by omega), List.getElem?_eq_getElem (by omega)⟩
    obtain ⟨t, ht, b, vs, rfl, hb, prt⟩ := pr_get pr e0
    have sd := cu.2 t (List.mem_of_getElem? ht)
    have lv : vs.length = r := (pr_len prt).trans sd.1
    obtain ⟨v0, f0⟩ : ∃ u, vs[0]? = some u := ⟨vs[0]'(by omega), List.getElem?_eq_getElem (by omega)⟩
    obtain ⟨xs, hxs, d, ws, rfl, hd, prx⟩ := pr_get prt f0
    have lw : ws.length = c := (pr_len prx).trans (sd.2 xs (List.mem_of_getElem? hxs))
    refine ⟨_, pss_one <| ps_ret <| pe_tup <| pa_cons (kb_len K N (pa_cons (SlX.pe_sl (pv 0)) pa_nil)) <| pa_cons (kb_len K N (pa_cons (kb_ixT K (SlX.pe_sl (pv 0))) pa_nil)) <| pa_cons (kb_len K N (pa_cons (kb_ixT K (kb_ixT K (SlX.pe_sl (pv 0)))) pa_nil)) pa_nil, ?_⟩
    refine ⟨_, rfl, x, A.formula, dx, p1, _, 1, .ref a, rfl, hs, T.k.sc, S1, rfl, _, _, rfl, len_tup ha, _, rfl, x, A.formula, dx, p1, _, 1, .ref a, rfl, hs, T.k.sc, S1, rfl, a, us, 0, _, rfl, rfl, .of ha, atI_z e0, _, _, rfl, len_tup hb,
      _, rfl, x, A.formula, dx, p1, _, 1, .ref a, rfl, hs, T.k.sc, S1, rfl, a, us, 0, _, rfl, rfl, .of ha, atI_z e0, b, vs, 0, _, rfl, rfl, .of hb, atI_z f0, _, _, rfl, len_tup hd, by show 3 ≤ sizeLine; decide, fun Tp hT => ?_⟩
    rw [lu, lv, lw]
    exact q Tp hT
def spTbls (A : Ad) : Sp := fun vs H Q _ => ∃ (u : V) (ts : List (List (List Int))), vs = [u] ∧ FormV A H u ts ∧ ∀ v, TabsV A H v ts → Q v H
theorem rp_tables (T : TForm K mg A) (D : Pt K A.formula "tables" "Formula.tables" s_Formula_tables) : Rp P w K mg base 1 A.formula "tables" (spTbls A) := by
  refine D.rp fun g fd dvs kws F => F.ok n_Formula_tables (fun vs H Q E h => ?_) (fun cdv A' outer s H vs Q E hr h => ?_)
  · obtain ⟨u, ts, rfl, _⟩ := h
    rfl
  · obtain ⟨u, ts, rfl, hu, q⟩ := h
    obtain ⟨p1, S1⟩ := T.t
    obtain ⟨x, L, v, rfl, o, ht, hp⟩ := hu
    obtain ⟨dx, hs⟩ := o.slt
    exact ⟨_, pss_one (ps_ret (SlX.pe_sl (pv 0))), _, rfl, x, A.formula, dx, p1, _, 1, v, rfl, hs, T.k.sc, S1, rfl, q v ht⟩
def spWhole (A : Ad) : Sp := fun vs H Q _ => ∃ (u : V) (ts : List (List (List Int))), vs = [u] ∧ FormV A H u ts ∧ ts.length ≤ 1000 ∧ ∀ H', Same H H' → Q (.bl true) H'
theorem rp_whole (N : Nms mg) (T : TForm K mg A) (TP : TPlain K mg A) (D : Pt K A.formula "is_whole" "Formula.is_whole" s_Formula_is_whole) : Rp P w K mg base 1 A.formula "is_whole" (spWhole A) := by
  refine D.rp fun g fd dvs kws F => F.ok n_Formula_is_whole (fun vs H Q E h => ?_) (fun cdv A' outer s H vs Q E hr h => ?_)
  · obtain ⟨u, ts, rfl, _⟩ := h
    rfl
  · obtain ⟨u, ts, rfl, hu, lt, q⟩ := h
    obtain ⟨p1, S1⟩ := T.p
    obtain ⟨p2, S2⟩ := TP.b
    obtain ⟨x, L, v, rfl, o, ht, L', ds, eL, hL, pr⟩ := hu
    cases eL
    obtain ⟨dx, hs⟩ := o.slt
    have lds : ds.length = ts.length := pr_len pr
    refine ⟨_, pss_one <| ps_ret <| kb_all K rfl N <| pa_cons (pe_lc (own := [("plain", 1)]) (g := gName 1) (tt := tYes) rfl n_Formula_is_whole.nd (pi_list (SlX.pe_sl (pv 0))) (blkOk_by (N := ["self", "plain"]) (sc := defScope s_Formula_is_whole) (by decide +kernel))
            (fun _ _ _ _ _ => pg_name (i := 1) n_Formula_is_whole.nd rfl (Or.inl rfl)) (fun _ _ _ _ _ => pts_nil) (fun _ _ _ _ _ => pe_cmp (pc_eqI (kb_sl K (pv 1)) pe_int))) pa_nil, ?_⟩
    dsimp only [tRet, tCB, tCons, tNil]
    refine tlc_l (G := fun b H1 => L = b ∧ H = H1) (fun _ v _ => v = .bl true) bmono (fun R r => ⟨_, rfl, x, A.formula, dx, p1, _, 0, .ref L, rfl, hs, T.k.sc, S1, rfl, r _ _ ⟨rfl, rfl⟩⟩) (by intro x; rfl) ?_
    rintro _ _ ⟨rfl, rfl⟩
    refine ⟨ds, .of hL, by omega, fun i y H1 hy s1 Qe k => ?_, fun D2 H2 out s2 hD ho => ?_⟩
    · obtain ⟨t, _, y', L2, ds2, rfl, o2, _⟩ := pr_get pr hy
      obtain ⟨dy, hsy⟩ := (o2.mono s1).slt
      exact ⟨_, rfl, y', A.plain, dy, p2, _, 0, .int 1, rfl, hsy, TP.k.sc, S2, rfl, _, _, rfl, rfl, k _ _ (Same.refl _) rfl⟩
    · have hf := outs_true ho
      subst hf
      refine ⟨D2, _, rfl, .of (np_at hD).2, ?_⟩
      rw [all_rep]
      exact q H2 s2
end
end Sq
/-! text SqW -/
namespace Sq
open PySem PySem.Spec PyProof.Rows L2
theorem kb_piL (K : Fr) {X : Cx} {tg e : Expr} {te : TE} (he : PE X e te) (hK : X.K = K := by rfl) : PI X tg e (iList K te) := by
  subst hK
  exact pi_list he
abbrev kfScope : Scope := { kind := .function, names := [(PySem.Str.ofString ".0", .local), (PySem.Str.ofString "table", .local), (PySem.Str.ofString "tuple", .globalImplicit)], isGenerator := false, isCoroutine := false, more := [] }
abbrev LstV (A : Ad) : Rl (List (List (List Int))) := Li (Li (Li (RatV A)))
theorem paired_mo {α : Type} {R : Rl α} (m : Mo R) {H H' : Hp} (s : Same H H') {vs : List V} {ts : List α} (h : Paired (R H) vs ts) : Paired (R H') vs ts := Paired.mapP h fun _ _ r => m _ _ _ _ s r
section
variable {P : Program} {w : World} {K : Fr} {mg : Str → Option Value} {base : Heap} {A : Ad}
def spKf (A : Ad) : Sp := fun vs H Q _ => ∃ (v : V) (ts : List (List (List Int))), vs = [v] ∧ LstV A H v ts ∧ ts.length ≤ 100 ∧ (∀ t ∈ ts, t.length ≤ 100 ∧ ∀ x ∈ t, x.length ≤ 100) ∧ ∀ p H', Same H H' → FormV A H' (.ref p) ts → Q (.ref p) H'
theorem df_kept_formula (N : Nms mg) (Kp : Dc P w K mg base 1 "Kept" (spKept A)) (Fm : Dc P w K mg base 6 "Formula" (spForm A)) (D : At K mg "kept_formula" s_kept_formula ["tables"]) : Df P w K mg base CX0 8 "kept_formula" (spKf A) := by
  refine D.df fun f fd F => F.ok n_kept_formula (fun vs H Q E h => ?_) (fun cdv A' outer s0 H vs Q E hr h => ?_)
  · obtain ⟨v, ts, rfl, _⟩ := h
    rfl
  · obtain ⟨v, ts, rfl, hv, l1, l2, q⟩ := h
    refine ⟨_, pss_one <| ps_ret <| pe_dc Fm hr (by decide) <| pa_cons (pe_dc Kp hr (by decide) <| pa_cons (kb_tup K N <| pa_cons
      (pe_lc (own := [("table", 1)]) (g := gName 1) (tt := tYes) rfl n_kept_formula.nd (pi_list (pv 0)) (blkOk_by (N := ["tables", "table", "row"]) (sc := defScope s_kept_formula) (by decide +kernel))
            (fun _ _ _ _ _ => pg_name (i := 1) n_kept_formula.nd rfl (Or.inl rfl)) (fun _ _ _ _ _ => pts_nil)
            (fun _ _ _ _ _ => kb_tup K N <| pa_cons (pe_lc (own := [("row", 2)]) (g := gName 2) (tt := tYes) rfl n_kept_formula.nd (kb_piL K (pv 1)) (blkOk_by (N := ["tables", "table", "row"]) (sc := kfScope) (by decide +kernel))
              (fun _ _ _ _ _ => pg_name (i := 2) n_kept_formula.nd rfl (Or.inl rfl)) (fun _ _ _ _ _ => pts_nil) (fun _ _ _ _ _ => kb_tup K N (pa_cons (pv 2) pa_nil))) pa_nil)) pa_nil) pa_nil) pa_nil, ?_⟩
    obtain ⟨a, us, rfl, ha, pr⟩ := hv
    have lu : us.length = ts.length := pr_len pr
    dsimp only [tRet, tDf, tCons, tNil, tCB]
    refine tlc_l (fun N v i => Of (TabV A) ts (ov H N) v i) (omono (Of.mo (Tu.mo (Tu.mo RatV.mo)))) (gives_pv (by rfl)) (by intro x; rfl) ?_
    rintro _ _ ⟨rfl, rfl⟩
    refine ⟨us, .of ha, by omega, fun i y H1 hy s1 Qe k => ?_, fun D2 H2 out s2 hD ho => ?_⟩
    · obtain ⟨t, ht, b, ws, rfl, hb, prt⟩ := pr_get pr hy
      have lw : ws.length = t.length := pr_len prt
      have lt := l2 t (List.mem_of_getElem? ht)
      dsimp only [tCB, tCons, tNil]
      refine tlc_l (fun N v i => Of (RowV A) t (ov H N) v i) (omono (Of.mo (Tu.mo RatV.mo))) (gives_pv (by rfl)) (by intro x; rfl) ?_
      rintro _ _ ⟨rfl, rfl⟩
      refine ⟨ws, .of (s1 _ _ hb), by omega, fun j z H3 hz s3 Qr kr => ?_, fun D3 H3 out s3 hD ho => ?_⟩
      · obtain ⟨xs, hxs, c, es, rfl, hc, pre⟩ := pr_get prt hz
        refine ⟨_, rfl, c, es, rfl, .inl ⟨.of (s3 _ _ (s1 _ _ hc)), fun l hl => kr _ _ (same_new hl) ⟨xs, hxs, l, es, rfl, ?_, paired_mo RatV.mo ov_old pre⟩⟩⟩
        rw [ov_new (s1.free (s3.free hl)), np_none hl, upd_same]
      · refine ⟨D3, out, rfl, .inl ⟨.of (np_at hD).2, fun l hl => k _ _ (s3.trans (same_new hl)) ⟨t, ht, l, out, rfl, ?_, paired_mo (Tu.mo RatV.mo) (ov_same (np_later (same_new hl))) (outs_of ho lw)⟩⟩⟩
        rw [ov_new (s1.free (s3.free hl)), np_none (s3.free hl), upd_same]
    · have po := outs_of ho lu
      rw [ov_full s2] at po
      refine ⟨D2, out, rfl, .inl ⟨.of (np_at hD).2, fun l hl => ⟨_, rfl, fun p H3 s3 o => ?_⟩⟩⟩
      have st : Same H2 (upd H2 l (.tup out)) := same_new hl
      exact ⟨p, _, ts, rfl, o.mono np_same, ⟨l, out, rfl, s3 _ _ upd_same, paired_mo (Tu.mo (Tu.mo RatV.mo)) (st.trans s3) po⟩, l1, l2, fun p' H4 s4 fv => q p' H4 (((s2.trans st).trans s3).trans s4) fv⟩
end
end Sq
/-! text SqWd -/
namespace Sq
open PySem PySem.Spec PyProof.Rows L2
/-! ### words: the mirror -/
/-- the letters of x -/
def bits (x m : Nat) : List Nat := (List.range m).map fun p => x / 2 ^ p % 2
/-- the number of letters of x -/
def wtF : Nat → Nat → Nat
  | 0, _ => 0
  | k + 1, x => x % 2 + wtF k (x / 2)
def wt (x : Nat) : Nat := wtF 10 x
theorem wtF_zero : ∀ k, wtF k 0 = 0
  | 0 => rfl
  | k + 1 => by
    show 0 % 2 + wtF k (0 / 2) = 0
    rw [Nat.zero_mod, Nat.zero_div, wtF_zero k]
theorem outs_nat {n : Nat} {f : Nat → Nat} {H : Hp} {out : List V} (h : Outs (fun _ v i => v = .int ((f i : Nat) : Int)) n H out) : out = vN ((List.range n).map f) := by
  unfold vN
  rw [List.map_map]
  refine List.ext_getElem? fun i => ?_
  by_cases hi : i < n
  · have e : i < out.length := by rw [h.1]; exact hi
    rw [List.getElem?_eq_getElem e, h.2 i _ (List.getElem?_eq_getElem e), List.getElem?_map, List.getElem?_range hi]
    rfl
  · rw [List.getElem?_eq_none (by rw [h.1]; omega), List.getElem?_eq_none (by simp; omega)]
section
variable {P : Program} {w : World} {K : Fr} {mg : Str → Option Value} {base : Heap} {A : Ad}
def spLetters : Sp := fun vs H Q _ => ∃ x m : Nat, vs = [.int (x : Int), .int (m : Int)] ∧ m ≤ 1000 ∧ ∀ D H', Same H H' → np H H' D = some (.lst (vN (bits x m))) → Q (.ref D) H'
theorem df_letters_of (N : Nms mg) (D : At K mg "letters_of" s_letters_of ["x", "many"]) : Df P w K mg base CX0 1 "letters_of" spLetters := by
  refine D.df fun f fd F => F.ok n_letters_of (fun vs H Q E h => ?_) (fun cdv A' outer s0 H vs Q E hr h => ?_)
  · obtain ⟨x, m, rfl, _⟩ := h
    rfl
  · obtain ⟨x, m, rfl, hm, q⟩ := h
    refine ⟨_, pss_one <| ps_ret <| pe_lc (own := [("place", 2)]) (g := gName 2) (tt := tYes) rfl n_letters_of.nd (pi_range1 (by rfl) N.rng (pa_cons (pv 1) pa_nil)) (blkOk_by (N := ["x", "many", "place"]) (sc := defScope s_letters_of) (by decide +kernel))
            (fun _ _ _ _ _ => pg_name (i := 2) n_letters_of.nd rfl (Or.inl rfl)) (fun _ _ _ _ _ => pts_nil) (fun _ _ _ _ _ => pe_op op_odd (pe_op op_shrN (pv 0) (pv 2)) pe_int), ?_⟩
    dsimp only [tRet]
    refine tlc_r1 (n := m) (fun _ v i => v = .int ((x / 2 ^ i % 2 : Nat) : Int)) (fun _ _ _ _ _ h => h) (fun S r => ⟨_, rfl, r⟩) (by omega) (by intro x; rfl) (fun i H1 hi s1 Qe k => ?_) (fun D H1 out s1 hD ho => ?_)
    · refine ⟨_, rfl, _, rfl, (x : Int), i, rfl, rfl, x / 2 ^ i, ?_, rfl, k _ _ (Same.refl _) rfl⟩
      rw [Int.natCast_ediv, Int.natCast_pow]
      rfl
    · have e := outs_nat ho
      subst e
      exact q D H1 s1 hD
def spWt : Sp := fun vs H Q _ => ∃ x : Nat, vs = [.int (x : Int)] ∧ x < 1024 ∧ Q (.int ((wt x : Nat) : Int)) H
theorem df_weight_of (N : Nms mg) (D : At K mg "weight_of" s_weight_of ["x"]) : Df P w K mg base CX0 1 "weight_of" spWt := by
  refine D.df fun f fd F => F.ok n_weight_of (fun vs H Q E h => ?_) (fun cdv A' outer s0 H vs Q E hr h => ?_)
  · obtain ⟨x, rfl, _⟩ := h
    rfl
  · obtain ⟨x, rfl, hx, q⟩ := h
    refine ⟨_, pss_cons (ps_set (i := 1) n_weight_of.nd rfl (.inl rfl) pe_int)
      <| pss_cons (ps_while PassesOwn.never (pt_cmp (pc_gt (pv 0) pe_int)) <| pss_one <| ps_par (i := 1) (j := 0) rfl n_weight_of.nd rfl rfl (by decide) rfl rfl (pa_cons (pe_op op_add (pv 1) (pe_op op_odd (pv 0) pe_int)) (pa_cons (pe_op op_halfN (pv 0) pe_int) pa_nil)) (by rfl))
      <| pss_one <| ps_ret (pv 1), ?_⟩
    refine ⟨fun m σ H' => H' = H ∧ ∃ k y f : Nat, σ = [some (.int (y : Int)), some (.int (f : Int))] ∧ y < 2 ^ k ∧ f + wtF k y = wt x ∧ m = y, ⟨x, rfl, 10, x, 0, rfl, hx, by rw [Nat.zero_add]; rfl, rfl⟩, ?_⟩
    rintro m _ _ ⟨rfl, k, y, f, rfl, hy, hf, rfl⟩
    refine ⟨_, rfl, _, _, rfl, rfl, ?_⟩
    by_cases h0 : m = 0
    · subst h0
      rw [wtF_zero, Nat.add_zero] at hf
      refine ⟨false, rfl, iteF ⟨_, rfl, ?_⟩⟩
      rw [hf]
      exact q
    · refine ⟨true, congrArg V.bl (decide_eq_true (by omega)), iteT ?_⟩
      obtain ⟨k, rfl⟩ : ∃ k', k = k' + 1 := by
        cases k with
        | zero =>
          rw [Nat.pow_zero] at hy
          omega
        | succ k => exact ⟨k, rfl⟩
      refine ⟨fun σ' H' => H' = _ ∧ σ' = [some (.int ((m / 2 : Nat) : Int)), some (.int ((f + m % 2 : Nat) : Int))], ?_, _, rfl, _, rfl, m, rfl, rfl, _, _, rfl, rfl, _, rfl, m, rfl, rfl, _, _, rfl, rfl, ?_⟩
      · rintro _ _ ⟨rfl, rfl⟩
        refine ⟨m / 2, by omega, rfl, k, m / 2, f + m % 2, rfl, by rw [Nat.pow_succ] at hy; omega, ?_, rfl⟩
        rw [← hf]
        show f + m % 2 + wtF k (m / 2) = f + (m % 2 + wtF k (m / 2))
        omega
      · show [some (V.int ((m / 2 : Nat) : Int)), some (V.int ((f : Int) + ((m % 2 : Nat) : Int)))] = _
        rw [Int.natCast_add]
end
end Sq
/-! text SqWe -/
namespace Sq
open PySem PySem.Spec PyProof.Rows L2
theorem tfor_z {K : Fr} {ta : TA} {g : TG} {tb : TS} {D : Ends} {σ : L2.St} {H : Hp} {G : Addr → Addr → Hp → Prop} (he : ∀ S : List V → Hp → Prop, (∀ a b H1, G a b H1 → S [.ref a, .ref b] H1) → ta σ H S)
    (body : ∀ a b H1, G a b H1 → ∃ xs ys, SqL K H1 a xs ∧ SqL K H1 b ys ∧ xs.length = ys.length ∧ ∃ Pv : Nat → L2.St → Hp → Prop, Pv 0 σ H1 ∧ (∀ i σ H, Pv i σ H → SqL K H a xs ∧ SqL K H b ys) ∧
      (∀ (i : Nat) x y T σ H, xs[i]? = some x → ys[i]? = some y → Pv i σ H → H T = none → g (.ref T) σ (upd H T (.tup [x, y])) fun σ2 H2 => tb (Rn D Pv i) σ2 H2) ∧ ∀ σ H, Pv xs.length σ H → D.nx σ H) : tFor (iZip K ta) g tb D σ H := by
  refine he _ fun a b H1 h => ?_
  obtain ⟨xs, ys, hx, hy, hl, Pv, h0, hq, hs, hd⟩ := body a b H1 h
  exact ⟨a, b, xs, ys, rfl, hx, hy, RZ.for_zipL hl Pv h0 hq hs hd⟩
/-! ### the sign of two words -/
def sgF (W : Nat) : List (Nat × Nat) → Nat → Nat → Nat
  | [], _, o => o
  | (f, s) :: r, b, o => if s = 1 then sgF W r (b + f) (o + (b + f + (W - f) * (W - f - 1) / 2)) else sgF W r (b + f) o
def oddP (x y m : Nat) : Nat := sgF (bits x m).sum ((bits x m).zip (bits y m)) 0 0
def sgn (o : Nat) : Int := if o % 2 = 1 then -1 else 1
theorem le_sum : ∀ {l : List Nat} {f : Nat}, f ∈ l → f ≤ l.sum
  | [], _, h => by simp at h
  | y :: l, f, h => by
    rw [List.sum_cons]
    rcases List.mem_cons.mp h with z | z
    · omega
    · have := le_sum z
      omega
theorem half_cast (L : Nat) : (L : Int) * ((L : Int) - 1) / 2 = ((L * (L - 1) / 2 : Nat) : Int) := by
  cases L with
  | zero => rfl
  | succ n =>
    rw [Nat.add_sub_cancel, Int.natCast_ediv, Int.natCast_mul]
    congr 2
    omega
theorem bits_len (x m : Nat) : (bits x m).length = m := by
  unfold bits
  rw [List.length_map, List.length_range]
theorem bits_le {x m f : Nat} (h : f ∈ bits x m) : f ≤ 1 := by
  obtain ⟨i, _, rfl⟩ := List.mem_map.mp h
  omega
theorem sum_le : ∀ {l : List Nat}, (∀ f ∈ l, f ≤ 1) → l.sum ≤ l.length
  | [], _ => Nat.le_refl _
  | y :: l, h => by
    rw [List.sum_cons, List.length_cons]
    have h1 := h y (List.mem_cons_self ..)
    have h2 := sum_le (l := l) fun f hf => h f (List.mem_cons_of_mem _ hf)
    omega
theorem vN_ints (ns : List Nat) : vN ns = (ns.map fun (n : Nat) => (n : Int)).map V.int := by
  unfold vN
  rw [List.map_map]
  rfl
theorem sum_cast : ∀ (ns : List Nat), (ns.map fun (n : Nat) => (n : Int)).sum = ((ns.sum : Nat) : Int)
  | [] => rfl
  | n :: ns => by
    rw [List.map_cons, List.sum_cons, List.sum_cons, sum_cast ns, Int.natCast_add]
theorem vN_get {ns : List Nat} {i : Nat} {x : V} (h : (vN ns)[i]? = some x) : ∃ n, ns[i]? = some n ∧ x = .int (n : Int) := by
  unfold vN at h
  rw [List.getElem?_map] at h
  cases e : ns[i]? with
  | none =>
    rw [e] at h
    cases h
  | some n =>
    rw [e] at h
    exact ⟨n, rfl, (Option.some.inj h).symm⟩
theorem vN_len (ns : List Nat) : (vN ns).length = ns.length := by
  unfold vN
  rw [List.length_map]
section
variable {P : Program} {w : World} {K : Fr} {mg : Str → Option Value} {base : Heap} {A : Ad}
def spSgn : Sp := fun vs H Q _ => ∃ x y m : Nat, vs = [.int (x : Int), .int (y : Int), .int (m : Int)] ∧ m ≤ 100 ∧ ∀ H', Same H H' → Q (.int (sgn (oddP x y m))) H'
theorem df_sign_of_words (N : Nms mg) (L : Df P w K mg base CX0 1 "letters_of" spLetters) (D : At K mg "sign_of_words" s_sign_of_words ["x", "y", "many"]) : Df P w K mg base CX0 3 "sign_of_words" spSgn := by
  refine D.df fun f fd F => F.ok n_sign_of_words (fun vs H Q E h => ?_) (fun cdv A' outer s0 H vs Q E hr h => ?_)
  · obtain ⟨x, y, m, rfl, _⟩ := h
    rfl
  · obtain ⟨x, y, m, rfl, hm, q⟩ := h
    refine ⟨_, pss_cons (ps_par3 (i := 3) (j := 4) (l := 5) rfl n_sign_of_words.nd rfl rfl rfl (by decide) (by decide) (by decide) rfl rfl rfl (pa_cons (pe_df L hr (by decide) pass0 (pa_cons (pv 0) (pa_cons (pv 2) pa_nil))) (pa_cons pe_int (pa_cons pe_int pa_nil))) (by rfl))
      <| pss_cons (ps_set (i := 6) n_sign_of_words.nd rfl (.inl rfl) (kb_sum K rfl N (pa_cons (pv 3) pa_nil)))
      <| pss_cons (ps_for PassesOwn.never rfl (pi_zip (by rfl) N.zip_ (pa_cons (pv 3) (pa_cons (pe_df L hr (by decide) pass0 (pa_cons (pv 1) (pa_cons (pv 2) pa_nil))) pa_nil))) (kb_pair K rfl (pg_name (i := 7) n_sign_of_words.nd rfl (.inl rfl)) (pg_name (i := 8) n_sign_of_words.nd rfl (.inl rfl)))
        <| pss_cons (ps_aug (i := 5) n_sign_of_words.nd rfl (.inl rfl) (pv 7) ip_add)
        <| pss_one <| ps_if (pt_cmp (pc_eqI (pv 8) pe_int))
            (pss_cons (ps_set (i := 9) n_sign_of_words.nd rfl (.inl rfl) (pe_op op_sub (pv 6) (pv 7)))
              <| pss_one <| ps_aug (i := 4) n_sign_of_words.nd rfl (.inl rfl) (pe_op op_add (pv 5) (pe_op op_fdiv (pe_op op_mul (pv 9) (pe_op op_sub (pv 9) pe_int)) pe_int)) ip_add) pss_nil)
      <| pss_one <| ps_ret <| pe_ifExp (pt_cmp (pc_eqI (pe_op op_mod (pv 4) pe_int) pe_int)) (pe_un un_neg pe_int) pe_int, ?_⟩
    refine ⟨_, rfl, _, rfl, x, m, rfl, by omega, fun D1 H1 s1 hD1 => ⟨_, _, _, rfl, ?_⟩⟩
    have hl1 := (np_at hD1).2
    refine ⟨_, rfl, D1, _, rfl, .of (by rw [← vN_ints]; exact hl1), ?_⟩
    rw [sum_cast]
    dsimp only [gName]
    have hW : (bits x m).sum ≤ m := by
      have := sum_le (l := bits x m) fun f hf => bits_le hf
      rw [bits_len] at this
      exact this
    refine tfor_z (G := fun a b H2 => D1 = a ∧ Same H1 H2 ∧ H2 b = some (.lst (vN (bits y m)))) (fun S r => ⟨_, rfl, _, rfl, _, rfl, y, m, rfl, by omega, fun D2 H2 s2 hD2 => r D1 D2 H2 ⟨rfl, s2, (np_at hD2).2⟩⟩) ?_
    rintro _ b H2 ⟨rfl, s2, hb⟩
    refine ⟨_, _, .of (s2 _ _ hl1), .of hb, by rw [vN_len, vN_len, bits_len, bits_len], fun i σ' H' => Same H2 H' ∧ ∃ (bf od : Nat) (z7 z8 z9 : Option V),
      σ' = [some (.int (x : Int)), some (.int (y : Int)), some (.int (m : Int)), some (.ref D1), some (.int (od : Int)), some (.int (bf : Int)), some (.int ((bits x m).sum : Nat)), z7, z8, z9] ∧ sgF (bits x m).sum (((bits x m).zip (bits y m)).drop i) bf od = oddP x y m, ⟨Same.refl _, 0, 0, none, none, none, rfl, rfl⟩, ?_, ?_, ?_⟩
    · rintro i _ _ ⟨s3, _⟩
      exact ⟨.of (s3 _ _ (s2 _ _ hl1)), .of (s3 _ _ hb)⟩
    · rintro i u v Tp _ H3 hu hv ⟨s3, bf, od, z7, z8, z9, rfl, hI⟩ hT
      obtain ⟨f1, hf1, rfl⟩ := vN_get hu
      obtain ⟨f2, hf2, rfl⟩ := vN_get hv
      have sT : Same H3 (upd H3 Tp (.tup [.int (f1 : Int), .int (f2 : Int)])) := same_new hT
      have hz : ((bits x m).zip (bits y m))[i]? = some (f1, f2) := List.getElem?_zip_eq_some.mpr ⟨hf1, hf2⟩
      have hlt := (List.getElem?_eq_some_iff.mp hz).1
      rw [List.drop_eq_getElem_cons hlt, (List.getElem?_eq_some_iff.mp hz).2] at hI
      have hfW : f1 ≤ (bits x m).sum := le_sum (List.mem_of_getElem? hf1)
      refine ⟨Tp, _, rfl, .of upd_same, rfl, _, _, rfl, _, _, rfl, rfl, ?_⟩
      refine ⟨_, rfl, _, rfl, _, _, rfl, rfl, ?_⟩
      refine ⟨_, rfl, _, _, rfl, rfl, ?_⟩
      by_cases h1 : f2 = 1
      · subst h1
        refine ⟨true, rfl, iteT ?_⟩
        refine ⟨_, rfl, _, rfl, _, _, rfl, rfl, ?_⟩
        refine ⟨_, rfl, _, rfl, _, rfl, _, rfl, _, _, rfl, rfl, _, _, rfl, rfl, .inl ⟨by omega, by omega⟩, _, _, rfl, rfl, ⟨by decide, by decide⟩, _, _, rfl, rfl, _, _, rfl, rfl, ?_⟩
        refine ⟨s3.trans sT, bf + f1, od + (bf + f1 + ((bits x m).sum - f1) * ((bits x m).sum - f1 - 1) / 2), some (.int (f1 : Int)), some (.int ((1 : Nat) : Int)), some (.int (((bits x m).sum : Nat) - (f1 : Int))), ?_, hI⟩
        have hc := half_cast ((bits x m).sum - f1)
        rw [Int.natCast_sub hfW] at hc
        have e1 : (od : Int) + ((bf : Int) + (f1 : Int) + ((((bits x m).sum : Nat) : Int) - (f1 : Int)) * ((((bits x m).sum : Nat) : Int) - (f1 : Int) - 1) / 2) = ((od + (bf + f1 + ((bits x m).sum - f1) * ((bits x m).sum - f1 - 1) / 2) : Nat) : Int) := by
          rw [hc, Int.natCast_add, Int.natCast_add, Int.natCast_add]
        rw [← e1]
        rfl
      · refine ⟨false, congrArg V.bl (decide_eq_false (by omega)), iteF ?_⟩
        refine ⟨s3.trans sT, bf + f1, od, some (.int (f1 : Int)), some (.int (f2 : Int)), z9, rfl, ?_⟩
        · have e : sgF (bits x m).sum ((f1, f2) :: ((bits x m).zip (bits y m)).drop (i + 1)) bf od = sgF (bits x m).sum (((bits x m).zip (bits y m)).drop (i + 1)) (bf + f1) od := by
            rw [sgF, if_neg h1]
          rw [← e]
          exact hI
    · rintro _ H3 ⟨s3, bf, od, z7, z8, z9, rfl, hI⟩
      rw [List.drop_eq_nil_of_le (by rw [vN_len, List.length_zip, bits_len, bits_len]; omega)] at hI
      have hI : od = oddP x y m := hI
      refine ⟨_, rfl, _, _, rfl, rfl, (by decide : (0:Int) < 2), _, _, rfl, rfl, ?_⟩
      rw [← hI] at q
      by_cases h1 : od % 2 = 1
      · refine ⟨true, congrArg V.bl (decide_eq_true (by omega)), iteT ⟨_, rfl, ?_⟩⟩
        have e : sgn od = -1 := if_pos h1
        rw [e] at q
        exact q _ ((s1.trans s2).trans s3)
      · refine ⟨false, congrArg V.bl (decide_eq_false (by omega)), iteF ?_⟩
        have e : sgn od = 1 := if_neg h1
        rw [e] at q
        exact q _ ((s1.trans s2).trans s3)
end
end Sq
/-! text SqY -/
namespace Sq
open PySem PySem.Spec PyProof.Rows L2
/-! ### data: depth, equality -/
def Lay (k : Nat) (d : PyData) : Prop := d.canLay0 = true ∧ d.depth ≤ k
theorem lay_int (i : Int) : Lay 0 (.int i) := ⟨by simp [PyData.canLay0], by simp [PyData.depth]⟩
theorem lay_all : ∀ {k : Nat} {ds : List PyData}, (∀ d ∈ ds, Lay k d) → PyData.canLayAll0 ds = true ∧ PyData.depthAll ds ≤ k
  | k, [], _ => ⟨by simp [PyData.canLayAll0], by simp [PyData.depthAll]⟩
  | k, d :: ds, h => by
    obtain ⟨h1, h2⟩ := h d (List.mem_cons_self ..)
    obtain ⟨h3, h4⟩ := lay_all (k := k) (ds := ds) fun x hx => h x (List.mem_cons_of_mem _ hx)
    refine ⟨by simp [PyData.canLayAll0, h1, h3], ?_⟩
    simp only [PyData.depthAll]
    omega
theorem lay_tup {k : Nat} {ds : List PyData} (h : ∀ d ∈ ds, Lay k d) : Lay (k + 1) (.tuple ds) := by
  obtain ⟨h1, h2⟩ := lay_all h
  exact ⟨by simp only [PyData.canLay0]; exact h1, by simp only [PyData.depth]; omega⟩
theorem lay_lst {k : Nat} {ds : List PyData} (h : ∀ d ∈ ds, Lay k d) : Lay (k + 1) (.list ds) := by
  obtain ⟨h1, h2⟩ := lay_all h
  exact ⟨by simp only [PyData.canLay0]; exact h1, by simp only [PyData.depth]; omega⟩
theorem lay_shaped {k : Nat} {d : PyData} (h : Lay k d) (hk : k ≤ 64) : SeqAt.shaped d = true := by
  show (d.canLay0 && decide (d.depth ≤ 64)) = true
  rw [Bool.and_eq_true]
  exact ⟨h.1, decide_eq_true (Nat.le_trans h.2 hk)⟩
theorem eqvAll_map {α : Type} [DecidableEq α] {f : α → PyData} (h : ∀ x y, PyData.eqv (f x) (f y) = decide (x = y)) : ∀ (xs ys : List α), PyData.eqvAll (xs.map f) (ys.map f) = decide (xs = ys)
  | [], [] => by simp [PyData.eqvAll]
  | [], y :: ys => by simp [PyData.eqvAll]
  | x :: xs, [] => by simp [PyData.eqvAll]
  | x :: xs, y :: ys => by
    simp only [List.map_cons, PyData.eqvAll, h x y, eqvAll_map h xs ys]
    by_cases h1 : x = y
    · by_cases h2 : xs = ys
      · simp [h1, h2]
      · simp [h1, h2]
    · simp [h1]
def dN (n : Nat) : PyData := .int (n : Int)
theorem eqv_N (x y : Nat) : PyData.eqv (dN x) (dN y) = decide (x = y) := by
  unfold dN
  simp only [PyData.eqv]
  by_cases h : x = y
  · subst h
    simp
  · rw [decide_eq_false h]
    have : ((x : Int) == (y : Int)) = false := by simp; omega
    exact this
theorem eqv_I (x y : Int) : PyData.eqv (.int x) (.int y) = decide (x = y) := by
  simp only [PyData.eqv]
  by_cases h : x = y
  · subst h
    simp
  · simp [h]
theorem dpAll_of {K : Fr} {H : Hp} : ∀ {vs : List V} {ds : List PyData}, Paired (fun v d => Dp K H v d) vs ds → DpAll K H vs ds
  | _, _, .nil => .nil
  | _, _, .cons r t => .cons r (dpAll_of t)
theorem dpAll_N {K : Fr} {H : Hp} : ∀ (ns : List Nat), DpAll K H (vN ns) (ns.map dN)
  | [] => .nil
  | n :: ns => .cons (.int _) (dpAll_N ns)
/-- a tuple of words -/
def LotV : Rl (List Nat) := fun H v ws => ∃ a, v = .ref a ∧ H a = some (.tup (vN ws))
theorem LotV.mo : Mo LotV := fun H H' v ws e h => by
  obtain ⟨a, rfl, ha⟩ := h
  exact ⟨a, rfl, e _ _ ha⟩
/-- a lot: ascending words below 2^m -/
structure LotOk (m : Nat) (ws : List Nat) : Prop where
  ne : 0 < ws.length
  le : ws.length ≤ 100
  lt : ∀ x ∈ ws, x < 2 ^ m
  as : ws.Pairwise (· < ·)
section
variable {P : Program} {w : World} {K : Fr} {mg : Str → Option Value} {base : Heap} {A : Ad}
def spRm : Sp := fun vs H Q _ => ∃ m b : Nat, vs = [.int (m : Int), .int (b : Int)] ∧ 1 ≤ m ∧ m ≤ b ∧ b ≤ 1000 ∧ Q .non H
theorem df_require_many (I : Df P w K mg base CX0 2 "is_integer" spIsInteger) (D : At K mg "require_many" s_require_many ["value", "most"]) : Df P w K mg base CX0 3 "require_many" spRm := by
  refine D.df fun f fd F => F.ok n_require_many (fun vs H Q E h => ?_) (fun cdv A' outer s0 H vs Q E hr h => ?_)
  · obtain ⟨m, b, rfl, _⟩ := h
    rfl
  · obtain ⟨m, b, rfl, h1, h2, h3, q⟩ := h
    refine ⟨_, pss_one <| ps_if (PW.pt (pw_or (pt_not (pt_val (pe_df I hr (by decide) pass0 (pa_cons (pv 0) pa_nil)))) (pw_or1 (pt_not (pt_chain op_le op_le pe_int (pv 0) (pv 1)))))) pss_never pss_nil, ?_⟩
    exact ⟨_, rfl, _, rfl, by omega, by omega, true, rfl, iteF ⟨_, rfl, _, _, rfl, rfl, true, congrArg V.bl (decide_eq_true (by omega)), iteT ⟨_, rfl, _, _, rfl, rfl, true, congrArg V.bl (decide_eq_true (by omega)), iteF q⟩⟩⟩
def spIw : Sp := fun vs H Q _ => ∃ x m : Nat, vs = [.int (x : Int), .int (m : Int)] ∧ x < 2 ^ m ∧ m ≤ 1000 ∧ Q (.bl true) H
theorem df_is_word (W : Df P w K mg base CX0 1 "is_whole" spIsWhole) (D : At K mg "is_word" s_is_word ["value", "many"]) : Df P w K mg base CX0 2 "is_word" spIw := by
  refine D.df fun f fd F => F.ok n_is_word (fun vs H Q E h => ?_) (fun cdv A' outer s0 H vs Q E hr h => ?_)
  · obtain ⟨x, m, rfl, _⟩ := h
    rfl
  · obtain ⟨x, m, rfl, h1, h2, q⟩ := h
    refine ⟨_, pss_one <| ps_ret <| pe_and (pe_df W hr (by decide) pass0 (pa_cons (pv 0) pa_nil)) <| pe_one <| pe_chain op_le op_lt pe_int (pv 0) (pe_op op_oneShl pe_int (pv 1)), ?_⟩
    refine ⟨_, rfl, _, rfl, true, rfl, iteT ?_⟩
    refine ⟨_, rfl, _, _, rfl, rfl, true, congrArg V.bl (decide_eq_true (by omega)), iteT ⟨_, rfl, m, rfl, rfl, by omega, _, _, rfl, rfl, ?_⟩⟩
    refine qbl (Q := Q) (decide_eq_true ?_) q
    exact_mod_cast h1
end
end Sq
/-! text SqZ -/
namespace Sq
open PySem PySem.Spec PyProof.Rows L2
theorem tlc_zT {K : Fr} {ta : TA} {te : TE} {g : TG} {vs : List Nat} {σ : L2.St} {H : Hp} {Q : VK} {G : Addr → Addr → Hp → Prop} (R : Hp → V → Nat → Prop) (mono : ∀ H H' v i, Same H H' → R H v i → R H' v i)
    (he : ∀ S : List V → Hp → Prop, (∀ a b H1, G a b H1 → S [.ref a, .ref b] H1) → ta σ H S)
    (body : ∀ a b H1, G a b H1 → ∃ xs ys, SqT K H1 a xs ∧ SqT K H1 b ys ∧ xs.length ≤ 100000 ∧ ys.length ≤ xs.length ∧
      (∀ (i : Nat) x y T H', xs[i]? = some x → ys[i]? = some y → Same H1 H' → H' T = none → ∀ Qe : VK, (∀ v H4, Same H' H4 → R (np H' H4) v i → Qe v H4) → g (.ref T) (wipe σ vs) (upd H' T (.tup [x, y])) fun σ2 H3 => wipe σ2 vs = wipe σ vs ∧ te σ2 H3 Qe) ∧
      (∀ D H' out, Same H1 H' → np H1 H' D = some (.lst out) → Outs R ys.length (np H1 H') out → Q (.ref D) H')) : tLc (RZ.iZipA K ta) g tYes te vs σ H Q := by
  refine he _ fun a b H1 g1 => ?_
  obtain ⟨xs, ys, hx, hy, hn, hl, turn, hd⟩ := body a b H1 g1
  refine ⟨a, b, xs, ys, rfl, .inr ⟨hx, hy, lcs R mono (by omega) (fun i H' hi s => ⟨xs, ys, xs[i]'(by omega), ys[i]'(by omega), same_tup s hx, same_tup s hy, List.getElem?_eq_getElem (by omega), List.getElem?_eq_getElem (by omega)⟩) (fun H' s => ⟨xs, ys, same_tup s hx, same_tup s hy, .inr (Nat.le_refl _)⟩) (fun i x H' H2 hi s y Qe k => ?_) hd⟩⟩
  obtain ⟨T, u, v, rfl, nT, rfl, f1, f2⟩ := y
  exact turn i u v T H' (f1 xs (same_tup s hx)) (f2 ys (same_tup s hy)) s nT Qe k
section
variable {P : Program} {w : World} {K : Fr} {mg : Str → Option Value} {base : Heap} {A : Ad}
def spLot : Sp := fun vs H Q _ => ∃ (v : V) (m : Nat) (ws : List Nat), vs = [v, .int (m : Int)] ∧ LotV H v ws ∧ LotOk m ws ∧ m ≤ 1000 ∧ ∀ H', Same H H' → Q .non H'
theorem df_require_lot (N : Nms mg) (W : Df P w K mg base CX0 2 "is_word" spIw) (D : At K mg "require_lot" s_require_lot ["value", "many"]) : Df P w K mg base CX0 3 "require_lot" spLot := by
  refine D.df fun f fd F => F.ok n_require_lot (fun vs H Q E h => ?_) (fun cdv A' outer s0 H vs Q E hr h => ?_)
  · obtain ⟨v, m, ws, rfl, _⟩ := h
    rfl
  · obtain ⟨v, m, ws, rfl, hv, ok, hm, q⟩ := h
    refine ⟨_, pss_cons (ps_if (PW.pt (pw_or (pt_not (pt_val (kb_isiTup K N (pv 0)))) (pw_or (pt_cmpR (op_eqD hr.units) (pv 0) (pe_tup pa_nil) (nomark _))
          (pw_or1 (pt_not (pt_val (kb_all K rfl N (pa_cons (pe_lc (own := [("word", 2)]) (g := gName 2) (tt := tYes) rfl n_require_lot.nd (pi_tup (pv 0)) (blkOk_by (N := ["value", "many", "word", "one", "other"]) (sc := defScope s_require_lot) (by decide +kernel))
            (fun _ _ _ _ _ => pg_name (i := 2) n_require_lot.nd rfl (Or.inl rfl)) (fun _ _ _ _ _ => pts_nil) (fun _ _ _ _ _ => pe_df W hr (by decide) pass0 (pa_cons (pv 2) (pa_cons (pv 1) pa_nil)))) pa_nil)))))))) pss_never pss_nil)
      <| pss_one <| ps_if (pt_not (pt_val (kb_all K rfl N (pa_cons (pe_lc (own := [("one", 3), ("other", 4)]) (tt := tYes) rfl n_require_lot.nd (RZ.pi_zipA (by rfl) N.zip_ (pa_cons (pv 0) (pa_cons (pe_slice sl_tup (pv 0) (po_some pe_int) po_none) pa_nil))) (blkOk_by (N := ["value", "many", "word", "one", "other"]) (sc := defScope s_require_lot) (by decide +kernel))
            (fun _ _ _ _ _ => kb_pair K rfl (pg_name (i := 3) n_require_lot.nd rfl (Or.inl rfl)) (pg_name (i := 4) n_require_lot.nd rfl (Or.inl rfl))) (fun _ _ _ _ _ => pts_nil) (fun _ _ _ _ _ => pe_cmp (pc_lt (pv 3) (pv 4)))) pa_nil)))) pss_never pss_nil, ?_⟩
    obtain ⟨a, rfl, ha⟩ := hv
    have lv := vN_len ws
    have hle := ok.le
    refine ⟨_, rfl, _, _, _, _, true, rfl, .ty _, .base (.tup ha), kit_tup_tup, true, rfl, iteF ?_⟩
    refine ⟨_, rfl, Nat.zero_le _, fun T hT => ?_⟩
    have sT : Same H (upd H T (.tup [])) := same_new hT
    refine ⟨_, _, .tup (.of (sT _ _ ha)) (dpAll_N ws), .tup (.of upd_same) .nil, lay_shaped (lay_tup (k := 0) fun d hd => ?_) (by decide), lay_shaped (lay_tup (k := 0) fun d hd => nomatch hd) (by decide), false, ?_, iteF ?_⟩
    · obtain ⟨n, _, rfl⟩ := List.mem_map.mp hd
      exact lay_int _
    · cases ws with
      | nil => exact absurd ok.ne (Nat.lt_irrefl 0)
      | cons x xs => rfl
    dsimp only [tNot, tB, tCB, tCons, tNil]
    refine tlc_t (fun _ v _ => v = .bl true) bmono (gives_pv (by rfl)) (by intro x; rfl) ?_
    rintro _ _ ⟨rfl, rfl⟩
    refine ⟨vN ws, .of (sT _ _ ha), by omega, fun i x H1 hx s1 Qe k => ?_, fun D1 H1 out s1 hD ho => ?_⟩
    · obtain ⟨n, hn, rfl⟩ := vN_get hx
      exact ⟨_, rfl, _, rfl, n, m, rfl, ok.lt n (List.mem_of_getElem? hn), hm, k _ _ (Same.refl _) rfl⟩
    · have hf := outs_true ho
      subst hf
      refine ⟨D1, _, rfl, .of (np_at hD).2, true, congrArg V.bl (all_rep _), iteF ?_⟩
      have st := sT.trans s1
      dsimp only [tNext, tIfS, tNot, tB, tCB, tCons, tNil]
      refine tlc_zT (G := fun b c H2 => a = b ∧ H1 c = none ∧ H2 = upd H1 c (.tup ((vN ws).drop 1))) (fun _ v _ => v = .bl true) bmono (fun S r => ⟨_, rfl, gives_loT (k := 1) (fun R r => ⟨_, rfl, r⟩) (fun R r => r) (.of (st _ _ ha)) (by decide) (by have := ok.ne; omega) _ fun c H2 z => r a c H2 ⟨rfl, z⟩⟩) ?_
      rintro _ c _ ⟨rfl, nc, rfl⟩
      have sc : Same H1 (upd H1 c (.tup ((vN ws).drop 1))) := same_new nc
      refine ⟨vN ws, _, .of (sc _ _ (st _ _ ha)), .of upd_same, by omega, by rw [List.length_drop]; omega, fun i x y T2 H2 hx hy s2 nT2 Qe k => ?_, fun D2 H2 out s2 hD2 ho2 => ?_⟩
      · obtain ⟨n, hn, rfl⟩ := vN_get hx
        rw [List.getElem?_drop] at hy
        obtain ⟨n2, hn2, rfl⟩ := vN_get hy
        refine ⟨T2, _, rfl, .of upd_same, rfl, _, _, rfl, _, _, rfl, rfl, rfl, _, rfl, _, rfl, _, _, rfl, rfl, k _ _ (same_new nT2) (congrArg V.bl (decide_eq_true ?_))⟩
        have h1 := (List.getElem?_eq_some_iff.mp hn)
        have h2 := (List.getElem?_eq_some_iff.mp hn2)
        obtain ⟨l1, e1⟩ := h1
        obtain ⟨l2, e2⟩ := h2
        have := List.pairwise_iff_getElem.mp ok.as i (1 + i) l1 l2 (by omega)
        omega
      · have hf := outs_true ho2
        subst hf
        refine ⟨D2, _, rfl, .of (np_at hD2).2, true, congrArg V.bl (all_rep _), iteF ?_⟩
        exact q H2 ((st.trans sc).trans s2)
def spLots : Sp := fun vs H Q _ => ∃ (u v : V) (m : Nat) (ws zs : List Nat), vs = [u, v, .int (m : Int)] ∧ LotV H u ws ∧ LotV H v zs ∧ LotOk m ws ∧ LotOk m zs ∧ 1 ≤ m ∧ m ≤ 10 ∧ ∀ H', Same H H' → Q .non H'
theorem df_require_lots (N : Nms mg) (M : Df P w K mg base CX0 3 "require_many" spRm) (L : Df P w K mg base CX0 3 "require_lot" spLot) (D : At K mg "require_lots" s_require_lots ["firsts", "seconds", "many"]) : Df P w K mg base CX0 5 "require_lots" spLots := by
  refine D.df fun f fd F => F.ok n_require_lots (fun vs H Q E h => ?_) (fun cdv A' outer s0 H vs Q E hr h => ?_)
  · obtain ⟨u, v, m, ws, zs, rfl, _⟩ := h
    rfl
  · obtain ⟨u, v, m, ws, zs, rfl, hu, hv, o1, o2, m1, m2, q⟩ := h
    obtain ⟨tl, hl⟩ := N.let_
    refine ⟨_, pss_cons (ps_expr (pe_df M hr (by decide) pass0 (pa_cons (pv 2) (pa_cons (pe_gi hl) pa_nil)))) <| pss_cons (ps_expr (pe_df L hr (by decide) pass0 (pa_cons (pv 0) (pa_cons (pv 2) pa_nil)))) <| pss_one <| ps_expr (pe_df L hr (by decide) pass0 (pa_cons (pv 1) (pa_cons (pv 2) pa_nil))), ?_⟩
    refine ⟨_, rfl, m, 10, rfl, m1, m2, by decide, ?_⟩
    exact ⟨_, rfl, _, rfl, u, m, ws, rfl, hu, o1, by omega, fun H1 s1 => ⟨_, rfl, _, rfl, v, m, zs, rfl, LotV.mo _ _ _ _ s1 hv, o2, by omega, fun H2 s2 => q H2 (s1.trans s2)⟩⟩
end
end Sq
/-! text SqAa -/
namespace Sq
open PySem PySem.Spec PyProof.Rows L2
/-! ### the clash of two lots: the mirror -/
def pW (a : Nat) (ws : List Nat) (x : Nat) : Bool := decide (x < x ^^^ a) && decide (x ^^^ a ∈ ws)
def pairW (ws : List Nat) (a : Nat) : Option Nat := ws.find? (pW a ws)
def clashF (ws zs : List Nat) (a : Nat) : Option (Nat × Nat × Nat × Nat) :=
  if wt a % 4 = 0 then (match pairW ws a, pairW zs a with
    | some x, some y => some (x, x ^^^ a, y, y ^^^ a)
    | _, _ => none) else none
def clashIn (ws zs : List Nat) (m : Nat) : Option (Nat × Nat × Nat × Nat) := (List.range (2 ^ m - 1)).findSome? fun i => clashF ws zs (1 + i)
theorem fs_none {α : Type} {f : Nat → Option α} {n : Nat} (h : ∀ i, i < n → f i = none) : (List.range n).findSome? f = none :=
  List.findSome?_eq_none_iff.mpr fun i hi => h i (List.mem_range.mp hi)
theorem fs_some {α : Type} {f : Nat → Option α} {r : α} : ∀ {n i : Nat}, i < n → f i = some r → (∀ j, j < i → f j = none) → (List.range n).findSome? f = some r
  | 0, i, h, _, _ => absurd h (Nat.not_lt_zero i)
  | n + 1, i, h, e, nn => by
    rw [List.range_succ, List.findSome?_append]
    by_cases h1 : i < n
    · rw [fs_some h1 e nn]
      rfl
    · have h2 : i = n := by omega
      subst h2
      rw [fs_none nn]
      simp [e]
/-- the dict of the words -/
def wordK (ws : List Nat) : List (Key × V) := ws.map fun (n : Nat) => (Sum.inl (n : Int), V.bl true)
theorem wordK_put {ws : List Nat} {n : Nat} (h : n ∉ ws) : putK (wordK ws) (Sum.inl (n : Int)) (V.bl true) = wordK (ws ++ [n]) := by
  unfold putK
  have no : (wordK ws).any (fun kv => decide (kv.1 = Sum.inl (n : Int))) = false := by
    rw [List.any_eq_false]
    intro p hp
    obtain ⟨x, hx, rfl⟩ := List.mem_map.mp hp
    simp only [decide_eq_true_eq]
    intro z
    have z2 : (x : Int) = (n : Int) := Sum.inl.inj z
    have z3 : x = n := by omega
    exact h (z3 ▸ hx)
  rw [no, if_neg Bool.false_ne_true]
  unfold wordK
  rw [List.map_append]
  rfl
theorem wordK_val : ∀ (ws : List Nat) (n : Nat), (valV (wordK ws) (Sum.inl (n : Int))).isSome = decide (n ∈ ws)
  | [], n => by simp [wordK, valV]
  | x :: ws, n => by
    by_cases h : x = n
    · subst h
      rw [show wordK (x :: ws) = (Sum.inl (x : Int), V.bl true) :: wordK ws from rfl, valV_pos rfl]
      simp
    · have h2 : ¬ ((Sum.inl (x : Int) : Key) = Sum.inl (n : Int)) := fun z => h (by
        have z2 : (x : Int) = (n : Int) := Sum.inl.inj z
        omega)
      rw [show wordK (x :: ws) = (Sum.inl (x : Int), V.bl true) :: wordK ws from rfl, valV_neg h2, wordK_val ws n]
      simp [Ne.symm h]
theorem xor_cast (x a : Nat) : Builtin.bitXor (x : Int) (a : Int) = ((x ^^^ a : Nat) : Int) := by
  rw [Bits.bitXor_pp (by omega) (by omega)]
  rfl
theorem pass_cast (ws : List Nat) (a x : Nat) : pPass (a : Int) (wordK ws) (x : Int) = pW a ws x := by
  unfold pPass pW
  rw [xor_cast, wordK_val]
  congr 1
  by_cases h : x < x ^^^ a
  · rw [decide_eq_true h, decide_eq_true (by omega)]
  · rw [decide_eq_false h, decide_eq_false (by omega)]
theorem find_cast (ws : List Nat) (a : Nat) : ∀ xs : List Nat, (xs.map fun (n : Nat) => (n : Int)).find? (pPass (a : Int) (wordK ws)) = (xs.find? (pW a ws)).map fun (n : Nat) => (n : Int)
  | [] => rfl
  | x :: xs => by
    rw [List.map_cons, List.find?_cons, List.find?_cons, pass_cast]
    cases pW a ws x with
    | true => rfl
    | false => exact find_cast ws a xs
/-- {w: True for w in lot} -/
theorem tdc_words {K : Fr} {i0 j : Nat} {vs : List Nat} {σ : L2.St} {H : Hp} {Q : VK} {a : Addr} {ws : List Nat} (hv : σ[i0]? = some (some (.ref a))) (ha : H a = some (.tup (vN ws))) (hd : ws.Nodup) (hl : ws.length ≤ 1000)
    (hw : ∀ x, wipe ((wipe σ vs).set j (some x)) vs = wipe σ vs) (hj : ∀ x, ((wipe σ vs).set j (some x))[j]? = some (some x)) (q : ∀ D, H D = none → Q (.ref D) (upd H D (.dK (wordK ws)))) :
    tDc (iTup K (tVar i0)) (gName j) tYes (tVar j) (tC (.bl true)) vs σ H Q := by
  refine ⟨_, hv, a, rfl, ⟨vN ws, .of ha⟩, fun D hD => ?_⟩
  have nD : a ≠ D := fun z => by
    rw [z, hD] at ha
    cases ha
  refine dc_tup (xs := vN ws) (Qd := Q (.ref D)) (fun i H' => H' = upd H D (.dK (wordK (ws.take i)))) rfl ?_ ?_ ?_
  · rintro i _ _ rfl
    exact .of (by rw [upd_ne nD]; exact ha)
  · rintro i x _ hx rfl
    obtain ⟨n, hn, rfl⟩ := vN_get hx
    have hni : n ∉ ws.take i := fun z => by
      obtain ⟨k, hk, e⟩ := List.getElem_of_mem z
      rw [List.length_take] at hk
      have h1 := List.getElem?_eq_getElem (l := ws.take i) (i := k) (by rw [List.length_take]; exact hk)
      rw [e, List.getElem?_take_of_lt (by omega)] at h1
      obtain ⟨l1, e1⟩ := List.getElem?_eq_some_iff.mp h1
      obtain ⟨l2, e2⟩ := List.getElem?_eq_some_iff.mp hn
      exact List.pairwise_iff_getElem.mp hd k i l1 l2 (by omega) (e1.trans e2.symm)
    refine ⟨hw _, ?_⟩
    dsimp only [tYes]
    rw [if_pos rfl]
    refine ⟨_, hj _, wordK (ws.take i), Sum.inl (n : Int), rfl, upd_same, szt ?_, ?_⟩
    · unfold wordK
      rw [List.length_map, List.length_take]
      omega
    · rw [wordK_put hni, List.take_add_one, hn]
      funext b
      unfold upd
      split <;> rfl
  · rintro _ rfl
    rw [vN_len, List.take_length]
    exact q D hD
end Sq
/-! text SqAb -/
namespace Sq
open PySem PySem.Spec PyProof.Rows L2
theorem lot_nodup {m : Nat} {ws : List Nat} (h : LotOk m ws) : ws.Nodup := List.Pairwise.imp (fun h => Nat.ne_of_lt h) h.as
def quad (r : Nat × Nat × Nat × Nat) : List Nat := [r.1, r.2.1, r.2.2.1, r.2.2.2]
section
variable {P : Program} {w : World} {K : Fr} {mg : Str → Option Value} {base : Heap} {A : Ad} {T : Addr}
/-- what a def that tells the clash gives -/
def ClashQ (ws zs : List Nat) (m : Nat) (H : Hp) (Q : VK) : Prop := (clashIn ws zs m = none → ∀ H', Same H H' → Q .non H') ∧ ∀ r, clashIn ws zs m = some r → ∀ p H', Same H H' → np H H' p = some (.tup (vN (quad r))) → Q (.ref p) H'
def spCl (T : Addr) : Sp := fun vs H Q _ => ∃ (u v : V) (m : Nat) (ws zs : List Nat), vs = [u, v, .int (m : Int)] ∧ LotV H u ws ∧ LotV H v zs ∧ LotOk m ws ∧ LotOk m zs ∧ 1 ≤ m ∧ m ≤ 10 ∧ H T = some (TabE T) ∧ ClashQ ws zs m H Q
theorem df_clash_in (N : Nms mg) (Wt : Df P w K mg base CX0 1 "weight_of" spWt) (Pw : Df P w K mg base CX0 2 "pair_with" (spPair K T)) (D : At K mg "clash_in" s_clash_in ["firsts", "seconds", "many"]) : Df P w K mg base CX0 4 "clash_in" (spCl T) := by
  refine D.df fun f fd F => F.ok n_clash_in (fun vs H Q E h => ?_) (fun cdv A' outer s0 H vs Q E hr h => ?_)
  · obtain ⟨u, v, m, ws, zs, rfl, _⟩ := h
    rfl
  · obtain ⟨u, v, m, ws, zs, rfl, hu, hv, o1, o2, m1, m2, hT, q⟩ := h
    refine ⟨_, pss_cons (ps_par (i := 3) (j := 4) rfl n_clash_in.nd rfl rfl (by decide) rfl rfl
        (pa_cons (L2.pe_dc (own := [("word", 5)]) (g := gName 5) (tt := tYes) rfl n_clash_in.nd (pi_tup (pv 0)) (blkOk_by (N := ["firsts", "seconds", "many", "left", "right", "word", "apart", "one", "other"]) (sc := defScope s_clash_in) (by decide +kernel))
            (fun _ _ _ _ _ => pg_name (i := 5) n_clash_in.nd rfl (Or.inl rfl)) (fun _ _ _ _ _ => pts_nil) (fun _ _ _ _ _ => pv 5) (fun _ _ _ _ _ => pe_bl))
          (pa_cons (L2.pe_dc (own := [("word", 5)]) (g := gName 5) (tt := tYes) rfl n_clash_in.nd (pi_tup (pv 1)) (blkOk_by (N := ["firsts", "seconds", "many", "left", "right", "word", "apart", "one", "other"]) (sc := defScope s_clash_in) (by decide +kernel))
            (fun _ _ _ _ _ => pg_name (i := 5) n_clash_in.nd rfl (Or.inl rfl)) (fun _ _ _ _ _ => pts_nil) (fun _ _ _ _ _ => pv 5) (fun _ _ _ _ _ => pe_bl)) pa_nil)) (by rfl))
      <| pss_cons (ps_for PassesOwn.never rfl (pi_range2 (by rfl) N.rng (pa_cons pe_int (pa_cons (pe_op op_oneShl pe_int (pv 2)) pa_nil))) (pg_name (i := 6) n_clash_in.nd rfl (.inl rfl))
        <| pss_one <| ps_ifW (ptw_and1 (pt_cmp (pc_eqI (pe_op op_mod (pe_df Wt hr (by decide) pass0 (pa_cons (pv 6) pa_nil)) pe_int) pe_int))
            (ptw_cmp op_notN (pew_named (i := 7) n_clash_in.nd rfl (.inl rfl) (pew_of (pe_df Pw hr (by decide) pass0 (pa_cons (pv 0) (pa_cons (pv 3) (pa_cons (pv 6) pa_nil)))))) pe_non (nomark _)))
          (pss_one <| ps_ifW (ptw_cmp op_notN (pew_named (i := 8) n_clash_in.nd rfl (.inl rfl) (pew_of (pe_df Pw hr (by decide) pass0 (pa_cons (pv 1) (pa_cons (pv 4) (pa_cons (pv 6) pa_nil)))))) pe_non (nomark _))
            (pss_one (ps_ret (pe_tup (StX.pa_star (pv 7) (StX.pa_star (pv 8) pa_nil))))) pss_nil) pss_nil)
      <| pss_one <| ps_ret pe_non, ?_⟩
    obtain ⟨a, rfl, ha⟩ := hu
    obtain ⟨b, rfl, hb⟩ := hv
    have l1 := o1.le
    have l2 := o2.le
    dsimp only [tSeq, tPar, tCons, tNil]
    refine tdc_words rfl ha (lot_nodup o1) (by omega) (by intro x; rfl) (by intro x; rfl) fun Dl hDl => ?_
    have s1 : Same H (upd H Dl (.dK (wordK ws))) := same_new hDl
    refine tdc_words rfl (s1 _ _ hb) (lot_nodup o2) (by omega) (by intro x; rfl) (by intro x; rfl) fun Dr hDr => ?_
    have s2 : Same (upd H Dl (.dK (wordK ws))) (upd (upd H Dl (.dK (wordK ws))) Dr (.dK (wordK zs))) := same_new hDr
    have s3 := s1.trans s2
    refine ⟨_, _, rfl, ?_⟩
    have p2 : 2 ^ m ≤ 1024 := Nat.pow_le_pow_right (by decide : 0 < 2) m2
    have p1 : 0 < 2 ^ m := Nat.pow_pos (by decide)
    refine tfor_r2 (lo := 1) (n := 2 ^ m - 1) (hi := (2 : Int) ^ m) (fun S r => ⟨_, rfl, m, rfl, rfl, by omega, r⟩) (by
      have : ((2 ^ m : Nat) : Int) = (2 : Int) ^ m := by rw [Int.natCast_pow]; rfl
      omega) (by omega) (fun i σ' H' => Same (upd (upd H Dl (.dK (wordK ws))) Dr (.dK (wordK zs))) H' ∧ (∀ j, j < i → clashF ws zs (1 + j) = none) ∧
        ∃ z5 z6 z7 z8, σ' = [some (.ref a), some (.ref b), some (.int (m : Int)), some (.ref Dl), some (.ref Dr), z5, z6, z7, z8]) ⟨Same.refl _, fun j hj => absurd hj (Nat.not_lt_zero j), _, _, _, _, rfl⟩ ?_ ?_
    · rintro i _ H1 hi ⟨s4, hno, z5, z6, z7, z8, rfl⟩
      have next : ∀ H', Same (upd (upd H Dl (.dK (wordK ws))) Dr (.dK (wordK zs))) H' → clashF ws zs (1 + i) = none → Same (upd (upd H Dl (.dK (wordK ws))) Dr (.dK (wordK zs))) H' ∧ ∀ j, j < i + 1 → clashF ws zs (1 + j) = none := fun H' s e => ⟨s, fun j hj => by
        by_cases h : j < i
        · exact hno j h
        · rw [show j = i by omega]
          exact e⟩
      refine ⟨_, rfl, 1 + i, rfl, by omega, _, _, rfl, rfl, (by decide : (0 : Int) < 4), _, _, rfl, rfl, ?_⟩
      by_cases h4 : wt (1 + i) % 4 = 0
      · refine ⟨true, congrArg V.bl (decide_eq_true (by omega)), iteT ?_⟩
        have hL : SqT K H1 a ((ws.map fun (n : Nat) => (n : Int)).map V.int) := by
          rw [← vN_ints]
          exact .of (s4 _ _ (s3 _ _ ha))
        have hT1 := s4 _ _ (s3 _ _ hT)
        refine ⟨_, rfl, _, rfl, _, rfl, a, Dl, _, _, _, rfl, hL, .inl (s4 _ _ (s2 _ _ upd_same)), hT1, fun x hx p hp => ?_, fun hx => ?_⟩
        · rw [find_cast] at hx
          obtain ⟨x, hx2, rfl⟩ := Option.map_eq_some_iff.mp hx
          have sp : Same H1 (upd H1 p (.tup [.int (x : Int), .int (Builtin.bitXor (x : Int) ((1 + i : Nat) : Int))])) := same_new hp
          refine ⟨rfl, true, rfl, iteT ?_⟩
          have hL2 : SqT K (upd H1 p (.tup [.int (x : Int), .int (Builtin.bitXor (x : Int) ((1 + i : Nat) : Int))])) b ((zs.map fun (n : Nat) => (n : Int)).map V.int) := by
            rw [← vN_ints]
            exact .of (sp _ _ (s4 _ _ (s3 _ _ hb)))
          refine ⟨_, rfl, _, rfl, _, rfl, b, Dr, _, _, _, rfl, hL2, .inl (sp _ _ (s4 _ _ upd_same)), sp _ _ hT1, fun y hy p3 hp3 => ?_, fun hy => ?_⟩
          · rw [find_cast] at hy
            obtain ⟨y, hy2, rfl⟩ := Option.map_eq_some_iff.mp hy
            have sp3 := same_new (o := .tup [.int (y : Int), .int (Builtin.bitXor (y : Int) ((1 + i : Nat) : Int))]) hp3
            refine ⟨rfl, true, rfl, iteT ?_⟩
            refine ⟨_, rfl, p, _, rfl, .inl (.of (sp3 _ _ upd_same)), _, rfl, p3, _, rfl, .inl (.of upd_same), by show 4 ≤ sizeLine; decide, fun p4 hp4 => ?_⟩
            have hr : clashIn ws zs m = some (x, x ^^^ (1 + i), y, y ^^^ (1 + i)) := fs_some hi (by
              unfold clashF
              rw [if_pos h4, show pairW ws (1 + i) = some x from hx2, show pairW zs (1 + i) = some y from hy2]) hno
            refine q.2 _ hr p4 _ (((s3.trans s4).trans sp).trans (sp3.trans (same_new hp4))) ?_
            have n0 : H p4 = none := s3.free (s4.free (sp.free (sp3.free hp4)))
            rw [np_none n0, upd_same, xor_cast, xor_cast]
            rfl
          · rw [find_cast, Option.map_eq_none_iff] at hy
            refine ⟨rfl, false, rfl, iteF ?_⟩
            obtain ⟨g1, g2⟩ := next _ (s4.trans sp) (by
              unfold clashF
              rw [if_pos h4, show pairW ws (1 + i) = some x from hx2, show pairW zs (1 + i) = none from hy])
            exact ⟨g1, g2, _, _, _, _, rfl⟩
        · rw [find_cast, Option.map_eq_none_iff] at hx
          refine ⟨rfl, false, rfl, iteF ?_⟩
          obtain ⟨g1, g2⟩ := next _ s4 (by
            unfold clashF
            rw [if_pos h4, show pairW ws (1 + i) = none from hx])
          exact ⟨g1, g2, _, _, _, _, rfl⟩
      · refine ⟨false, congrArg V.bl (decide_eq_false (by omega)), iteF ?_⟩
        obtain ⟨g1, g2⟩ := next _ s4 (by
          unfold clashF
          rw [if_neg h4])
        exact ⟨g1, g2, _, _, _, _, rfl⟩
    · rintro _ H1 ⟨s4, hno, z5, z6, z7, z8, rfl⟩
      exact q.1 (fs_none hno) _ (s3.trans s4)
end
end Sq
/-! text SqAc -/
namespace Sq
open PySem PySem.Spec PyProof.Rows L2
theorem flat_N (ws : List Nat) : (vN ws).all flatV = true := by
  unfold vN
  rw [List.all_map]
  exact List.all_eq_true.mpr fun x _ => rfl
theorem in_N (x : Nat) : ∀ (ws : List Nat), inV (.int (x : Int)) (vN ws) = decide (x ∈ ws)
  | [] => rfl
  | y :: ws => by
    have ih := in_N x ws
    unfold inV at ih ⊢
    rw [show vN (y :: ws) = V.int (y : Int) :: vN ws from rfl, List.any_cons, ih]
    show (((y : Int) == (x : Int)) || decide (x ∈ ws)) = _
    by_cases h : x = y
    · subst h
      simp
    · have h3 : ((y : Int) == (x : Int)) = false := by simp; omega
      rw [h3]
      simp [h]
section
variable {P : Program} {w : World} {K : Fr} {mg : Str → Option Value} {base : Heap} {A : Ad} {T : Addr}
/-- two lots and the number of letters -/
def Args3 (vs : List V) (H : Hp) (m : Nat) (ws zs : List Nat) : Prop := ∃ u v : V, vs = [u, v, .int (m : Int)] ∧ LotV H u ws ∧ LotV H v zs ∧ LotOk m ws ∧ LotOk m zs ∧ 1 ≤ m ∧ m ≤ 10
def spClash (T : Addr) : Sp := fun vs H Q _ => ∃ (m : Nat) (ws zs : List Nat), Args3 vs H m ws zs ∧ H T = some (TabE T) ∧ ClashQ ws zs m H Q
theorem clashQ_later {ws zs : List Nat} {m : Nat} {H H1 : Hp} {Q : VK} (s : Same H H1) (q : ClashQ ws zs m H Q) : ClashQ ws zs m H1 Q :=
  ⟨fun e H' s' => q.1 e H' (s.trans s'), fun r e p H' s' hp => q.2 r e p H' (s.trans s') (np_early s _ _ hp)⟩
theorem df_clash (Rl : Df P w K mg base CX0 5 "require_lots" spLots) (Ci : Df P w K mg base CX0 4 "clash_in" (spCl T)) (D : At K mg "clash" s_clash ["firsts", "seconds", "many"]) : Df P w K mg base CX0 6 "clash" (spClash T) := by
  refine D.df fun f fd F => F.ok n_clash (fun vs H Q E h => ?_) (fun cdv A' outer s0 H vs Q E hr h => ?_)
  · obtain ⟨m, ws, zs, ⟨u, v, rfl, _⟩, _⟩ := h
    rfl
  · obtain ⟨m, ws, zs, ⟨u, v, rfl, hu, hv, o1, o2, m1, m2⟩, hT, q⟩ := h
    refine ⟨_, pss_cons (ps_expr (pe_df Rl hr (by decide) pass0 (pa_cons (pv 0) (pa_cons (pv 1) (pa_cons (pv 2) pa_nil))))) <| pss_one <| ps_ret <| pe_df Ci hr (by decide) pass0 (pa_cons (pv 0) (pa_cons (pv 1) (pa_cons (pv 2) pa_nil))), ?_⟩
    refine ⟨_, rfl, _, rfl, _, rfl, u, v, m, ws, zs, rfl, hu, hv, o1, o2, m1, m2, fun H1 s1 => ?_⟩
    exact ⟨_, rfl, _, rfl, _, rfl, u, v, m, ws, zs, rfl, LotV.mo _ _ _ _ s1 hu, LotV.mo _ _ _ _ s1 hv, o1, o2, m1, m2, s1 _ _ hT, clashQ_later s1 q⟩
def spLet (T : Addr) : Sp := fun vs H Q _ => ∃ (m : Nat) (ws zs : List Nat), Args3 vs H m ws zs ∧ H T = some (TabE T) ∧ ∀ H', Same H H' → Q (.bl (clashIn ws zs m).isNone) H'
theorem df_are_let (Rl : Df P w K mg base CX0 5 "require_lots" spLots) (Ci : Df P w K mg base CX0 4 "clash_in" (spCl T)) (D : At K mg "are_let" s_are_let ["firsts", "seconds", "many"]) : Df P w K mg base CX0 6 "are_let" (spLet T) := by
  refine D.df fun f fd F => F.ok n_are_let (fun vs H Q E h => ?_) (fun cdv A' outer s0 H vs Q E hr h => ?_)
  · obtain ⟨m, ws, zs, ⟨u, v, rfl, _⟩, _⟩ := h
    rfl
  · obtain ⟨m, ws, zs, ⟨u, v, rfl, hu, hv, o1, o2, m1, m2⟩, hT, q⟩ := h
    refine ⟨_, pss_cons (ps_expr (pe_df Rl hr (by decide) pass0 (pa_cons (pv 0) (pa_cons (pv 1) (pa_cons (pv 2) pa_nil))))) <| pss_one <| ps_ret <| pe_cmp <| pc_isN <| pe_df Ci hr (by decide) pass0 (pa_cons (pv 0) (pa_cons (pv 1) (pa_cons (pv 2) pa_nil))), ?_⟩
    refine ⟨_, rfl, _, rfl, _, rfl, u, v, m, ws, zs, rfl, hu, hv, o1, o2, m1, m2, fun H1 s1 => ?_⟩
    refine ⟨_, rfl, _, rfl, _, rfl, u, v, m, ws, zs, rfl, LotV.mo _ _ _ _ s1 hu, LotV.mo _ _ _ _ s1 hv, o1, o2, m1, m2, s1 _ _ hT, fun e H' s' => ?_, fun r e p H' s' hp => ?_⟩
    · rw [e] at q
      exact q H' (s1.trans s')
    · rw [e] at q
      exact q H' (s1.trans s')
theorem kit_non_tup : PySem.W.kitOne K (.type "NoneType") (.type "tuple") = some false := kit_ty (by decide +kernel)
/-- four words that clash -/
structure ClashOk (ws zs : List Nat) (r : Nat × Nat × Nat × Nat) : Prop where
  a : r.1 ∈ ws
  b : r.2.1 ∈ ws
  c : r.2.2.1 ∈ zs
  d : r.2.2.2 ∈ zs
  ab : r.1 < r.2.1
  cd : r.2.2.1 < r.2.2.2
  e : r.1 ^^^ r.2.1 = r.2.2.1 ^^^ r.2.2.2
  lt : r.1 ^^^ r.2.1 < 1024
  w : wt (r.1 ^^^ r.2.1) % 4 = 0
def spIc : Sp := fun vs H Q _ => ∃ (u v x : V) (m : Nat) (ws zs : List Nat), vs = [u, v, .int (m : Int), x] ∧ Args3 [u, v, .int (m : Int)] H m ws zs ∧
  ((x = .non ∧ ∀ H', Same H H' → Q (.bl false) H') ∨ ∃ p r, x = .ref p ∧ H p = some (.tup (vN (quad r))) ∧ ClashOk ws zs r ∧ ∀ H', Same H H' → Q (.bl true) H')
theorem df_is_clash (N : Nms mg) (Rl : Df P w K mg base CX0 5 "require_lots" spLots) (W : Df P w K mg base CX0 1 "is_whole" spIsWhole) (Wt : Df P w K mg base CX0 1 "weight_of" spWt) (D : At K mg "is_clash" s_is_clash ["firsts", "seconds", "many", "value"]) : Df P w K mg base CX0 6 "is_clash" spIc := by
  refine D.df fun f fd F => F.ok n_is_clash (fun vs H Q E h => ?_) (fun cdv A' outer s0 H vs Q E hr h => ?_)
  · obtain ⟨u, v, x, m, ws, zs, rfl, _⟩ := h
    rfl
  · obtain ⟨u, v, x, m, ws, zs, rfl, ⟨u', v', e', hu, hv, o1, o2, m1, m2⟩, q⟩ := h
    obtain ⟨rfl, rfl⟩ : u = u' ∧ v = v' := by
      injection e' with e1 e2
      injection e2 with e3 _
      exact ⟨e1, e3⟩
    refine ⟨_, pss_cons (ps_expr (pe_df Rl hr (by decide) pass0 (pa_cons (pv 0) (pa_cons (pv 1) (pa_cons (pv 2) pa_nil)))))
      <| pss_cons (ps_if (PW.pt (pw_or (pt_not (pt_val (kb_isiTup K N (pv 3)))) (pw_or (pt_cmp (pc_neI (kb_len K N (pa_cons (pv 3) pa_nil)) pe_int))
          (pw_or1 (pt_not (pt_val (kb_all K rfl N (pa_cons (pe_lc (own := [("word", 4)]) (g := gName 4) (tt := tYes) rfl n_is_clash.nd (pi_tup (pv 3)) (blkOk_by (N := ["firsts", "seconds", "many", "value", "word", "a", "b", "c", "d"]) (sc := defScope s_is_clash) (by decide +kernel))
            (fun _ _ _ _ _ => pg_name (i := 4) n_is_clash.nd rfl (Or.inl rfl)) (fun _ _ _ _ _ => pts_nil) (fun _ _ _ _ _ => pe_df W hr (by decide) pass0 (pa_cons (pv 4) pa_nil))) pa_nil)))))))) (pss_one (ps_ret pe_bl)) pss_nil)
      <| pss_cons (ps_asg (pv 3) (pg_tup rfl (pgs_cons (pg_name (i := 5) n_is_clash.nd rfl (.inl rfl)) (pgs_cons (pg_name (i := 6) n_is_clash.nd rfl (.inl rfl)) (pgs_cons (pg_name (i := 7) n_is_clash.nd rfl (.inl rfl)) (pgs_cons (pg_name (i := 8) n_is_clash.nd rfl (.inl rfl)) pgs_nil))))))
      <| pss_cons (ps_if (PW.pt (pw_or (pt_cmpR op_notIn_seq (pv 5) (pv 0) rfl) (pw_or (pt_cmpR op_notIn_seq (pv 6) (pv 0) rfl) (pw_or (pt_cmpR op_notIn_seq (pv 7) (pv 1) rfl) (pw_or1 (pt_cmpR op_notIn_seq (pv 8) (pv 1) rfl)))))) pss_never pss_nil)
      <| pss_one <| ps_ret <| pe_and (pe_cmp (pc_lt (pv 5) (pv 6))) <| pe_and (pe_cmp (pc_lt (pv 7) (pv 8))) <| pe_and (pe_cmp (pc_eqI (pe_op op_xor (pv 5) (pv 6)) (pe_op op_xor (pv 7) (pv 8)))) <| pe_one <| pe_cmp (pc_eqI (pe_op op_mod (pe_df Wt hr (by decide) pass0 (pa_cons (pe_op op_xor (pv 5) (pv 6)) pa_nil)) pe_int) pe_int), ?_⟩
    refine ⟨_, rfl, _, rfl, _, rfl, u, v, m, ws, zs, rfl, hu, hv, o1, o2, m1, m2, fun H1 s1 => ?_⟩
    rcases q with ⟨rfl, q⟩ | ⟨p, r, rfl, hp, ok, q⟩
    · exact ⟨_, rfl, _, _, _, _, false, rfl, .ty _, .base .non, kit_non_tup, false, rfl, iteT (q H1 s1)⟩
    · have hp1 := s1 _ _ hp
      refine ⟨_, rfl, _, _, _, _, true, rfl, .ty _, .base (.tup hp1), kit_tup_tup, true, rfl, iteF ?_⟩
      refine ⟨_, rfl, _, _, rfl, len_tup hp1, _, _, rfl, rfl, false, rfl, iteF ?_⟩
      dsimp only [tNot, tB, tCB, tCons, tNil]
      refine tlc_t (fun _ v _ => v = .bl true) bmono (gives_pv (by rfl)) (by intro x; rfl) ?_
      rintro _ _ ⟨rfl, rfl⟩
      refine ⟨_, .of hp1, by show 4 ≤ 100000; decide, fun i x H2 hx s2 Qe k => ?_, fun D2 H2 out s2 hD ho => ?_⟩
      · obtain ⟨n, _, rfl⟩ := vN_get hx
        exact ⟨_, rfl, _, rfl, k _ _ (Same.refl _) rfl⟩
      · have hf := outs_true ho
        subst hf
        refine ⟨D2, _, rfl, .of (np_at hD).2, true, congrArg V.bl (all_rep _), iteF ?_⟩
        have st := s1.trans s2
        obtain ⟨a, rfl, ha⟩ := LotV.mo _ _ _ _ st hu
        obtain ⟨b, rfl, hb⟩ := LotV.mo _ _ _ _ st hv
        refine ⟨_, rfl, p, _, rfl, .of (s2 _ _ hp1), rfl, _, _, rfl, _, _, rfl, _, _, rfl, _, _, rfl, rfl, ?_⟩
        refine ⟨_, rfl, _, rfl, a, _, rfl, .inr (.of ha), rfl, flat_N ws, false, ?_, iteF ?_⟩
        · show V.bl (!inV _ _) = _
          rw [in_N, decide_eq_true ok.a]
          rfl
        refine ⟨_, rfl, _, rfl, a, _, rfl, .inr (.of ha), rfl, flat_N ws, false, ?_, iteF ?_⟩
        · show V.bl (!inV _ _) = _
          rw [in_N, decide_eq_true ok.b]
          rfl
        refine ⟨_, rfl, _, rfl, b, _, rfl, .inr (.of hb), rfl, flat_N zs, false, ?_, iteF ?_⟩
        · show V.bl (!inV _ _) = _
          rw [in_N, decide_eq_true ok.c]
          rfl
        refine ⟨_, rfl, _, rfl, b, _, rfl, .inr (.of hb), rfl, flat_N zs, false, ?_, iteF ?_⟩
        · show V.bl (!inV _ _) = _
          rw [in_N, decide_eq_true ok.d]
          rfl
        have l1 := ok.ab
        have l2 := ok.cd
        refine ⟨_, rfl, _, rfl, _, _, rfl, rfl, true, congrArg V.bl (decide_eq_true (by omega)), iteT ?_⟩
        refine ⟨_, rfl, _, rfl, _, _, rfl, rfl, true, congrArg V.bl (decide_eq_true (by omega)), iteT ?_⟩
        refine ⟨_, rfl, _, rfl, _, _, rfl, rfl, _, rfl, _, rfl, _, _, rfl, rfl, _, _, rfl, rfl, true, congrArg V.bl (decide_eq_true ?_), iteT ?_⟩
        · rw [xor_cast, xor_cast, ok.e]
        · have hw := ok.w
          refine ⟨_, rfl, _, rfl, _, _, rfl, rfl, r.1 ^^^ r.2.1, ?_, ok.lt, _, _, rfl, rfl, (by decide : (0 : Int) < 4), _, _, rfl, rfl, ?_⟩
          · show [V.int (Builtin.bitXor _ _)] = _
            rw [xor_cast]
          · exact qbl (Q := Q) (decide_eq_true (by omega)) (q H2 st)
end
end Sq
/-! text SqAd -/
namespace Sq
open PySem PySem.Spec PyProof.Rows L2
/-! ### what is new beside one object -/
def nd (H0 H' : Hp) (F : Addr) : Hp := fun b => if b = F then none else np H0 H' b
theorem nd_at {H0 H' : Hp} {F b : Addr} {o : HO} (h : nd H0 H' F b = some o) : b ≠ F ∧ np H0 H' b = some o := by
  unfold nd at h
  split at h
  · cases h
  · next z => exact ⟨z, h⟩
theorem nd_ne {H0 H' : Hp} {F b : Addr} (h : b ≠ F) : nd H0 H' F b = np H0 H' b := if_neg h
theorem nd_sub {H0 Hc H' : Hp} {F : Addr} {o : HO} (s : Same H0 Hc) (hF : Hc F = some o) : Same (np Hc H') (nd H0 H' F) := fun b u e => by
  obtain ⟨e1, e2⟩ := np_at e
  have nb : b ≠ F := ne_some e1 hF
  rw [nd_ne nb, np_none (s.free e1)]
  exact e2
theorem nd_mono {H0 H' H2 : Hp} {F : Addr} (s : Same H' H2) : Same (nd H0 H' F) (nd H0 H2 F) := fun b u e => by
  obtain ⟨e1, e2⟩ := nd_at e
  rw [nd_ne e1]
  exact np_later s _ _ e2
theorem nd_upd {H0 H' : Hp} {F : Addr} {o : HO} : nd H0 (upd H' F o) F = nd H0 H' F := by
  funext b
  by_cases h : b = F
  · unfold nd
    rw [if_pos h, if_pos h]
  · rw [nd_ne h, nd_ne h]
    unfold np
    split
    · exact upd_ne h
    · rfl
theorem nd_np {H0 H' : Hp} {F : Addr} : Same (nd H0 H' F) (np H0 H') := fun b u e => (nd_at e).2
/-! ### the tables of words -/
def rowOf (m p : Nat) (s : Int) : List Int := (List.range (2 ^ m)).map fun i => if i = p then s else 0
def tabOf (m x : Nat) (zs : List Nat) : List (List Int) := zs.map fun y => rowOf m (x ^^^ y) (sgn (oddP x y m))
def tabs (m : Nat) (ws zs : List Nat) : List (List (List Int)) := ws.map fun x => tabOf m x zs
theorem rowOf_len (m p : Nat) (s : Int) : (rowOf m p s).length = 2 ^ m := by
  unfold rowOf
  rw [List.length_map, List.length_range]
theorem outs_map {α : Type} {R : Rl α} {n : Nat} {f : Nat → α} {H : Hp} {out : List V} (h : Outs (fun H v i => R H v (f i)) n H out) : Paired (R H) out ((List.range n).map f) := by
  refine pr_of (by rw [h.1, List.length_map, List.length_range]) fun i a b e1 e2 => ?_
  have hi : i < n := by
    have := (List.getElem?_eq_some_iff.mp e1).1
    rw [h.1] at this
    exact this
  rw [List.getElem?_map, List.getElem?_range hi] at e2
  cases e2
  exact h.2 i a e1
section
variable {P : Program} {w : World} {K : Fr} {mg : Str → Option Value} {base : Heap} {A : Ad} {T : Addr}
def spWf (A : Ad) (T : Addr) : Sp := fun vs H Q E => ∃ (m : Nat) (ws zs : List Nat), Args3 vs H m ws zs ∧ m ≤ 5 ∧ H T = some (TabE T) ∧
  (clashIn ws zs m = none → ∀ p H', Same H H' → FormV A H' (.ref p) (tabs m ws zs) → Q (.ref p) H') ∧
  (clashIn ws zs m ≠ none → ∀ d q H', Same H H' → H' d = some (.xd [("reason", .ref q)]) → H' q = some (.tup [.str "clash"]) → E (.ref A.refused) (some d) H')
theorem df_words_formula (N : Nms mg) (TR : TRef P K mg A.refused) (Rl : Df P w K mg base CX0 5 "require_lots" spLots) (Ci : Df P w K mg base CX0 4 "clash_in" (spCl T)) (Sg : Df P w K mg base CX0 3 "sign_of_words" spSgn)
    (Ro : Df P w K mg base CX0 4 "ratio_of" (spRatioOf A)) (Kf : Df P w K mg base CX0 8 "kept_formula" (spKf A)) (D : At K mg "words_formula" s_words_formula ["firsts", "seconds", "many"]) : Df P w K mg base (L2.CX P w) 9 "words_formula" (spWf A T) := by
  obtain ⟨tc, hcl⟩ := N.cla
  obtain ⟨tm, hma⟩ := N.mad
  refine D.df fun f fd F => F.okX n_words_formula (fun vs H Q E h => ?_) (fun cdv A' outer s0 H vs Q E hr h => ?_)
  · obtain ⟨m, ws, zs, ⟨u, v, rfl, _⟩, _⟩ := h
    rfl
  · obtain ⟨m, ws, zs, ⟨u, v, rfl, hu, hv, o1, o2, m1, m2⟩, m5, hT, q1, q2⟩ := h
    refine ⟨_, pss_cons (ps_expr (pe_df Rl hr (by decide) pass0 (pa_cons (pv 0) (pa_cons (pv 1) (pa_cons (pv 2) pa_nil)))))
      <| pss_cons (ps_if (pt_cmp (pc_gt (pv 2) (pe_gi hma))) pss_never pss_nil)
      <| pss_cons (ps_if (pt_cmp (pc_notN (pe_df Ci hr (by decide) pass0 (pa_cons (pv 0) (pa_cons (pv 1) (pa_cons (pv 2) pa_nil)))))) (pss_one (ps_raise rfl (takes_of rfl rfl rfl rfl) (pmk_refused (k := 6) TR hr rfl (pa_cons (pe_tup (pa_cons (pe_glob (v := .str "clash") rfl hcl ⟨tc, rfl⟩ (by decide)) pa_nil)) pa_nil)))) pss_nil)
      <| PSs.nox <| pss_cons (ps_par (i := 3) (j := 4) rfl n_words_formula.nd rfl rfl (by decide) rfl rfl (pa_cons (pe_op op_oneShl pe_int (pv 2)) (pa_cons (pe_lst pa_nil) pa_nil)) (by rfl))
      <| pss_cons (ps_for PassesOwn.never rfl (pi_tup (pv 0)) (pg_name (i := 5) n_words_formula.nd rfl (.inr rfl))
        <| pss_cons (ps_set (i := 6) n_words_formula.nd rfl (.inl rfl) (pe_lst pa_nil))
        <| pss_cons (ps_for PassesOwn.never rfl (pi_tup (pv 1)) (pg_name (i := 7) n_words_formula.nd rfl (.inr rfl))
          <| pss_cons (ps_set (i := 8) n_words_formula.nd rfl (.inr rfl) (pe_df Sg hr (by decide) pass0 (pa_cons (pv 5) (pa_cons (pv 7) (pa_cons (pv 2) pa_nil)))))
          <| pss_one <| ps_expr <| kb_app K (pv 6) (pe_lc (own := [("place", 9)]) (g := gName 9) (tt := tYes) rfl n_words_formula.nd (pi_range1 (by rfl) N.rng (pa_cons (pv 3) pa_nil)) (blkOk_by (N := ["firsts", "seconds", "many", "size", "found", "x", "rows", "y", "sign", "place"]) (sc := defScope s_words_formula) (by decide +kernel))
            (fun _ _ _ _ _ => pg_name (i := 9) n_words_formula.nd rfl (Or.inl rfl)) (fun _ _ _ _ _ => pts_nil)
            (fun _ _ _ _ _ => pe_df Ro hr (by decide) pass0 (pa_cons (pe_op op_mul (pv 8) (kb_int N (pa_cons (pe_cmp (pc_eqI (pv 9) (pe_op op_xor (pv 5) (pv 7)))) pa_nil))) (pa_cons pe_int pa_nil)))))
        <| pss_one <| ps_expr <| kb_app K (pv 4) (pv 6))
      <| pss_one <| ps_ret <| pe_df Kf hr (by decide) pass0 (pa_cons (pv 4) pa_nil), ?_⟩
    refine ⟨_, rfl, _, rfl, _, rfl, u, v, m, ws, zs, rfl, hu, hv, o1, o2, m1, m2, fun H1 s1 => ?_⟩
    refine ⟨_, rfl, _, _, rfl, rfl, false, congrArg V.bl (decide_eq_false (by omega)), iteF ?_⟩
    refine ⟨_, rfl, _, rfl, _, rfl, u, v, m, ws, zs, rfl, LotV.mo _ _ _ _ s1 hu, LotV.mo _ _ _ _ s1 hv, o1, o2, m1, m2, s1 _ _ hT, fun e H2 s2 => ?_, fun r e p H2 s2 hp => ?_⟩
    · refine ⟨false, rfl, iteF ?_⟩
      have st := s1.trans s2
      obtain ⟨a, rfl, ha⟩ := LotV.mo _ _ _ _ st hu
      obtain ⟨b, rfl, hb⟩ := LotV.mo _ _ _ _ st hv
      have l1 := o1.le
      have l2 := o2.le
      have p32 : 2 ^ m ≤ 32 := Nat.pow_le_pow_right (by decide : 0 < 2) m5
      have hpow : ((2 ^ m : Nat) : Int) = (2 : Int) ^ m := by
        rw [Int.natCast_pow]
        rfl
      refine ⟨_, rfl, m, rfl, rfl, by omega, Nat.zero_le _, fun Fl hF => ⟨_, _, rfl, ?_⟩⟩
      have sF : Same H2 (upd H2 Fl (.lst [])) := same_new hF
      dsimp only
      refine tfor_t (gives_pv (by rfl)) ?_
      rintro _ _ ⟨rfl, rfl⟩
      refine ⟨_, .of (sF _ _ ha), fun i σ' H' => Same H2 H' ∧ (∃ out, H' Fl = some (.lst out) ∧ Paired (Li (Li (RatV A)) (nd H2 H' Fl)) out ((tabs m ws zs).take i)) ∧
        ∃ z5 z6 z7 z8 z9, σ' = [some (.ref a), some (.ref b), some (.int (m : Int)), some (.int ((2 : Int) ^ m)), some (.ref Fl), z5, z6, z7, z8, z9], ⟨sF, ⟨[], upd_same, .nil⟩, _, _, _, _, _, rfl⟩, ?_, ?_, ?_⟩
      · rintro i _ _ _ ⟨s3, _⟩
        exact .of (s3 _ _ ha)
      · rintro i x _ H3 hx ⟨s3, ⟨out, ho, pr⟩, z5, z6, z7, z8, z9, rfl⟩
        obtain ⟨x, hx2, rfl⟩ := vN_get hx
        dsimp only [tSeq, tAsg, gName, tLst, tNil]
        refine ⟨Nat.zero_le _, fun G hG => ?_⟩
        have sG : Same H3 (upd H3 G (.lst [])) := same_new hG
        refine tfor_t (gives_pv (by rfl)) ?_
        rintro _ _ ⟨rfl, rfl⟩
        refine ⟨_, .of (sG _ _ (s3 _ _ hb)), fun j σ' H' => Same H3 H' ∧ (∃ out2, H' G = some (.lst out2) ∧ Paired (Li (RatV A) (nd H3 H' G)) out2 ((tabOf m x zs).take j)) ∧
          ∃ z7 z8 z9, σ' = [some (.ref a), some (.ref b), some (.int (m : Int)), some (.int ((2 : Int) ^ m)), some (.ref Fl), some (.int (x : Int)), some (.ref G), z7, z8, z9], ⟨sG, ⟨[], upd_same, .nil⟩, _, _, _, rfl⟩, ?_, ?_, ?_⟩
        · rintro j _ _ _ ⟨s4, _⟩
          exact .of (s4 _ _ (s3 _ _ hb))
        · rintro j y _ H4 hy ⟨s4, ⟨out2, ho2, pr2⟩, z7, z8, z9, rfl⟩
          obtain ⟨y, hy2, rfl⟩ := vN_get hy
          dsimp only [tDrop, tAppE]
          refine ⟨_, rfl, _, rfl, _, rfl, x, y, m, rfl, by omega, fun H5 s5 => ?_⟩
          have hG5 := s5 _ _ ho2
          refine ⟨_, rfl, .inl ⟨rfl, _, .of hG5⟩, ?_⟩
          dsimp only [tCons, tNil]
          refine tlc_r1 (n := 2 ^ m) (fun N v i => RatV A N v (if i = x ^^^ y then sgn (oddP x y m) else 0)) (fun _ _ _ _ s h => RatV.mo _ _ _ _ s h) (fun S r => ⟨_, rfl, by rw [← hpow]; exact r⟩) (by omega) (by intro x; rfl) (fun i H6 hi s6 Qe k => ?_) (fun D6 H6 out6 s6 hD ho6 => ?_)
          · refine ⟨_, rfl, _, rfl, _, rfl, _, rfl, _, _, rfl, rfl, _, _, rfl, rfl, .inr ⟨_, rfl, _, _, rfl, rfl, .inl ?_, _, rfl, fun p H7 s7 o => k _ _ s7 ⟨p, rfl, ?_⟩⟩⟩
            · unfold sgn
              split <;> exact ⟨by decide, by decide⟩
            · have e2 : sgn (oddP x y m) * (if decide ((i : Int) = Builtin.bitXor (x : Int) (y : Int)) = true then 1 else 0) = if i = x ^^^ y then sgn (oddP x y m) else 0 := by
                rw [xor_cast]
                by_cases hc : i = x ^^^ y
                · rw [decide_eq_true (by omega), if_pos rfl, if_pos hc, Int.mul_one]
                · rw [decide_eq_false (by omega), if_neg (by decide), if_neg hc, Int.mul_zero]
              have o2 : IsR A (sgn (oddP x y m) * (if decide ((i : Int) = Builtin.bitXor (x : Int) (y : Int)) = true then 1 else 0)) (np H6 H7) p := o
              rw [e2] at o2
              exact o2
          · have tj : (tabOf m x zs)[j]? = some (rowOf m (x ^^^ y) (sgn (oddP x y m))) := by
              unfold tabOf
              rw [List.getElem?_map, hy2]
              rfl
            have lo2 : out2.length ≤ 100 := by
              rw [pr_len pr2, List.length_take]
              unfold tabOf
              rw [List.length_map]
              omega
            refine ⟨G, out2, _, rfl, rfl, s6 _ _ hG5, szt (by omega), same_mut (s4.trans (s5.trans s6)) hG, ⟨_, upd_same, ?_⟩, _, _, _, rfl⟩
            rw [nd_upd, List.take_add_one, tj]
            have sub := nd_sub (H' := H6) (s4.trans s5) hG5
            exact pr_app (paired_mo (Li.mo RatV.mo) (nd_mono (s5.trans s6)) pr2) (.cons ⟨D6, out6, rfl, sub _ _ hD, paired_mo RatV.mo sub (outs_map ho6)⟩ .nil)
        · rintro _ H4 ⟨s4, ⟨out2, ho2, pr2⟩, z7, z8, z9, rfl⟩
          have lt : (tabOf m x zs).length = (vN zs).length := by
            unfold tabOf
            rw [List.length_map, vN_len]
          rw [← lt, List.take_length] at pr2
          have ti : (tabs m ws zs)[i]? = some (tabOf m x zs) := by
            unfold tabs
            rw [List.getElem?_map, hx2]
            rfl
          have lo : out.length ≤ 100 := by
            rw [pr_len pr, List.length_take]
            unfold tabs
            rw [List.length_map]
            omega
          have ho4 := s4 _ _ ho
          have nGF : G ≠ Fl := ne_some hG ho
          refine ⟨_, rfl, .inl ⟨rfl, _, .of ho4⟩, _, rfl, Fl, out, _, rfl, rfl, ho4, szt (by omega), same_mut (s3.trans s4) hF, ⟨_, upd_same, ?_⟩, _, _, _, _, _, rfl⟩
          rw [nd_upd, List.take_add_one, ti]
          refine pr_app (paired_mo (Li.mo (Li.mo RatV.mo)) (nd_mono s4) pr) (.cons ⟨G, out2, rfl, ?_, paired_mo (Li.mo RatV.mo) (nd_np.trans (nd_sub s3 ho)) pr2⟩ .nil)
          rw [nd_ne nGF, np_none (s3.free hG)]
          exact ho2
      · rintro _ H3 ⟨s3, ⟨out, ho, pr⟩, z5, z6, z7, z8, z9, rfl⟩
        have lt : (tabs m ws zs).length = (vN ws).length := by
          unfold tabs
          rw [List.length_map, vN_len]
        rw [← lt, List.take_length] at pr
        refine ⟨_, rfl, _, tabs m ws zs, rfl, ⟨Fl, out, rfl, ho, paired_mo (Li.mo (Li.mo RatV.mo)) (nd_np.trans np_same) pr⟩, by rw [lt, vN_len]; omega, fun t ht => ?_, fun p H4 s4 fv => q1 e p H4 (st.trans (s3.trans s4)) fv⟩
        obtain ⟨x, _, rfl⟩ := List.mem_map.mp ht
        refine ⟨by unfold tabOf; rw [List.length_map]; omega, fun xs hxs => ?_⟩
        obtain ⟨y, _, rfl⟩ := List.mem_map.mp hxs
        rw [rowOf_len]
        omega
    · refine ⟨true, rfl, iteT ?_⟩
      refine ⟨by show 1 ≤ sizeLine; decide, fun q hq => ⟨_, rfl, fun d hd => ?_⟩⟩
      have sq := same_new (o := .tup [.str "clash"]) hq
      have sd := same_new (o := .xd [("reason", .ref q)]) hd
      exact q2 (by rw [e]; simp) d q _ (((s1.trans s2).trans sq).trans sd) upd_same (sd _ _ upd_same)
end
end Sq
/-! text SqBa -/
namespace Sq
open PySem PySem.Spec PyProof.Rows L2
/-! ### the law's jug -/
def JugV (H : Hp) (j : Addr) : Prop := ∃ a b c : Int, H j = some (.lst [.int a, .int b, .int c])
/-- all but j is kept -/
def SameX (j : Addr) (H H' : Hp) : Prop := ∀ b o, b ≠ j → H b = some o → H' b = some o
theorem SameX.trans {j : Addr} {H H1 H2 : Hp} (s : SameX j H H1) (t : SameX j H1 H2) : SameX j H H2 := fun b o n e => t b o n (s b o n e)
theorem SameX.of {j : Addr} {H H' : Hp} (s : Same H H') : SameX j H H' := fun b o _ e => s b o e
section
variable {P : Program} {w : World} {K : Fr} {mg : Str → Option Value} {base : Heap} {A : Ad} {T : Addr}
def spJug (K : Fr) : Sp := fun vs H Q _ => ∃ (l : Addr) (ns : List Int) (s : Nat), vs = [.ref l, .int (s : Int)] ∧ SqL K H l (ns.map V.int) ∧ s ≤ 1 ∧ ∀ D H', Same H H' → H D = none → JugV H' D → Q (.ref D) H'
theorem df_L_jug (N : Nms mg) (D : At K mg "_law_jug" s_L_jug ["_law_script", "_law_spot"]) : Df P w K mg base CX0 1 "_law_jug" (spJug K) := by
  refine D.df fun f fd F => F.ok n_L_jug (fun vs H Q E h => ?_) (fun cdv A' outer s0 H vs Q E hr h => ?_)
  · obtain ⟨l, ns, s, rfl, _⟩ := h
    rfl
  · obtain ⟨l, ns, s, rfl, hl, hs, q⟩ := h
    refine ⟨_, pss_cons (ps_set (i := 2) n_L_jug.nd rfl (.inl rfl) (pe_ifExp (pt_cmp (pc_lt (pv 1) (kb_len K N (pa_cons (pv 0) pa_nil)))) (kb_int N (pa_cons (pe_ix ix_list (pv 0) (pv 1) (fun _ _ => rfl)) pa_nil))
          (pe_op op_add (pe_op op_add (pe_op op_mul pe_int (pv 1)) pe_int) (pe_op op_mod (kb_int N (pa_cons (kb_sum K rfl N (pa_cons (pe_slice sl_list (pv 0) po_none (po_some pe_int)) pa_nil)) pa_nil)) pe_int))))
      <| pss_cons (ps_set (i := 3) n_L_jug.nd rfl (.inl rfl) (pe_op op_mod (kb_int N (pa_cons (kb_abs N (pa_cons (pv 2) pa_nil)) pa_nil)) (pe_op op_powW (pe_op op_pow pe_int pe_int) pe_int)))
      <| pss_cons (ps_set (i := 4) n_L_jug.nd rfl (.inl rfl) (pe_op op_mod (kb_int N (pa_cons (pe_op op_add (pe_op op_add (pe_op op_add (pe_op op_mul (pe_op op_mod (pv 3) pe_int) pe_int) (pe_op op_mul pe_int (pv 1))) (pe_op op_mul pe_int (kb_int N (pa_cons (pe_cmp (pc_lt (pv 2) pe_int)) pa_nil)))) pe_int) pa_nil)) pe_int))
      <| pss_one <| ps_ret <| pe_lst <| pa_cons (kb_max rfl N (pa_cons pe_int (pa_cons (pe_op op_sub (pv 3) (pe_op op_pow pe_int pe_int)) pa_nil))) <| pa_cons (pv 4) <| pa_cons pe_int pa_nil, ?_⟩
    have ll : LenV K (.ref l) H (ns.map V.int).length := .inl ⟨_, hl, rfl⟩
    rw [List.length_map] at ll
    by_cases hc : s < ns.length
    · refine ⟨_, rfl, _, rfl, _, _, rfl, ll, _, _, rfl, rfl, true, congrArg V.bl (decide_eq_true (by omega)), iteT ?_⟩
      have s1 : Same H H := Same.refl H
      have e : (ns.map V.int)[s]? = some (.int ns[s]) := by rw [List.getElem?_map, List.getElem?_eq_getElem hc]; rfl
      refine ⟨_, rfl, _, rfl, l, _, _, _, rfl, rfl, hl, atI_n e, .inl ⟨_, rfl, ?_⟩⟩
      refine ⟨_, rfl, _, rfl, .inl ⟨_, rfl, 10, 59, rfl, rfl, ⟨by decide, by decide, by decide⟩, _, 8, rfl, rfl, ⟨by decide, by decide +kernel⟩, _, _, rfl, rfl, (by decide +kernel : (0 : Int) < (10 ^ (59 : Int).toNat) ^ (8 : Int).toNat), ?_⟩⟩
      refine ⟨_, rfl, _, _, rfl, rfl, (by decide : (0 : Int) < 2305843009213693921), _, _, rfl, rfl, .inr ⟨by decide, by decide⟩, _, rfl, _, _, rfl, rfl, .inl ⟨by decide, by decide⟩, _, _, rfl, rfl, _, rfl, _, _, rfl, rfl, .inr ⟨_, rfl, _, _, rfl, rfl, .inl ⟨by decide, by decide⟩, _, _, rfl, rfl, _, _, rfl, rfl, .inl ⟨_, rfl, _, _, rfl, rfl, (by decide : (0 : Int) < 2305843009213693951), ?_⟩⟩⟩
      refine ⟨_, rfl, 10, 17, rfl, rfl, ⟨by decide, by decide, by decide⟩, _, _, rfl, rfl, _, _, rfl, _, rfl, by show 3 ≤ sizeLine; decide, fun D hD => ?_⟩
      exact q D _ (s1.trans (same_new hD)) (s1.free hD) ⟨_, _, _, upd_same⟩
    · refine ⟨_, rfl, _, rfl, _, _, rfl, ll, _, _, rfl, rfl, false, congrArg V.bl (decide_eq_false (by omega)), iteF ?_⟩
      refine ⟨_, rfl, _, _, rfl, rfl, .inl ⟨by decide, by decide⟩, _, _, rfl, rfl, ?_⟩
      refine gives_hi (k := 1) (fun R r => ⟨_, rfl, r⟩) (fun R r => r) hl _ fun p H1 z => ?_
      obtain ⟨hp, rfl⟩ := z
      have s1 : Same H (upd H p (.lst ((ns.map V.int).take 1))) := same_new hp
      refine ⟨p, ns.take 1, rfl, .of (by rw [List.map_take]; exact upd_same), .inl ⟨_, rfl, _, _, rfl, rfl, (by decide : (0 : Int) < 1000033), _, _, rfl, rfl, ?_⟩⟩
      refine ⟨_, rfl, _, rfl, .inl ⟨_, rfl, 10, 59, rfl, rfl, ⟨by decide, by decide, by decide⟩, _, 8, rfl, rfl, ⟨by decide, by decide +kernel⟩, _, _, rfl, rfl, (by decide +kernel : (0 : Int) < (10 ^ (59 : Int).toNat) ^ (8 : Int).toNat), ?_⟩⟩
      refine ⟨_, rfl, _, _, rfl, rfl, (by decide : (0 : Int) < 2305843009213693921), _, _, rfl, rfl, .inr ⟨by decide, by decide⟩, _, rfl, _, _, rfl, rfl, .inl ⟨by decide, by decide⟩, _, _, rfl, rfl, _, rfl, _, _, rfl, rfl, .inr ⟨_, rfl, _, _, rfl, rfl, .inl ⟨by decide, by decide⟩, _, _, rfl, rfl, _, _, rfl, rfl, .inl ⟨_, rfl, _, _, rfl, rfl, (by decide : (0 : Int) < 2305843009213693951), ?_⟩⟩⟩
      refine ⟨_, rfl, 10, 17, rfl, rfl, ⟨by decide, by decide, by decide⟩, _, _, rfl, rfl, _, _, rfl, _, rfl, by show 3 ≤ sizeLine; decide, fun D hD => ?_⟩
      exact q D _ (s1.trans (same_new hD)) (s1.free hD) ⟨_, _, _, upd_same⟩
def spPour : Sp := fun vs H Q _ => ∃ (j : Addr) (n : Nat), vs = [.ref j, .int (n : Int)] ∧ JugV H j ∧ 0 < n ∧ n ≤ 1000 ∧ ∀ (r : Nat) H', r < n → SameX j H H' → JugV H' j → Q (.int (r : Int)) H'
theorem df_L_pour (N : Nms mg) (D : At K mg "_law_pour" s_L_pour ["_law_jug_here", "_law_many"]) : Df P w K mg base CX0 1 "_law_pour" spPour := by
  refine D.df fun f fd F => F.ok n_L_pour (fun vs H Q E h => ?_) (fun cdv A' outer s0 H vs Q E hr h => ?_)
  · obtain ⟨j, n, rfl, _⟩ := h
    rfl
  · obtain ⟨j, n, rfl, ⟨a, b, c, hj⟩, h0, h1, q⟩ := h
    refine ⟨_, pss_cons (ps_if (pt_cmp (pc_gt (kb_ixL K (pv 0)) pe_int))
        (pss_cons (ps_set (i := 2) n_L_pour.nd rfl (.inl rfl) (pe_op op_mod (kb_int N (pa_cons (kb_ixL K (pv 0)) pa_nil)) (pv 1)))
          <| pss_cons (ps_asg (pe_op op_fdiv (kb_ixL K (pv 0)) (pv 1)) (pg_sub (pv 0) pe_int set_list)) <| pss_one <| ps_ret (pv 2)) pss_nil)
      <| pss_cons (ps_asg (pe_op op_add (kb_ixL K (pv 0)) pe_int) (pg_sub (pv 0) pe_int set_list))
      <| pss_cons (ps_set (i := 3) n_L_pour.nd rfl (.inl rfl) (pe_op op_mod (kb_int N (pa_cons (pe_op op_add (kb_ixL K (pv 0)) (pe_op op_mul pe_int (kb_ixL K (pv 0)))) pa_nil)) pe_int))
      <| pss_cons (ps_set (i := 4) n_L_pour.nd rfl (.inl rfl) (pe_op op_add (pe_op op_add (pe_op op_mul (pe_op op_mod (kb_int N (pa_cons (pe_op op_mul (pv 3) (pv 3)) pa_nil)) pe_int) pe_int) (pv 3)) (pe_op op_mul pe_int (kb_ixL K (pv 0)))))
      <| pss_one <| ps_ret <| pe_op op_mod (kb_int N (pa_cons (pe_op op_fdiv (pv 4) pe_int) pa_nil)) (pv 1), ?_⟩
    have fin : ∀ (z : Int) (H' : Hp), SameX j H H' → JugV H' j → Q (.int (z % (n : Int))) H' := fun z H' s v => by
      have hp : 0 ≤ z % (n : Int) := Int.emod_nonneg _ (by omega)
      have hl : z % (n : Int) < n := Int.emod_lt_of_pos _ (by omega)
      have h := q (z % (n : Int)).toNat H' (by omega) s v
      rw [Int.toNat_of_nonneg hp] at h
      exact h
    have sx : ∀ (H' : Hp) (o : HO), SameX j H H' → SameX j H (upd H' j o) := fun H' o s b u nb e => by
      rw [upd_ne nb]
      exact s b u nb e
    by_cases ha : 0 < a
    · refine ⟨_, rfl, j, _, 0, _, rfl, rfl, .of hj, rfl, _, _, rfl, rfl, true, congrArg V.bl (decide_eq_true (by omega)), iteT ?_⟩
      refine ⟨_, rfl, j, _, 0, _, rfl, rfl, .of hj, rfl, .inl ⟨_, rfl, _, rfl, _, _, rfl, rfl, (by omega : (0 : Int) < n), ?_⟩⟩
      refine ⟨_, rfl, j, _, 0, _, rfl, rfl, .of hj, rfl, _, rfl, _, _, rfl, rfl, ⟨by omega, by omega⟩, _, rfl, j, _, 0, 0, rfl, rfl, hj, rfl, ?_⟩
      exact ⟨_, rfl, fin _ _ (sx _ _ (SameX.of (Same.refl H))) ⟨_, _, _, upd_same⟩⟩
    · refine ⟨_, rfl, j, _, 0, _, rfl, rfl, .of hj, rfl, _, _, rfl, rfl, false, congrArg V.bl (decide_eq_false (by omega)), iteF ?_⟩
      refine ⟨_, rfl, j, _, 2, _, rfl, rfl, .of hj, rfl, _, _, rfl, rfl, _, rfl, j, _, 2, 2, rfl, rfl, hj, rfl, ?_⟩
      have h3 : upd H j (.lst ([V.int a, .int b, .int c].set 2 (.int (c + 1)))) j = some (.lst [.int a, .int b, .int (c + 1)]) := upd_same
      refine ⟨_, rfl, j, _, 1, _, rfl, rfl, .of h3, rfl, _, rfl, j, _, 2, _, rfl, rfl, .of h3, rfl, _, _, rfl, rfl, .inl ⟨by decide, by decide⟩, _, _, rfl, rfl, .inl ⟨_, rfl, _, _, rfl, rfl, (by decide : (0 : Int) < 2305843009213693967), ?_⟩⟩
      refine ⟨_, rfl, _, rfl, _, _, rfl, rfl, .inl ⟨?_, ?_⟩, .inl ⟨_, rfl, _, _, rfl, rfl, (by decide : (0 : Int) < 2305843009213693951), _, _, rfl, rfl, .inr ⟨by decide, by decide⟩, _, rfl, _, _, rfl, rfl, _, rfl, j, _, 2, _, rfl, rfl, .of h3, rfl, _, _, rfl, rfl, .inl ⟨by decide, by decide⟩, _, _, rfl, rfl, ?_⟩⟩
      · omega
      · omega
      · refine ⟨_, rfl, _, _, rfl, rfl, ⟨by decide, by decide⟩, .inl ⟨_, rfl, _, rfl, _, _, rfl, rfl, (by omega : (0 : Int) < n), ?_⟩⟩
        exact fin _ _ (sx _ _ (SameX.of (Same.refl H))) ⟨_, _, _, h3⟩
end
end Sq
/-! text SqBb -/
namespace Sq
open PySem PySem.Spec PyProof.Rows L2
theorem bits_succ (x m : Nat) : bits x (m + 1) = bits x m ++ [x / 2 ^ m % 2] := by
  unfold bits
  rw [List.range_succ, List.map_append]
  rfl
theorem vN_snoc (ns : List Nat) (n : Nat) : vN (ns ++ [n]) = vN ns ++ [V.int (n : Int)] := by
  unfold vN
  rw [List.map_append]
  rfl
theorem bitsAt {x m j : Nat} (h : j < m) : (vN (bits x m))[j]? = some (.int ((x / 2 ^ j % 2 : Nat) : Int)) := by
  unfold vN bits
  rw [List.getElem?_map, List.getElem?_map, List.getElem?_range h]
  rfl
/-- a sum of n terms -/
def sm (f : Nat → Nat) : Nat → Nat
  | 0 => 0
  | n + 1 => sm f n + f n
def lt1 (x p : Nat) : Nat := x / 2 ^ p % 2
def tri (x y k j i : Nat) : Nat := lt1 x i * lt1 x j * lt1 y k + lt1 x i * lt1 y j * lt1 x k + lt1 y i * lt1 x j * lt1 x k
def duo (x y k j : Nat) : Nat := lt1 x j * lt1 y k + sm (tri x y k j) (if j < k then j else 0)
def oddL (x y m : Nat) : Nat := sm (fun k => sm (duo x y k) (k + 1)) m
theorem xor_step (a b : Nat) : a ^^^ b = (if a % 2 = b % 2 then 0 else 1) + 2 * (a / 2 ^^^ b / 2) := by
  have h1 : (a ^^^ b) / 2 = a / 2 ^^^ b / 2 := Nat.xor_div_two
  have h2 := @Nat.xor_mod_two_eq_one a b
  split <;> omega
section
variable {P : Program} {w : World} {K : Fr} {mg : Str → Option Value} {base : Heap} {A : Ad} {T : Addr}
theorem df_L_letters (N : Nms mg) (D : At K mg "_law_letters" s_L_letters ["_law_x", "_law_many"]) : Df P w K mg base CX0 1 "_law_letters" spLetters := by
  refine D.df fun f fd F => F.ok n_L_letters (fun vs H Q E h => ?_) (fun cdv A' outer s0 H vs Q E hr h => ?_)
  · obtain ⟨x, m, rfl, _⟩ := h
    rfl
  · obtain ⟨x, m, rfl, hm, q⟩ := h
    refine ⟨_, pss_cons (ps_par (i := 2) (j := 3) rfl n_L_letters.nd rfl rfl (by decide) rfl rfl (pa_cons (pe_lst pa_nil) (pa_cons (kb_int N (pa_cons (pv 0) pa_nil)) pa_nil)) (by rfl))
      <| pss_cons (ps_for PassesOwn.never rfl (pi_range1 (by rfl) N.rng (pa_cons (pv 1) pa_nil)) (pg_name (i := 4) n_L_letters.nd rfl (.inl rfl))
        <| pss_cons (ps_expr (kb_app K (pv 2) (pe_op op_mod (pv 3) pe_int))) <| pss_one <| ps_set (i := 3) n_L_letters.nd rfl (.inl rfl) (pe_op op_fdiv (pv 3) pe_int))
      <| pss_one <| ps_ret (pv 2), ?_⟩
    refine ⟨Nat.zero_le _, fun G hG => ⟨_, rfl, .inl ⟨_, rfl, _, _, rfl, ?_⟩⟩⟩
    have sG : Same H (upd H G (.lst [])) := same_new hG
    dsimp only
    refine tfor_r1 (n := m) (fun S r => ⟨_, rfl, r⟩) (by omega) (fun i σ' H' => Same H H' ∧ H' G = some (.lst (vN (bits x i))) ∧ ∃ z4, σ' = [some (.int (x : Int)), some (.int (m : Int)), some (.ref G), some (.int ((x / 2 ^ i : Nat) : Int)), z4]) ⟨sG, upd_same, none, by rw [Nat.pow_zero, Nat.div_one]; rfl⟩ ?_ ?_
    · rintro i _ H1 hi ⟨s1, h1, z4, rfl⟩
      have lb := bits_len x i
      refine ⟨_, rfl, .inl ⟨rfl, _, .of h1⟩, _, rfl, _, _, rfl, rfl, (by decide : (0 : Int) < 2), G, _, _, rfl, rfl, h1, szt (by rw [vN_len, lb]; omega), ?_⟩
      refine ⟨_, rfl, _, _, rfl, rfl, ⟨by decide, by decide⟩, same_mut s1 hG, ?_, some (.int (i : Int)), ?_⟩
      · rw [bits_succ, vN_snoc]
        exact upd_same
      · rw [Nat.pow_succ, ← Nat.div_div_eq_div_mul]
        rfl
    · rintro _ H1 ⟨s1, h1, z4, rfl⟩
      exact ⟨_, rfl, q G H1 s1 ((np_none hG).trans h1)⟩
theorem df_L_weight (N : Nms mg) (D : At K mg "_law_weight" s_L_weight ["_law_x"]) : Df P w K mg base CX0 1 "_law_weight" spWt := by
  refine D.df fun f fd F => F.ok n_L_weight (fun vs H Q E h => ?_) (fun cdv A' outer s0 H vs Q E hr h => ?_)
  · obtain ⟨x, rfl, _⟩ := h
    rfl
  · obtain ⟨x, rfl, hx, q⟩ := h
    refine ⟨_, pss_cons (ps_par (i := 1) (j := 2) rfl n_L_weight.nd rfl rfl (by decide) rfl rfl (pa_cons pe_int (pa_cons (kb_int N (pa_cons (pv 0) pa_nil)) pa_nil)) (by rfl))
      <| pss_cons (ps_while PassesOwn.never (pt_cmp (pc_gt (pv 2) pe_int)) <| pss_one <| ps_par (i := 1) (j := 2) rfl n_L_weight.nd rfl rfl (by decide) rfl rfl (pa_cons (pe_op op_add (pv 1) (pe_op op_mod (pv 2) pe_int)) (pa_cons (pe_op op_fdiv (pv 2) pe_int) pa_nil)) (by rfl))
      <| pss_one <| ps_ret (pv 1), ?_⟩
    refine ⟨_, rfl, .inl ⟨_, rfl, _, _, rfl, ?_⟩⟩
    refine ⟨fun m σ H' => H' = H ∧ ∃ k y f : Nat, σ = [some (.int (x : Int)), some (.int (f : Int)), some (.int (y : Int))] ∧ y < 2 ^ k ∧ f + wtF k y = wt x ∧ m = y, ⟨x, rfl, 10, x, 0, rfl, hx, by rw [Nat.zero_add]; rfl, rfl⟩, ?_⟩
    rintro m _ _ ⟨rfl, k, y, f, rfl, hy, hf, rfl⟩
    refine ⟨_, rfl, _, _, rfl, rfl, ?_⟩
    by_cases h0 : m = 0
    · subst h0
      rw [wtF_zero, Nat.add_zero] at hf
      refine ⟨false, rfl, iteF ⟨_, rfl, ?_⟩⟩
      rw [hf]
      exact q
    · refine ⟨true, congrArg V.bl (decide_eq_true (by omega)), iteT ?_⟩
      obtain ⟨k, rfl⟩ : ∃ k', k = k' + 1 := by
        cases k with
        | zero =>
          rw [Nat.pow_zero] at hy
          omega
        | succ k => exact ⟨k, rfl⟩
      refine ⟨fun σ' H' => H' = _ ∧ σ' = [some (.int (x : Int)), some (.int ((f + m % 2 : Nat) : Int)), some (.int ((m / 2 : Nat) : Int))], ?_, _, rfl, _, rfl, _, _, rfl, rfl, (by decide : (0 : Int) < 2), _, _, rfl, rfl, _, rfl, _, _, rfl, rfl, ⟨by decide, by decide⟩, _, _, rfl, rfl, ?_⟩
      · rintro _ _ ⟨rfl, rfl⟩
        refine ⟨m / 2, by omega, rfl, k, m / 2, f + m % 2, rfl, by rw [Nat.pow_succ] at hy; omega, ?_, rfl⟩
        rw [← hf]
        show f + m % 2 + wtF k (m / 2) = f + (m % 2 + wtF k (m / 2))
        omega
      · rw [Int.natCast_add]
        rfl
def spPow : Sp := fun vs H Q _ => ∃ m : Nat, vs = [.int (m : Int)] ∧ m ≤ 1000 ∧ Q (.int ((2 ^ m : Nat) : Int)) H
theorem df_L_power (N : Nms mg) (D : At K mg "_law_power" s_L_power ["_law_many"]) : Df P w K mg base CX0 1 "_law_power" spPow := by
  refine D.df fun f fd F => F.ok n_L_power (fun vs H Q E h => ?_) (fun cdv A' outer s0 H vs Q E hr h => ?_)
  · obtain ⟨m, rfl, _⟩ := h
    rfl
  · obtain ⟨m, rfl, hm, q⟩ := h
    refine ⟨_, pss_cons (ps_set (i := 1) n_L_power.nd rfl (.inl rfl) pe_int)
      <| pss_cons (ps_for PassesOwn.never rfl (pi_range1 (by rfl) N.rng (pa_cons (pv 0) pa_nil)) (pg_name (i := 2) n_L_power.nd rfl (.inl rfl)) <| pss_one <| ps_set (i := 1) n_L_power.nd rfl (.inl rfl) (pe_op op_mul (pv 1) pe_int))
      <| pss_one <| ps_ret (pv 1), ?_⟩
    dsimp only [tSeq, tAsg, gName, tC]
    refine tfor_r1 (n := m) (fun S r => ⟨_, rfl, r⟩) (by omega) (fun i σ' H' => H' = H ∧ ∃ z2, σ' = [some (.int (m : Int)), some (.int ((2 ^ i : Nat) : Int)), z2]) ⟨rfl, none, rfl⟩ ?_ ?_
    · rintro i _ _ hi ⟨rfl, z2, rfl⟩
      refine ⟨_, rfl, _, _, rfl, rfl, .inr ⟨by decide, by decide⟩, rfl, some (.int (i : Int)), ?_⟩
      rw [Nat.pow_succ, Int.natCast_mul]
      rfl
    · rintro _ _ ⟨rfl, z2, rfl⟩
      exact ⟨_, rfl, q⟩
def spXor : Sp := fun vs H Q _ => ∃ x y : Nat, vs = [.int (x : Int), .int (y : Int)] ∧ ∀ H', Same H H' → Q (.int ((x ^^^ y : Nat) : Int)) H'
theorem df_L_xor (N : Nms mg) (D : At K mg "_law_xor" s_L_xor ["_law_x", "_law_y"]) : Df P w K mg base CX0 1 "_law_xor" spXor := by
  refine D.df fun f fd F => F.ok n_L_xor (fun vs H Q E h => ?_) (fun cdv A' outer s0 H vs Q E hr h => ?_)
  · obtain ⟨x, y, rfl, _⟩ := h
    rfl
  · obtain ⟨x, y, rfl, q⟩ := h
    refine ⟨_, pss_cons (ps_asg (pe_tup (pa_cons pe_int (pa_cons pe_int (pa_cons (kb_int N (pa_cons (pv 0) pa_nil)) (pa_cons (kb_int N (pa_cons (pv 1) pa_nil)) pa_nil)))))
          (pg_tup rfl (pgs_cons (pg_name (i := 2) n_L_xor.nd rfl (.inl rfl)) (pgs_cons (pg_name (i := 3) n_L_xor.nd rfl (.inl rfl)) (pgs_cons (pg_name (i := 4) n_L_xor.nd rfl (.inl rfl)) (pgs_cons (pg_name (i := 5) n_L_xor.nd rfl (.inl rfl)) pgs_nil))))))
      <| pss_cons (ps_while PassesOwn.never (PW.pt (pw_or (pt_cmp (pc_gt (pv 4) pe_int)) (pw_or1 (pt_cmp (pc_gt (pv 5) pe_int)))))
        <| pss_cons (ps_set (i := 2) n_L_xor.nd rfl (.inl rfl) (pe_op op_add (pv 2) (pe_op op_mul (pv 3) (kb_int N (pa_cons (pe_cmp (pc_neI (pe_op op_mod (pv 4) pe_int) (pe_op op_mod (pv 5) pe_int))) pa_nil)))))
        <| pss_one <| ps_par3 (i := 4) (j := 5) (l := 3) rfl n_L_xor.nd rfl rfl rfl (by decide) (by decide) (by decide) rfl rfl rfl (pa_cons (pe_op op_fdiv (pv 4) pe_int) (pa_cons (pe_op op_fdiv (pv 5) pe_int) (pa_cons (pe_op op_mul (pv 3) pe_int) pa_nil))) (by rfl))
      <| pss_one <| ps_ret (pv 2), ?_⟩
    refine ⟨_, rfl, .inl ⟨_, rfl, _, rfl, .inl ⟨_, rfl, by show 4 ≤ sizeLine; decide, fun Tp hT => ?_⟩⟩⟩
    refine ⟨Tp, _, rfl, .of upd_same, rfl, _, _, rfl, _, _, rfl, _, _, rfl, _, _, rfl, rfl, ?_⟩
    have turn : ∀ (m : Nat) (a b f p : Nat) (H1 : Hp), Same H H1 → f + p * (a ^^^ b) = x ^^^ y → m = a + b → 0 < a + b →
        ∃ Nx : L2.St → Hp → Prop, (∀ σ' H', Nx σ' H' → ∃ m', m' < m ∧ Same H H' ∧ ∃ a b f p : Nat, σ' = [some (.int (x : Int)), some (.int (y : Int)), some (.int (f : Int)), some (.int (p : Int)), some (.int (a : Int)), some (.int (b : Int))] ∧ f + p * (a ^^^ b) = x ^^^ y ∧ m' = a + b) ∧
          Nx [some (.int (x : Int)), some (.int (y : Int)), some (.int ((f + p * (if a % 2 = b % 2 then 0 else 1) : Nat) : Int)), some (.int ((p * 2 : Nat) : Int)), some (.int ((a / 2 : Nat) : Int)), some (.int ((b / 2 : Nat) : Int))] H1 := fun m a b f p H1 s e em h0 => by
      refine ⟨fun σ' H' => H' = H1 ∧ σ' = [some (.int (x : Int)), some (.int (y : Int)), some (.int ((f + p * (if a % 2 = b % 2 then 0 else 1) : Nat) : Int)), some (.int ((p * 2 : Nat) : Int)), some (.int ((a / 2 : Nat) : Int)), some (.int ((b / 2 : Nat) : Int))], ?_, rfl, rfl⟩
      rintro _ _ ⟨rfl, rfl⟩
      refine ⟨a / 2 + b / 2, by omega, s, a / 2, b / 2, _, _, rfl, ?_, rfl⟩
      rw [← e, xor_step a b, Nat.mul_add, Nat.add_assoc, Nat.mul_assoc]
    refine ⟨fun m σ' H' => Same H H' ∧ ∃ a b f p : Nat, σ' = [some (.int (x : Int)), some (.int (y : Int)), some (.int (f : Int)), some (.int (p : Int)), some (.int (a : Int)), some (.int (b : Int))] ∧ f + p * (a ^^^ b) = x ^^^ y ∧ m = a + b, ⟨x + y, same_new hT, x, y, 0, 1, rfl, by rw [Nat.zero_add, Nat.one_mul], rfl⟩, ?_⟩
    rintro m _ H1 ⟨s1, a, b, f, p, rfl, hI, hm⟩
    have body : 0 < a + b → _ := fun h0 => turn m a b f p H1 s1 hI hm h0
    have eqv : (f : Int) + (p : Int) * (if (!decide ((a : Int) % 2 = (b : Int) % 2)) = true then 1 else 0) = ((f + p * (if a % 2 = b % 2 then 0 else 1) : Nat) : Int) := by
      by_cases hc : a % 2 = b % 2
      · rw [if_pos hc, decide_eq_true (by omega), if_neg (by decide)]
        simp
      · rw [if_neg hc, decide_eq_false (by omega), if_pos (by decide)]
        simp
    have cm : CMul (p : Int) (if (!decide ((a : Int) % 2 = (b : Int) % 2)) = true then 1 else 0) := .inr (by split <;> exact ⟨by decide, by decide⟩)
    refine ⟨_, rfl, _, _, rfl, rfl, ?_⟩
    by_cases ha : 0 < a
    · refine ⟨true, congrArg V.bl (decide_eq_true (by omega)), iteT (iteT ?_)⟩
      obtain ⟨Nx, h1, h2⟩ := body (by omega)
      refine ⟨Nx, h1, _, rfl, _, rfl, _, rfl, _, _, rfl, rfl, (by decide : (0 : Int) < 2), _, rfl, _, _, rfl, rfl, (by decide : (0 : Int) < 2), _, _, rfl, rfl, .inr ⟨_, rfl, _, _, rfl, rfl, cm, _, _, rfl, rfl, ?_⟩⟩
      refine ⟨_, rfl, _, _, rfl, rfl, ⟨by decide, by decide⟩, _, rfl, _, _, rfl, rfl, ⟨by decide, by decide⟩, _, rfl, _, _, rfl, rfl, .inr ⟨by decide, by decide⟩, _, _, _, rfl, ?_⟩
      rw [← eqv, Int.natCast_mul p 2] at h2
      exact h2
    · refine ⟨false, congrArg V.bl (decide_eq_false (by omega)), iteF ⟨_, rfl, _, _, rfl, rfl, ?_⟩⟩
      by_cases hb : 0 < b
      · refine ⟨true, congrArg V.bl (decide_eq_true (by omega)), iteT ?_⟩
        obtain ⟨Nx, h1, h2⟩ := body (by omega)
        refine ⟨Nx, h1, _, rfl, _, rfl, _, rfl, _, _, rfl, rfl, (by decide : (0 : Int) < 2), _, rfl, _, _, rfl, rfl, (by decide : (0 : Int) < 2), _, _, rfl, rfl, .inr ⟨_, rfl, _, _, rfl, rfl, cm, _, _, rfl, rfl, ?_⟩⟩
        refine ⟨_, rfl, _, _, rfl, rfl, ⟨by decide, by decide⟩, _, rfl, _, _, rfl, rfl, ⟨by decide, by decide⟩, _, rfl, _, _, rfl, rfl, .inr ⟨by decide, by decide⟩, _, _, _, rfl, ?_⟩
        rw [← eqv, Int.natCast_mul p 2] at h2
        exact h2
      · refine ⟨false, congrArg V.bl (decide_eq_false (by omega)), iteF ⟨_, rfl, ?_⟩⟩
        have a0 : a = 0 := by omega
        have b0 : b = 0 := by omega
        rw [a0, b0, Nat.xor_self, Nat.mul_zero, Nat.add_zero] at hI
        rw [hI]
        exact q H1 s1
end
end Sq
/-! text SqBc -/
namespace Sq
open PySem PySem.Spec PyProof.Rows L2
theorem lt1_le (x p : Nat) : lt1 x p ≤ 1 := by
  unfold lt1
  omega
theorem bitsLt {x m j : Nat} (h : j < m) : (vN (bits x m))[j]? = some (.int ((lt1 x j : Nat) : Int)) := bitsAt h
theorem cm1 (u : Int) {n : Nat} (h : n ≤ 1) : CMul u (n : Int) := .inr ⟨by omega, by omega⟩
section
variable {P : Program} {w : World} {K : Fr} {mg : Str → Option Value} {base : Heap} {A : Ad} {T : Addr}
def spOdd : Sp := fun vs H Q _ => ∃ x y m : Nat, vs = [.int (x : Int), .int (y : Int), .int (m : Int)] ∧ m ≤ 10 ∧ ∀ H', Same H H' → Q (.bl (decide (oddL x y m % 2 = 1))) H'
theorem df_L_odd (N : Nms mg) (L : Df P w K mg base CX0 1 "_law_letters" spLetters) (D : At K mg "_law_odd" s_L_odd ["_law_x", "_law_y", "_law_many"]) : Df P w K mg base CX0 3 "_law_odd" spOdd := by
  refine D.df fun f fd F => F.ok n_L_odd (fun vs H Q E h => ?_) (fun cdv A' outer s0 H vs Q E hr h => ?_)
  · obtain ⟨x, y, m, rfl, _⟩ := h
    rfl
  · obtain ⟨x, y, m, rfl, hm, q⟩ := h
    refine ⟨_, pss_cons (ps_par3 (i := 3) (j := 4) (l := 5) rfl n_L_odd.nd rfl rfl rfl (by decide) (by decide) (by decide) rfl rfl rfl (pa_cons (pe_df L hr (by decide) pass0 (pa_cons (pv 0) (pa_cons (pv 2) pa_nil))) (pa_cons (pe_df L hr (by decide) pass0 (pa_cons (pv 1) (pa_cons (pv 2) pa_nil))) (pa_cons pe_int pa_nil))) (by rfl))
      <| pss_cons (ps_for PassesOwn.never rfl (pi_range1 (by rfl) N.rng (pa_cons (pv 2) pa_nil)) (pg_name (i := 6) n_L_odd.nd rfl (.inl rfl))
        <| pss_one <| ps_for PassesOwn.never rfl (pi_range1 (by rfl) N.rng (pa_cons (pe_op op_add (pv 6) pe_int) pa_nil)) (pg_name (i := 7) n_L_odd.nd rfl (.inl rfl))
          <| pss_cons (ps_set (i := 5) n_L_odd.nd rfl (.inl rfl) (pe_op op_add (pv 5) (pe_op op_mul (pe_ix ix_list (pv 3) (pv 7) (fun _ _ => rfl)) (pe_ix ix_list (pv 4) (pv 6) (fun _ _ => rfl)))))
          <| pss_one <| ps_for PassesOwn.never rfl (pi_range1 (by rfl) N.rng (pa_cons (pe_ifExp (pt_cmp (pc_lt (pv 7) (pv 6))) (pv 7) pe_int) pa_nil)) (pg_name (i := 8) n_L_odd.nd rfl (.inl rfl))
            <| pss_cons (ps_set (i := 5) n_L_odd.nd rfl (.inl rfl) (pe_op op_add (pe_op op_add (pv 5) (pe_op op_mul (pe_op op_mul (pe_ix ix_list (pv 3) (pv 8) (fun _ _ => rfl)) (pe_ix ix_list (pv 3) (pv 7) (fun _ _ => rfl))) (pe_ix ix_list (pv 4) (pv 6) (fun _ _ => rfl))))
                (pe_op op_mul (pe_op op_mul (pe_ix ix_list (pv 3) (pv 8) (fun _ _ => rfl)) (pe_ix ix_list (pv 4) (pv 7) (fun _ _ => rfl))) (pe_ix ix_list (pv 3) (pv 6) (fun _ _ => rfl)))))
            <| pss_one <| ps_set (i := 5) n_L_odd.nd rfl (.inl rfl) (pe_op op_add (pv 5) (pe_op op_mul (pe_op op_mul (pe_ix ix_list (pv 4) (pv 8) (fun _ _ => rfl)) (pe_ix ix_list (pv 3) (pv 7) (fun _ _ => rfl))) (pe_ix ix_list (pv 3) (pv 6) (fun _ _ => rfl)))))
      <| pss_one <| ps_ret <| pe_cmp (pc_eqI (pe_op op_mod (pv 5) pe_int) pe_int), ?_⟩
    refine ⟨_, rfl, _, rfl, x, m, rfl, by omega, fun D1 H1 s1 hD1 => ⟨_, rfl, _, rfl, y, m, rfl, by omega, fun D2 H2 s2 hD2 => ⟨_, _, _, rfl, ?_⟩⟩⟩
    have h1 := s2 _ _ (np_at hD1).2
    have h2 := (np_at hD2).2
    have st := s1.trans s2
    dsimp only
    refine tfor_r1 (n := m) (fun S r => ⟨_, rfl, r⟩) (by omega) (fun k σ' H' => H' = H2 ∧ ∃ z6 z7 z8, σ' = [some (.int (x : Int)), some (.int (y : Int)), some (.int (m : Int)), some (.ref D1), some (.ref D2), some (.int ((sm (fun k => sm (duo x y k) (k + 1)) k : Nat) : Int)), z6, z7, z8]) ⟨rfl, none, none, none, rfl⟩ ?_ ?_
    · rintro k _ _ hk ⟨rfl, z6, z7, z8, rfl⟩
      dsimp only [gName]
      refine tfor_r1 (n := k + 1) (fun S r => ⟨_, rfl, _, _, rfl, rfl, r⟩) (by omega) (fun j σ' H' => H' = _ ∧ ∃ z7 z8, σ' = [some (.int (x : Int)), some (.int (y : Int)), some (.int (m : Int)), some (.ref D1), some (.ref D2), some (.int ((sm (fun k => sm (duo x y k) (k + 1)) k + sm (duo x y k) j : Nat) : Int)), some (.int (k : Int)), z7, z8]) ⟨rfl, z7, z8, rfl⟩ ?_ ?_
      · rintro j _ _ hj ⟨rfl, z7, z8, rfl⟩
        dsimp only [tSeq, tAsg, gName]
        refine ⟨_, rfl, _, rfl, _, rfl, D1, _, _, _, rfl, rfl, .of h1, atI_n (bitsLt (by omega)), _, rfl, _, rfl, D2, _, _, _, rfl, rfl, .of h2, atI_n (bitsLt hk), _, _, rfl, rfl, cm1 _ (lt1_le _ _), _, _, rfl, rfl, ?_⟩
        refine tfor_r1 (n := if j < k then j else 0) (fun S r => ?_) (by split <;> omega) (fun i σ' H' => H' = _ ∧ ∃ z8, σ' = [some (.int (x : Int)), some (.int (y : Int)), some (.int (m : Int)), some (.ref D1), some (.ref D2), some (.int ((sm (fun k => sm (duo x y k) (k + 1)) k + sm (duo x y k) j + (lt1 x j * lt1 y k + sm (tri x y k j) i) : Nat) : Int)), some (.int (k : Int)), some (.int (j : Int)), z8]) ⟨rfl, z8, ?_⟩ ?_ ?_
        · by_cases hjk : j < k
          · rw [if_pos hjk] at r
            exact ⟨_, rfl, _, rfl, _, _, rfl, rfl, true, congrArg V.bl (decide_eq_true (by omega)), iteT ⟨_, rfl, r⟩⟩
          · rw [if_neg hjk] at r
            exact ⟨_, rfl, _, rfl, _, _, rfl, rfl, false, congrArg V.bl (decide_eq_false (by omega)), iteF r⟩
        · show [_, _, _, _, _, some (V.int (((sm (fun k => sm (duo x y k) (k + 1)) k + sm (duo x y k) j : Nat) : Int) + ((lt1 x j : Nat) : Int) * ((lt1 y k : Nat) : Int))), _, _, _] = _
          rw [← Int.natCast_mul, ← Int.natCast_add]
          rfl
        · rintro i _ _ hi ⟨rfl, z8, rfl⟩
          have hij : i < m := by
            split at hi <;> omega
          dsimp only [tSeq, tAsg, gName]
          refine ⟨_, rfl, _, rfl, _, rfl, D1, _, _, _, rfl, rfl, .of h1, atI_n (bitsLt hij), _, rfl, _, rfl, D1, _, _, _, rfl, rfl, .of h1, atI_n (bitsLt (by omega)), _, _, rfl, rfl, cm1 _ (lt1_le _ _), _, rfl, _, rfl, D2, _, _, _, rfl, rfl, .of h2, atI_n (bitsLt hk), _, _, rfl, rfl, cm1 _ (lt1_le _ _), _, _, rfl, rfl,
            _, rfl, _, rfl, D1, _, _, _, rfl, rfl, .of h1, atI_n (bitsLt hij), _, rfl, _, rfl, D2, _, _, _, rfl, rfl, .of h2, atI_n (bitsLt (by omega)), _, _, rfl, rfl, cm1 _ (lt1_le _ _), _, rfl, _, rfl, D1, _, _, _, rfl, rfl, .of h1, atI_n (bitsLt hk), _, _, rfl, rfl, cm1 _ (lt1_le _ _), _, _, rfl, rfl, ?_⟩
          refine ⟨_, rfl, _, rfl, _, rfl, D2, _, _, _, rfl, rfl, .of h2, atI_n (bitsLt hij), _, rfl, _, rfl, D1, _, _, _, rfl, rfl, .of h1, atI_n (bitsLt (by omega)), _, _, rfl, rfl, cm1 _ (lt1_le _ _), _, rfl, _, rfl, D1, _, _, _, rfl, rfl, .of h1, atI_n (bitsLt hk), _, _, rfl, rfl, cm1 _ (lt1_le _ _), _, _, rfl, rfl, rfl, some (.int (i : Int)), ?_⟩
          have e : (((((sm (fun k => sm (duo x y k) (k + 1)) k + sm (duo x y k) j + (lt1 x j * lt1 y k + sm (tri x y k j) i) : Nat) : Int) + ((lt1 x i : Nat) : Int) * ((lt1 x j : Nat) : Int) * ((lt1 y k : Nat) : Int)) + ((lt1 x i : Nat) : Int) * ((lt1 y j : Nat) : Int) * ((lt1 x k : Nat) : Int)) + ((lt1 y i : Nat) : Int) * ((lt1 x j : Nat) : Int) * ((lt1 x k : Nat) : Int))
              = ((sm (fun k => sm (duo x y k) (k + 1)) k + sm (duo x y k) j + (lt1 x j * lt1 y k + sm (tri x y k j) (i + 1)) : Nat) : Int) := by
            rw [← Int.natCast_mul, ← Int.natCast_mul, ← Int.natCast_mul, ← Int.natCast_mul, ← Int.natCast_mul, ← Int.natCast_mul, ← Int.natCast_add, ← Int.natCast_add, ← Int.natCast_add]
            congr 1
            show _ = _ + (_ + (sm (tri x y k j) i + tri x y k j i))
            unfold tri
            omega
          rw [← e]
          rfl
        · rintro _ _ ⟨rfl, z8, rfl⟩
          refine ⟨rfl, some (.int (j : Int)), z8, ?_⟩
          rw [Nat.add_assoc]
          rfl
      · rintro _ _ ⟨rfl, z7, z8, rfl⟩
        exact ⟨rfl, _, _, _, rfl⟩
    · rintro _ _ ⟨rfl, z6, z7, z8, rfl⟩
      refine ⟨_, rfl, _, _, rfl, rfl, (by decide : (0 : Int) < 2), _, _, rfl, rfl, qbl (Q := Q) ?_ (q _ st)⟩
      have e : sm (fun k => sm (duo x y k) (k + 1)) m = oddL x y m := rfl
      rw [e]
      show decide (((oddL x y m : Nat) : Int) % 2 = 1) = _
      by_cases h : oddL x y m % 2 = 1
      · rw [decide_eq_true h, decide_eq_true (by omega)]
      · rw [decide_eq_false h, decide_eq_false (by omega)]
def spSgnL : Sp := fun vs H Q _ => ∃ x y m : Nat, vs = [.int (x : Int), .int (y : Int), .int (m : Int)] ∧ m ≤ 10 ∧ ∀ H', Same H H' → Q (.int (sgn (oddL x y m))) H'
theorem df_L_sign (O : Df P w K mg base CX0 3 "_law_odd" spOdd) (D : At K mg "_law_sign" s_L_sign ["_law_x", "_law_y", "_law_many"]) : Df P w K mg base CX0 4 "_law_sign" spSgnL := by
  refine D.df fun f fd F => F.ok n_L_sign (fun vs H Q E h => ?_) (fun cdv A' outer s0 H vs Q E hr h => ?_)
  · obtain ⟨x, y, m, rfl, _⟩ := h
    rfl
  · obtain ⟨x, y, m, rfl, hm, q⟩ := h
    refine ⟨_, pss_one <| ps_ret <| pe_ifExp (pt_val (pe_df O hr (by decide) pass0 (pa_cons (pv 0) (pa_cons (pv 1) (pa_cons (pv 2) pa_nil))))) (pe_un un_neg pe_int) pe_int, ?_⟩
    refine ⟨_, rfl, _, rfl, _, rfl, x, y, m, rfl, hm, fun H1 s1 => ?_⟩
    have h1 := q H1 s1
    by_cases h : oddL x y m % 2 = 1
    · have e : sgn (oddL x y m) = -1 := if_pos h
      rw [e] at h1
      exact ⟨true, congrArg V.bl (decide_eq_true h), iteT ⟨_, rfl, h1⟩⟩
    · have e : sgn (oddL x y m) = 1 := if_neg h
      rw [e] at h1
      exact ⟨false, congrArg V.bl (decide_eq_false h), iteF h1⟩
end
end Sq
/-! text SqBd -/
namespace Sq
open PySem PySem.Spec PyProof.Rows L2
/-- the object of set() -/
def ob0 (w : World) : Obj := { cls := .type "set", dict := none, data := .set #[] 0 (.fresh 0 0 (!w.params.followText "set-order")) }
section
variable {P : Program} {w : World} {A : Around} {E : Value → Shared → Prop} {s : Shared}
theorem set_of_list {l : Addr} {xs : Array Value} (ns : List Int) {Q : Value → Shared → Prop} (dh : A.handled = none) (il : s.heap.IsList l xs) (ii : IntsAre xs.toList ns) (bd : ns.length + 1 < scanBound)
    (fin : ∀ (hp : Heap) (tk c : Nat), SetR w hp s.heap.objs.size (fun j => decide (j ∈ ns)) c → c ≤ ns.length → (∀ b o, s.heap.get? b = some o → hp.get? b = some o) → Q (.ref s.heap.objs.size) { s with heap := hp, toks := tk }) :
    wpAny (model P w) A (call (.type "set") [.ref l]) Q E s := by
  have sz : xs.size = ns.length := by
    have q := IntsAre.length ii
    rwa [Array.length_toList] at q
  obtain ⟨c0, tl0, m0⟩ := F.called_set.mro
  have md := F.called_set.made
  have sb := F.called_set.sub
  refine wpAny_call (codeAny_of_tree ?_)
  show wpAny _ _ (callAny (.type "set") _) _ _ _
  refine wpAny_pure ⟨Code.quiet_builtin _ (by decide +kernel), codeAny_builtin F.entry_type_call ?_⟩
  rw [Around.under_plain (weight_type_call_type "set" [.ref l] []) rfl]
  have k1 := F.called_set.notType
  have k2 := F.called_set.canCreate
  have k3 := F.typeCall_set_1 (.ref l)
  repeat (any_goals (first | assumption | wp_step))
  refine codeAny_mono (code_set_led1 (.ref l) (E := E) (Q₁ := fun ob t => ob = .ref s.heap.objs.size ∧ t = { s with heap := s.heap.push (ob0 w) }) ⟨rfl, rfl⟩) fun r t hr => ?_
  cases r with
  | error e => exact hr
  | ok fl =>
    cases fl with
    | ret ob =>
      obtain ⟨rfl, rfl⟩ := hr
      have gS : (s.heap.push (ob0 w)).get? s.heap.objs.size = some (ob0 w) := Heap.get?_push_size _ rfl
      have gT : Shared.TypeIs { s with heap := s.heap.push (ob0 w) } (.ref s.heap.objs.size) "set" := ⟨_, gS, rfl⟩
      have k4 := F.called_set.init.lookup
      have k5 := F.called_set.init.bind (.ref s.heap.objs.size)
      repeat (any_goals (first | assumption | wp_step))
      refine codeAny_mono (codeAny_call_builtin (R := wants (fun r t => r = .none ∧ ∃ hp tk c, t = { s with heap := hp, toks := tk } ∧ SetR w hp s.heap.objs.size (fun j => decide (j ∈ ns)) c ∧ c ≤ ns.length ∧ (∀ b o, s.heap.get? b = some o → hp.get? b = some o)) E) F.called_set.init.plain F.entry_set_init (check_set_init_1 gT ?_)) fun r2 t2 h2 => ?_
      · obtain ⟨ol, gl, cl, nl, dl⟩ := il
        obtain ⟨oc, od, oda, osl⟩ := ol
        simp only at cl dl
        subst cl; subst dl
        have gl2 : (s.heap.push (ob0 w)).get? l = some { cls := .type "list", dict := od, data := .seq xs nl, slots := osl } := Heap.get?_push_of_some _ gl
        have k6 := F.sub_list_set
        have k7 := F.sub_list_frozenset
        have k8 : (Value.type "list" == Value.type "dict") = false := by decide
        have il1 : (s.heap.push (ob0 w)).IsList l xs := ⟨_, gl2, rfl, nl, rfl⟩
        unfold Builtin.«set.__init__» noKeywords Builtin.Frozenset.updateFrom
        generalize hPI : pyIter = PI
        wp_walk
        subst hPI
        refine wpAny_pyIter_list il1 ?_
        refine wpAny_bind (wpAny_runValue ?_)
        have lS : l < s.heap.objs.size := Heap.lt_size gl
        have dh3 : A.in1.in1.in1.handled = none := by simp [dh]
        have hneI : l ≠ (s.heap.push (ob0 w)).objs.size := by rw [Heap.size_push]; exact Nat.ne_of_lt (Nat.lt_succ_of_lt lS)
        have hSf : s.heap.objs.size ∉ [(s.heap.push (ob0 w)).objs.size, l] := by
          rw [Heap.size_push]
          intro z
          rcases List.mem_cons.mp z with e | e
          · exact Nat.ne_of_lt (Nat.lt_succ_self _) e
          · exact Nat.ne_of_gt lS (List.mem_singleton.mp e)
        have vals : ∀ (i : Nat) (v : Value), xs[i]? = some v → ∃ k t, ns[i]? = some k ∧ v = .int k t := fun i v hv => by
          have hi : i < ns.length := sz ▸ (Array.getElem?_eq_some_iff.mp hv).1
          obtain ⟨t, e⟩ := PyProof.Rows.IntsAre.int_at ii i v ((Array.getElem?_toList ..).trans hv)
          refine ⟨ns[i], t, List.getElem?_eq_getElem hi, ?_⟩
          rw [e, List.getD_eq_getElem?_getD, List.getElem?_eq_getElem hi] <;> rfl
        refine set_update_ints ((Walks.list dh3 _ l hneI xs).toS) s.heap.objs.size hSf ns sz bd vals (xs.size - 0) 0 _ (by omega) (Nat.zero_le _) ⟨⟨_, Heap.get?_push_size _ rfl, rfl, rfl⟩, (il1.push _)⟩ ?z1 ?z2
        case z1 =>
          have g : ((s.heap.push (ob0 w)).push { cls := .type "list_iterator", data := .fields #[.ref l, .int 0 0] }).get? s.heap.objs.size = some (ob0 w) := Heap.get?_push_of_some _ gS
          exact ⟨0, Nat.le_refl 0, setR_new_at g⟩
        case z2 =>
          intro t c' hm hc' hS'
          obtain ⟨hp, g2, d', tk', os'⟩ := t
          have eg : g2 = s.gens := hm.gens
          have ed : d' = s.drawn := hm.drawn
          have eo : os' = s.os := hm.os
          subst eg ed eo
          show wpAny _ _ _ _ _ _
          refine wpAny_pure ?_
          show wpAny _ _ (ret Value.none) _ _ _
          refine wpAny_pure ⟨rfl, hp, tk', c', rfl, hS', sz ▸ hc', fun b o e => ?_⟩
          have b0 : b < s.heap.objs.size := Heap.lt_size e
          refine hm.heap b o (fun z => ?_) (Heap.get?_push_of_some _ (Heap.get?_push_of_some _ e))
          rcases List.mem_cons.mp z with e2 | e2
          · exact Nat.ne_of_lt b0 e2
          · rw [Heap.size_push] at e2
            exact Nat.ne_of_lt (Nat.lt_succ_of_lt b0) (List.mem_singleton.mp e2)
      · cases r2 with
        | error e => exact h2
        | ok fl2 =>
          cases fl2 with
          | ret r =>
            obtain ⟨rfl, hp, tk, c1, rfl, a1, a2, a3⟩ := h2
            repeat (any_goals (first | assumption | wp_step))
            exact fin _ _ _ a1 a2 a3
          | _ => exact h2.elim
    | _ => exact hr.elim
end
section
variable {X : Cx}
/-- set(list of ints) -/
def rSetL (K : Fr) (w : World) : List V → Hp → VK → Prop := fun vs H Q => ∃ (a : Addr) (ns : List Int), vs = [.ref a] ∧ SqL K H a (ns.map V.int) ∧ ns.length < 1000 ∧ ∀ (p : Addr) (c : Nat), H p = none → c ≤ ns.length → Q (.ref p) (upd H p (SetO w p (fun j => decide (j ∈ ns)) c))
theorem cr_setL (hc : X.calm = true) : CallR X (.type "set") (rSetL X.K X.w) := by
  intro pins s σ H vs us Q I r h
  obtain ⟨a, ns, rfl, hs, hn, q⟩ := h
  obtain ⟨its, rv, hl, hz⟩ := I.list hs
  rw [Vals.ref1 r]
  refine set_of_list ns (I.ok.hd hc) hl.isList rv.ints (by unfold scanBound; omega) fun hp tk c R hc2 k => ?_
  exact ⟨.ref _, upd H s.heap.objs.size (SetO X.w s.heap.objs.size (fun j => decide (j ∈ ns)) c), I.laid (t' := tk) k (Nat.le_refl _) (setO_new R), rfl, q _ _ (I.hok.fresh (Nat.le_refl _)) hc2⟩
end
end Sq
/-! text SqBe -/
namespace Sq
open PySem PySem.Spec PyProof.Rows L2
theorem tseq_by {a b : TS} {D : Ends} {σ : L2.St} {H : Hp} (M : L2.St → Hp → Prop) (hb : ∀ σ' H', M σ' H' → b D σ' H') (ha : (∀ σ' H', M σ' H' → b D σ' H') → a { D with nx := b D } σ H) : tSeq a b D σ H := ha hb
section
variable {X : Cx} {e : Expr} {es : List Expr} {t : TA} {p pos : Pos}
theorem kb_setL (K : Fr) (w : World) (hc : X.calm = true) (N : Nms X.mg) (ha : PA X (e :: es) t) (hg : Gl X "set" := by rfl) (hK : X.K = K := by rfl) (hw : X.w = w := by rfl)
    (he : starEach (e :: es) X.env = (false, eval e X.env) :: starEach es X.env := by rfl) (hpl : (backTo pos (starEach es X.env)).any (·.1) = false := by rfl) : PE X (.Call (.Name "set" p) (e :: es) [] pos) (tCB (rSetL K w) t) := by
  subst hK hw
  exact pe_callTy (cr_setL hc) hg N.set_ (by decide +kernel) ha (by decide) (by decide) he hpl
theorem kb_srtS (w : World) (hc : X.calm = true) (N : Nms X.mg) (ha : PA X (e :: es) t) (hg : Gl X "sorted" := by rfl) (hw : X.w = w := by rfl)
    (he : starEach (e :: es) X.env = (false, eval e X.env) :: starEach es X.env := by rfl) (hpl : (backTo pos (starEach es X.env)).any (·.1) = false := by rfl) : PE X (.Call (.Name "sorted" p) (e :: es) [] pos) (tCB (rSortedSet w) t) := by
  subst hw
  exact pe_callB (cr_sortedSet hc) hg N.srt (by decide +kernel) ha (by decide) (by decide) he hpl
def tPopE (K : Fr) (to te : TE) : TE := tBM K "list" rPopAt to (tCons te tNil)
variable {o : Expr} {to te : TE} {apos cpos : Pos}
theorem kb_pop (K : Fr) (ho : PE X o to) (he : PE X e te) (hK : X.K = K := by rfl) (hbase : attributeBase o "pop" X.env (eval o X.env) = eval o X.env := by rfl)
    (hfew : ((backTo cpos (starEach [e] X.env)).all (fun x => !x.1) && (backToKw cpos (keywordEach [] X.env)).all (fun x => x.1.isSome) && decide (([e] : List Expr).length + ([] : List Keyword).length + (if ([] : List Keyword).isEmpty then 0 else 1) < 30)) = true := by rfl)
    (hline : (apos.endLine == cpos.line) = true := by rfl) (hs : starEach [e] X.env = (false, eval e X.env) :: starEach [] X.env := by rfl) : PE X (.Call (.Attribute o "pop" apos) [e] [] cpos) (tPopE K to te) := by
  subst hK
  exact pe_bm PySem.F.plainAttrs_list PySem.F.slot_list_pop PySem.F.type_list_pop mt_popAt ho (pa_cons he pa_nil hs) hbase hfew hline hs rfl
end
theorem sameX_mut {j D : Addr} {H H' : Hp} {o : HO} (s : SameX j H H') (h : H D = none) : SameX j H (upd H' D o) := fun b u n e => by
  rw [upd_ne (ne_of_none e h)]
  exact s b u n e
theorem rgV_vN (n : Nat) : rgV 0 (n : Int) = vN (List.range n) := by
  unfold rgV vN
  rw [Int.sub_zero, Int.toNat_natCast]
  exact List.map_congr_left fun i _ => congrArg V.int (Int.zero_add _)
/-- the letters of the words with one or two letters, turned by 1 -/
def fewW (n : Nat) : List Nat := ((List.range n).filter fun w => decide (wt w < 3)).map (1 ^^^ ·)
theorem fewW_succ (n : Nat) : fewW (n + 1) = if wt n < 3 then fewW n ++ [1 ^^^ n] else fewW n := by
  unfold fewW
  rw [List.range_succ, List.filter_append, List.map_append]
  by_cases h : wt n < 3
  · rw [if_pos h]
    simp [h]
  · rw [if_neg h]
    simp [h]
theorem fewW_len (n : Nat) : (fewW n).length ≤ n := by
  unfold fewW
  rw [List.length_map]
  exact Nat.le_trans (List.length_filter_le _ _) (by rw [List.length_range]; exact Nat.le_refl _)
theorem fewW_lt {m x : Nat} (hm : 1 ≤ m) (h : x ∈ fewW (2 ^ m)) : x < 2 ^ m := by
  unfold fewW at h
  obtain ⟨y, hy, rfl⟩ := List.mem_map.mp h
  exact Nat.xor_lt_two_pow (Nat.one_lt_two_pow (by omega)) (List.mem_range.mp (List.mem_filter.mp hy).1)
theorem nats_of {ns : List Int} (h : ∀ k ∈ ns, 0 ≤ k) : ∃ ws : List Nat, ns = ws.map fun (n : Nat) => (n : Int) := by
  refine ⟨ns.map Int.toNat, ?_⟩
  rw [List.map_map]
  conv => lhs; rw [← List.map_id ns]
  exact List.map_congr_left fun k hk => (Int.toNat_of_nonneg (h k hk)).symm
theorem vN_erase : ∀ (ws : List Nat) (k : Nat), (vN ws).eraseIdx k = vN (ws.eraseIdx k)
  | [], _ => rfl
  | _ :: _, 0 => rfl
  | x :: ws, k + 1 => congrArg (V.int (x : Int) :: ·) (vN_erase ws k)
theorem perm_erase : ∀ {ws : List Nat} {k x : Nat}, ws[k]? = some x → (x :: ws.eraseIdx k).Perm ws
  | [], _, _, h => by simp at h
  | y :: ws, 0, x, h => by
    simp at h
    subst h
    exact List.Perm.refl _
  | y :: ws, k + 1, x, h => by
    simp only [List.getElem?_cons_succ] at h
    exact (List.Perm.swap y x _).trans ((perm_erase h).cons y)
theorem tlc_f {K : Fr} {ta te : TE} {tt : TT} {g : TG} {vs : List Nat} {σ : L2.St} {H : Hp} {Q : VK} {a : Addr} {xs : List V} (he : Gives ta σ H fun b H1 => a = b ∧ H = H1) (ha : SqL K H a xs) (acc : Nat → List V) (h0 : acc 0 = []) (hn : ∀ i, i ≤ xs.length → (acc i).length < 100000)
    (turn : ∀ (i : Nat) x H', xs[i]? = some x → Same H H' → ∀ (Qe : VK) (Qn : Hp → Prop), (∀ y H5, Same H' H5 → acc (i + 1) = acc i ++ [y] → Qe y H5) → (∀ H4, Same H' H4 → acc (i + 1) = acc i → Qn H4) →
      g x (wipe σ vs) H' fun σ2 H3 => wipe σ2 vs = wipe σ vs ∧ tt σ2 H3 fun b H4 => if b = true then te σ2 H4 Qe else Qn H4)
    (hd : ∀ D H', Same H H' → np H H' D = some (.lst (acc xs.length)) → Q (.ref D) H') : tLc (iList K ta) g tt te vs σ H Q := by
  refine he _ fun b H1 z => ?_
  obtain ⟨rfl, rfl⟩ := z
  refine ⟨a, rfl, ⟨xs, ha⟩, lcf acc h0 hn (fun i H' hi s => ⟨xs, xs[i], s.seq ha, List.getElem?_eq_getElem hi⟩) (fun H' s => ⟨xs, s.seq ha, Nat.le_refl _⟩) (fun i x H' H2 hi s y Qe Qn => ?_) hd⟩
  obtain ⟨rfl, f⟩ := y
  exact turn i x _ (f xs (s.seq ha)) s Qe Qn
theorem vN_put {ws : List Nat} {i n : Nat} (h : ws[i]? = some n) : (vN ws)[i]? = some (V.int (n : Int)) := by
  unfold vN
  rw [List.getElem?_map, h]
  rfl
theorem jug_free {j b : Addr} {H H' : Hp} (s : SameX j H H') (v : JugV H' j) (hb : H' b = none) : H b = none := by
  cases e : H b with
  | none => rfl
  | some o =>
    obtain ⟨x, y, z, ej⟩ := v
    have n : b ≠ j := fun z => by
      rw [z, ej] at hb
      cases hb
    rw [s b o n e] at hb
    cases hb
theorem jug_ne {j b : Addr} {H : Hp} (v : JugV H j) (hb : H b = none) : b ≠ j := fun z => by
  obtain ⟨_, _, _, e⟩ := v
  rw [z, e] at hb
  cases hb
theorem JugV.up {j b : Addr} {H : Hp} {o : HO} (v : JugV H j) (n : b ≠ j) : JugV (upd H b o) j := by
  obtain ⟨x, y, z, e⟩ := v
  exact ⟨x, y, z, by rw [upd_ne (Ne.symm n)]; exact e⟩
theorem JugV.mo {j : Addr} {H H' : Hp} (v : JugV H j) (s : Same H H') : JugV H' j := by
  obtain ⟨x, y, z, e⟩ := v
  exact ⟨x, y, z, s _ _ e⟩
section
variable {P : Program} {w : World} {K : Fr} {mg : Str → Option Value} {base : Heap} {A : Ad} {T : Addr}
def spLotL : Sp := fun vs H Q _ => ∃ (j : Addr) (m most : Nat), vs = [.ref j, .int (m : Int), .int (most : Int)] ∧ JugV H j ∧ 1 ≤ m ∧ m ≤ 5 ∧ 1 ≤ most ∧ most ≤ 16 ∧
  ∀ ws p H', SameX j H H' → JugV H' j → H' p = some (.tup (vN ws)) → LotOk m ws → ws.length ≤ 16 → Q (.ref p) H'
theorem df_L_lot (N : Nms mg) (R : Df P w K mg base CX0 1 "_law_pour" spPour) (W : Df P w K mg base CX0 1 "_law_weight" spWt) (Xo : Df P w K mg base CX0 1 "_law_xor" spXor)
    (D : At K mg "_law_lot" s_L_lot ["_law_jug_here", "_law_many", "_law_most"]) : Df P w K mg base CX0 2 "_law_lot" spLotL := by
  refine D.df fun f fd F => F.ok n_L_lot (fun vs H Q E h => ?_) (fun cdv A' outer s0 H vs Q E hr h => ?_)
  · obtain ⟨j, m, most, rfl, _⟩ := h
    rfl
  · obtain ⟨j, m, most, rfl, jv, hm1, hm5, ho1, ho16, q⟩ := h
    refine ⟨_, pss_cons (ps_par (i := 3) (j := 4) rfl n_L_lot.nd rfl rfl (by decide) rfl rfl (pa_cons pe_int (pa_cons (pe_df R hr (by decide) pass0 (pa_cons (pv 0) (pa_cons pe_int pa_nil))) pa_nil)) (by rfl))
      <| pss_cons (ps_for PassesOwn.never rfl (pi_range1 (by rfl) N.rng (pa_cons (pv 1) pa_nil)) (pg_name (i := 5) n_L_lot.nd rfl (.inl rfl)) <| pss_one <| ps_set (i := 3) n_L_lot.nd rfl (.inl rfl) (pe_op op_mul (pv 3) pe_int))
      <| pss_cons (ps_if (pt_cmp (pc_eqI (pv 4) pe_int)) (pss_one <| ps_ret <| pe_tupRg rfl (by rfl) N.tup (prg_1 (by rfl) N.rng (kb_min rfl N (pa_cons (pv 3) (pa_cons pe_int pa_nil))))) pss_nil)
      <| pss_cons (ps_par3 (i := 6) (j := 7) (l := 8) rfl n_L_lot.nd rfl rfl rfl (by decide) (by decide) (by decide) rfl rfl rfl (pa_cons (pe_op op_add pe_int (pe_df R hr (by decide) pass0 (pa_cons (pv 0) (pa_cons (pv 2) pa_nil)))) (pa_cons (pe_listRg rfl (by rfl) N.lst (prg_1 (by rfl) N.rng (pv 3))) (pa_cons (pe_lst pa_nil) pa_nil))) (by rfl))
      <| pss_cons (ps_if (pt_cmp (pc_eqI (pv 4) pe_int)) (pss_one <| ps_set (i := 7) n_L_lot.nd rfl (.inl rfl) <| kb_srtS w rfl N <| pa_cons (kb_setL K w rfl N (pa_cons (pe_op op_cat (pe_lst (pa_cons pe_int pa_nil))
          (pe_lc (own := [("_law_word", 9)]) (g := gName 9) rfl n_L_lot.nd (pi_list (pv 7)) (blkOk_by (N := ["_law_jug_here", "_law_many", "_law_most", "_law_size", "_law_way", "_law_turn", "_law_wanted", "_law_left", "_law_found", "_law_word"]) (sc := defScope s_L_lot) (by decide +kernel))
            (fun _ _ _ _ _ => pg_name (i := 9) n_L_lot.nd rfl (Or.inl rfl)) (fun _ _ _ _ _ => pts_one (pt_cmp (pc_lt (pe_df W hr (by decide) pass0 (pa_cons (pv 9) pa_nil)) pe_int)))
            (fun _ _ _ _ _ => pe_df Xo hr (by decide) pass0 (pa_cons pe_int (pa_cons (pv 9) pa_nil))))) pa_nil)) pa_nil) pss_nil)
      <| pss_cons (ps_for PassesOwn.never rfl (pi_range1 (by rfl) N.rng (pa_cons (kb_min rfl N (pa_cons (pv 6) (pa_cons (kb_len K N (pa_cons (pv 7) pa_nil)) pa_nil))) pa_nil)) (pg_name (i := 5) n_L_lot.nd rfl (.inl rfl))
          <| pss_one <| ps_expr <| kb_app K (pv 8) <| kb_pop K (pv 7) <| pe_df R hr (by decide) pass0 (pa_cons (pv 0) (pa_cons (kb_len K N (pa_cons (pv 7) pa_nil)) pa_nil)))
      <| pss_one <| ps_ret <| kb_tup K N (pa_cons (kb_srtI K N (pa_cons (pv 8) pa_nil)) pa_nil), ?_⟩
    have two : 2 ≤ 2 ^ m := Nat.pow_le_pow_right (n := 2) (by decide) hm1
    have t32 : 2 ^ m ≤ 32 := Nat.pow_le_pow_right (n := 2) (by decide) hm5
    refine ⟨_, rfl, j, 4, rfl, jv, by decide, by decide, fun way H1 hway sx1 jv1 => ⟨_, _, rfl, ?_⟩⟩
    dsimp only
    refine tfor_r1 (n := m) (fun S r => ⟨_, rfl, r⟩) (by omega) (fun i σ' H' => H' = H1 ∧ ∃ z5, σ' = [some (.ref j), some (.int (m : Int)), some (.int (most : Int)), some (.int ((2 ^ i : Nat) : Int)), some (.int (way : Int)), z5, none, none, none, none]) ⟨rfl, none, rfl⟩ ?_ ?_
    · rintro i _ _ hi ⟨rfl, z5, rfl⟩
      refine ⟨_, rfl, _, _, rfl, rfl, .inr ⟨by decide, by decide⟩, rfl, some (.int (i : Int)), ?_⟩
      rw [Nat.pow_succ, Int.natCast_mul]
      rfl
    rintro _ _ ⟨rfl, z5, rfl⟩
    by_cases w0 : way = 0
    · refine ⟨_, rfl, _, _, rfl, rfl, true, congrArg V.bl (decide_eq_true (by omega)), iteT ?_⟩
      have e : (if (8 : Int) < ((2 ^ m : Nat) : Int) then 8 else ((2 ^ m : Nat) : Int)) = ((min (2 ^ m) 8 : Nat) : Int) := by
        split <;> omega
      refine ⟨_, rfl, _, _, rfl, _, rfl, ?_, fun p hp => ?_⟩
      · rw [e]
        exact RgOk.of_le (by decide) (by omega) (by decide) (by omega)
      · rw [e, rgV_vN]
        refine q _ p _ (sx1.trans (SameX.of (same_new hp))) ?_ upd_same ⟨?_, ?_, ?_, List.pairwise_lt_range⟩ ?_
        · obtain ⟨a, b, c, e1⟩ := jv1
          exact ⟨a, b, c, (same_new hp) _ _ e1⟩
        · rw [List.length_range]; omega
        · rw [List.length_range]; omega
        · intro x hx
          have := List.mem_range.mp hx
          omega
        · rw [List.length_range]; omega
    refine ⟨_, rfl, _, _, rfl, rfl, false, congrArg V.bl (decide_eq_false (by omega)), iteF ?_⟩
    refine ⟨_, rfl, _, rfl, j, most, rfl, jv1, by omega, by omega, fun wr H2 hwr sx2 jv2 => ⟨_, _, rfl, rfl, _, rfl, _, rfl, RgOk.of_le (by decide) (by omega) (by decide) (by omega), fun L hL => ⟨Nat.zero_le _, fun G hG => ⟨_, _, _, rfl, ?_⟩⟩⟩⟩
    have sxa : SameX j H H2 := sx1.trans sx2
    have sL : Same H2 (upd H2 L (.lst (rgV 0 ((2 ^ m : Nat) : Int)))) := same_new hL
    have jvL := jv2.mo sL
    have sG : Same (upd H2 L (.lst (rgV 0 ((2 ^ m : Nat) : Int)))) (upd (upd H2 L (.lst (rgV 0 ((2 ^ m : Nat) : Int)))) G (.lst [])) := same_new hG
    have jvG := jvL.mo sG
    have nGL : L ≠ G := fun z => by
      rw [← z, upd_same] at hG
      cases hG
    have hLH : H L = none := jug_free sxa jv2 hL
    have hG2 : H2 G = none := sL.free hG
    have hGH : H G = none := jug_free sxa jv2 hG2
    dsimp only
    refine tseq_by (fun σ' H' => ∃ (L : Addr) (lw : List Nat) (z9 : Option V), σ' = [some (.ref j), some (.int (m : Int)), some (.int (most : Int)), some (.int ((2 ^ m : Nat) : Int)), some (.int (way : Int)), z5, some (.int (1 + (wr : Int))), some (.ref L), some (.ref G), z9] ∧
      SameX j H H' ∧ JugV H' j ∧ H L = none ∧ L ≠ G ∧ H' L = some (.lst (vN lw)) ∧ H' G = some (.lst []) ∧ lw.Nodup ∧ (∀ x ∈ lw, x < 2 ^ m) ∧ 0 < lw.length ∧ lw.length ≤ 64) ?_ fun rest => ?_
    · rintro _ H3 ⟨L, lw, z9, rfl, sx3, jv3, nL, nLG, h3L, h3G, nd, lt, pos, few⟩
      have nLj := jug_ne jv nL
      have nGj := jug_ne jv hGH
      have lv : (vN lw).length = lw.length := vN_len lw
      obtain ⟨tot, ht⟩ : ∃ t : Nat, t = min (1 + wr) lw.length := ⟨_, rfl⟩
      have et : (if (((vN lw).length : Nat) : Int) < 1 + (wr : Int) then (((vN lw).length : Nat) : Int) else 1 + (wr : Int)) = (tot : Int) := by
        rw [lv]
        split <;> omega
      refine tfor_r1 (n := tot) (fun S r => ⟨_, rfl, _, rfl, _, _, rfl, .inl ⟨_, .of h3L, rfl⟩, _, _, rfl, by rw [et]; exact r⟩) (by omega) (fun i σ' H' => ∃ (fw rw_ : List Nat) (z5 z9 : Option V), σ' = [some (.ref j), some (.int (m : Int)), some (.int (most : Int)), some (.int ((2 ^ m : Nat) : Int)), some (.int (way : Int)), z5, some (.int (1 + (wr : Int))), some (.ref L), some (.ref G), z9] ∧
        SameX j H H' ∧ JugV H' j ∧ H' L = some (.lst (vN rw_)) ∧ H' G = some (.lst (vN fw)) ∧ (fw ++ rw_).Perm lw ∧ fw.length = i) ⟨[], lw, z5, z9, rfl, sx3, jv3, h3L, h3G, List.Perm.refl _, rfl⟩ ?_ ?_
      · rintro i _ H4 hi ⟨fw, rs, z5, z9, rfl, sx4, jv4, h4L, h4G, pm, fl⟩
        have ln := pm.length_eq
        rw [List.length_append] at ln
        have lr : (vN rs).length = rs.length := vN_len rs
        refine ⟨_, rfl, .inl ⟨rfl, _, .of h4G⟩, _, rfl, .inl ⟨rfl, _, .of h4L⟩, _, rfl, _, rfl, _, _, rfl, .inl ⟨_, .of h4L, rfl⟩, j, rs.length, by rw [lr], jv4, by omega, by omega, fun k H5 hk sx5 jv5 => ?_⟩
        have h5L := sx5 _ _ nLj h4L
        have h5G := sx5 _ _ nGj h4G
        have ek : rs[k]? = some rs[k] := List.getElem?_eq_getElem hk
        have pe := perm_erase ek
        refine ⟨L, vN rs, (k : Int), k, .int ((rs[k] : Nat) : Int), rfl, rfl, h5L, by omega, by omega, (seqIndex_of (by omega) (by rw [lr]; omega)).trans (congrArg some (Int.toNat_natCast k)), vN_put ek, ?_⟩
        have g5 : upd H5 L (.lst ((vN rs).eraseIdx k)) G = some (.lst (vN fw)) := by
          rw [upd_ne (Ne.symm nLG)]
          exact h5G
        refine ⟨G, _, _, rfl, rfl, g5, szt (by rw [vN_len]; omega), ?_⟩
        have lk : upd (upd H5 L (.lst ((vN rs).eraseIdx k))) G (.lst (vN fw ++ [.int ((rs[k] : Nat) : Int)])) L = some (.lst (vN (rs.eraseIdx k))) := by
          rw [upd_ne nLG, upd_same, vN_erase]
        refine ⟨fw ++ [rs[k]], rs.eraseIdx k, _, z9, rfl, sameX_mut (sameX_mut (sx4.trans sx5) nL) hGH, (jv5.up nLj).up nGj, lk, ?_, ?_, ?_⟩
        · rw [vN_snoc]
          exact upd_same
        · rw [List.append_assoc]
          exact (List.Perm.append_left fw pe).trans pm
        · rw [List.length_append, fl]
          rfl
      · rintro _ H4 ⟨fw, rs, z5, z9, rfl, sx4, jv4, h4L, h4G, pm, fl⟩
        have ndf : fw.Nodup := (List.nodup_append.mp (pm.nodup_iff.mpr nd)).1
        have ltf : ∀ x ∈ fw, x < 2 ^ m := fun x hx => lt x (pm.mem_iff.mp (List.mem_append_left _ hx))
        refine ⟨_, rfl, G, fw.map (fun (n : Nat) => (n : Int)), rfl, .of (by rw [← vN_ints]; exact h4G), fun ns p pn pw hp => ?_⟩
        obtain ⟨ws, rfl⟩ := nats_of (ns := ns) fun k hk => by
          obtain ⟨n, _, rfl⟩ := List.mem_map.mp (pn.mem_iff.mp hk)
          omega
        have pn2 : ws.Perm fw := by
          have := pn.map Int.toNat
          rw [List.map_map, List.map_map] at this
          have id1 : (Int.toNat ∘ fun (n : Nat) => (n : Int)) = id := funext fun n => Int.toNat_natCast n
          rw [id1, List.map_id, List.map_id] at this
          exact this
        have ndw : ws.Nodup := pn2.nodup_iff.mpr ndf
        have asw : ws.Pairwise (· < ·) := by
          have h1 := List.pairwise_map.mp pw
          exact (h1.and ndw).imp fun {a b} h => by
            have := h.1
            have := h.2
            omega
        have lw2 := pn2.length_eq
        have s5 : Same H4 (upd H4 p (.lst ((ws.map fun (n : Nat) => (n : Int)).map V.int))) := same_new hp
        refine ⟨p, _, rfl, .inl ⟨.of upd_same, fun l hl => ?_⟩⟩
        refine q ws l _ (sx4.trans (SameX.of (s5.trans (same_new hl)))) (jv4.mo (s5.trans (same_new hl))) (by rw [vN_ints]; exact upd_same) ⟨by omega, by omega, fun x hx => ltf x (pn2.mem_iff.mp hx), asw⟩ (by omega)
    · by_cases w1 : way = 1
      · refine ⟨_, rfl, _, _, rfl, rfl, true, congrArg V.bl (decide_eq_true (by omega)), iteT ?_⟩
        have sLG := sL.trans sG
        have cL : (upd (upd H2 L (.lst (rgV 0 ((2 ^ m : Nat) : Int)))) G (.lst [])) L = some (.lst (vN (List.range (2 ^ m)))) := by
          rw [upd_ne nGL, upd_same, rgV_vN]
        refine ⟨by show 1 ≤ sizeLine; decide, fun P0 hP0 => ?_⟩
        have sP : Same _ (upd (upd (upd H2 L (.lst (rgV 0 ((2 ^ m : Nat) : Int)))) G (.lst [])) P0 (.lst [.int 0])) := same_new hP0
        have rl : (vN (List.range (2 ^ m))).length = 2 ^ m := by rw [vN_len, List.length_range]
        refine tlc_f (gives_pv (by rfl)) (.of (sP _ _ cL)) (fun i => vN (fewW i)) rfl (fun i hi => by
          show (vN (fewW i)).length < _
          have := fewW_len i
          rw [rl] at hi
          rw [vN_len]
          omega) (fun i x H' hi s1 Qe Qn ke kn => ?_) (fun D1 H' s1 hD => ?_)
        · obtain ⟨n, hn, rfl⟩ := vN_get hi
          obtain ⟨hl, e0⟩ := List.getElem?_eq_some_iff.mp hn
          rw [List.getElem_range] at e0
          subst e0
          rw [List.length_range] at hl
          refine ⟨rfl, _, rfl, i, rfl, by omega, _, _, rfl, rfl, ?_⟩
          by_cases hw : wt i < 3
          · refine ⟨true, congrArg V.bl (decide_eq_true (by omega)), iteT ⟨_, rfl, 1, i, rfl, fun H5 s5 => ke _ _ s5 ?_⟩⟩
            show vN (fewW (i + 1)) = vN (fewW i) ++ [_]
            rw [fewW_succ, if_pos hw, vN_snoc]
          · refine ⟨false, congrArg V.bl (decide_eq_false (by omega)), iteF (kn _ (Same.refl _) ?_)⟩
            show vN (fewW (i + 1)) = vN (fewW i)
            rw [fewW_succ, if_neg hw]
        · obtain ⟨n1, hD2⟩ := np_at hD
          rw [rl] at hD2
          have fl := fewW_len (2 ^ m)
          refine ⟨P0, D1, _, _, rfl, rfl, s1 _ _ upd_same, hD2, ?_, fun p hp => ?_⟩
          · show 1 + (vN (fewW (2 ^ m))).length ≤ sizeLine
            rw [vN_len]
            exact Nat.le_of_lt (szt (by omega))
          · have sp : Same H' (upd H' p (.lst ([V.int 0] ++ vN (fewW (2 ^ m))))) := same_new hp
            have ez : [V.int 0] ++ vN (fewW (2 ^ m)) = ((0 :: fewW (2 ^ m)).map fun (n : Nat) => (n : Int)).map V.int := vN_ints (0 :: fewW (2 ^ m))
            refine ⟨p, _, rfl, .of (by rw [← ez]; exact upd_same), by rw [List.length_map, List.length_cons]; omega, fun p2 c hp2 hc => ?_⟩
            rw [List.length_map, List.length_cons] at hc
            refine ⟨p2, _, c, rfl, upd_same, by omega, fun ns p3 pw mem ln hp3 => ?_⟩
            have memN : ∀ k ∈ ns, ∃ n : Nat, n ∈ 0 :: fewW (2 ^ m) ∧ (n : Int) = k := fun k hk => List.mem_map.mp (of_decide_eq_true ((mem k).mp hk))
            obtain ⟨ws, rfl⟩ := nats_of (ns := ns) fun k hk => by
              obtain ⟨n, _, e⟩ := memN k hk
              omega
            rw [← vN_ints]
            rw [List.length_map] at ln
            have sfin : Same H' _ := sp.trans ((same_new hp2).trans (same_new (o := .lst (vN ws)) hp3))
            have pw2 : ws.Pairwise (· < ·) := (List.pairwise_map.mp pw).imp fun {a b} h => by omega
            have nds : ws.Nodup := pw2.imp fun {a b} h => by omega
            have z0 : 0 ∈ ws := by
              obtain ⟨n, hn, e⟩ := List.mem_map.mp ((mem 0).mpr (decide_eq_true (List.mem_map.mpr ⟨0, List.mem_cons_self, rfl⟩)))
              have : n = 0 := by omega
              exact this ▸ hn
            have hfree : ∀ b, H' b = none → (upd H2 L (.lst (rgV 0 ((2 ^ m : Nat) : Int)))) b = none := fun b e => sG.free (sP.free (s1.free e))
            have f3 : H p3 = none := jug_free sxa jv2 (sL.free (hfree _ (sp.free ((same_new hp2).free hp3))))
            have big : Same _ _ := sP.trans (s1.trans sfin)
            refine rest _ _ ⟨p3, ws, _, rfl, sxa.trans (SameX.of (sLG.trans big)), jvG.mo big, f3, fun z => ?_, upd_same, big _ _ upd_same, nds, fun x hx => ?_, List.length_pos_of_mem z0, by omega⟩
            · have e1 := hfree _ (sp.free ((same_new hp2).free hp3))
              have e2 := sP.free (s1.free (sp.free ((same_new hp2).free hp3)))
              rw [z, upd_same] at e2
              cases e2
            · obtain ⟨n, hn, e⟩ := memN (x : Int) (List.mem_map.mpr ⟨x, hx, rfl⟩)
              have e3 : n = x := by omega
              subst e3
              rcases List.mem_cons.mp hn with e4 | e4
              · omega
              · exact fewW_lt hm1 e4
      · refine ⟨_, rfl, _, _, rfl, rfl, false, congrArg V.bl (decide_eq_false (by omega)), iteF ?_⟩
        refine rest _ _ ⟨L, List.range (2 ^ m), none, rfl, sxa.trans (SameX.of (sL.trans sG)), jvG, hLH, nGL, ?_, upd_same, List.nodup_range, fun x hx => List.mem_range.mp hx, by rw [List.length_range]; omega, by rw [List.length_range]; omega⟩
        rw [upd_ne nGL, upd_same, rgV_vN]
end
end Sq
/-! text SqBf -/
namespace Sq
open PySem PySem.Spec PyProof.Rows L2
/-! ### the law's clashes: all pairs of the firsts against all pairs of the seconds -/
def prRow (ws : List Nat) (k : Nat) : List (Nat × Nat) := match ws[k]? with
  | some x => (ws.drop (k + 1)).map fun y => (x, y)
  | none => []
def prs (ws : List Nat) (i : Nat) : List (Nat × Nat) := (List.range i).flatMap (prRow ws)
theorem prs_succ (ws : List Nat) (i : Nat) : prs ws (i + 1) = prs ws i ++ prRow ws i := by
  unfold prs
  rw [List.range_succ, List.flatMap_append]
  simp
def gdPair (n : Nat) (p : Nat × Nat) : Bool := decide (p.1 ^^^ p.2 = n) && decide (wt (p.1 ^^^ p.2) % 4 = 0)
def withPair (zs : List Nat) (p : Nat × Nat) : List (Nat × Nat × Nat × Nat) := ((prs zs zs.length).filter (gdPair (p.1 ^^^ p.2))).map fun q => (p.1, p.2, q.1, q.2)
def clL (ws zs : List Nat) : List (Nat × Nat × Nat × Nat) := (prs ws ws.length).flatMap (withPair zs)
/-- a pair | a quad of words -/
def PairV : Rl (Nat × Nat) := fun H v p => LotV H v [p.1, p.2]
theorem PairV.mo : Mo PairV := fun H H' v p e h => LotV.mo _ _ _ _ e h
def QuadV : Rl (Nat × Nat × Nat × Nat) := fun H v r => LotV H v (quad r)
theorem QuadV.mo : Mo QuadV := fun H H' v p e h => LotV.mo _ _ _ _ e h
/-- the dict of the heads: word ↦ its pairs -/
def HeadsOk (N : Hp) (kvs : List (Key × V)) (L : List (Nat × Nat)) : Prop := ∀ n : Nat, match valV kvs (Sum.inl (n : Int)) with
  | none => L.filter (gdPair n) = []
  | some v => Li PairV N v (L.filter (gdPair n))
theorem HeadsOk.mo {N N' : Hp} {kvs : List (Key × V)} {L : List (Nat × Nat)} (s : Same N N') (h : HeadsOk N kvs L) : HeadsOk N' kvs L := fun n => by
  have := h n
  revert this
  cases valV kvs (Sum.inl (n : Int)) with
  | none => exact id
  | some v => exact fun r => Li.mo PairV.mo _ _ _ _ s r
theorem filter_snoc {α : Type} (p : α → Bool) (L : List α) (x : α) : (L ++ [x]).filter p = L.filter p ++ (if p x = true then [x] else []) := by
  rw [List.filter_append]
  by_cases h : p x = true
  · rw [if_pos h]
    simp [h]
  · rw [if_neg h]
    simp [h]
theorem HeadsOk.skip {N : Hp} {kvs : List (Key × V)} {L : List (Nat × Nat)} {p : Nat × Nat} (h : HeadsOk N kvs L) (hp : ¬ wt (p.1 ^^^ p.2) % 4 = 0) : HeadsOk N kvs (L ++ [p]) := fun n => by
  have e : (L ++ [p]).filter (gdPair n) = L.filter (gdPair n) := by
    rw [filter_snoc, if_neg, List.append_nil]
    unfold gdPair
    simp [hp]
  rw [e]
  exact h n
theorem HeadsOk.put {N : Hp} {kvs : List (Key × V)} {L : List (Nat × Nat)} {p : Nat × Nat} {v : V} (h : HeadsOk N kvs L) (hp : wt (p.1 ^^^ p.2) % 4 = 0) (hv : Li PairV N v (L.filter (gdPair (p.1 ^^^ p.2)) ++ [p])) :
    HeadsOk N (putK kvs (Sum.inl ((p.1 ^^^ p.2 : Nat) : Int)) v) (L ++ [p]) := fun n => by
  rw [valV_put]
  by_cases e : n = p.1 ^^^ p.2
  · subst e
    rw [if_pos rfl]
    show Li PairV N v _
    rw [filter_snoc, if_pos (by unfold gdPair; simp [hp])]
    exact hv
  · have e2 : ¬ ((Sum.inl (n : Int) : Key) = Sum.inl ((p.1 ^^^ p.2 : Nat) : Int)) := fun z => e (by
      have z2 : (n : Int) = ((p.1 ^^^ p.2 : Nat) : Int) := Sum.inl.inj z
      omega)
    rw [if_neg e2]
    have e3 : (L ++ [p]).filter (gdPair n) = L.filter (gdPair n) := by
      rw [filter_snoc, if_neg, List.append_nil]
      unfold gdPair
      simp [Ne.symm e]
    rw [e3]
    exact h n
theorem prRow_len {ws : List Nat} {k : Nat} (h : k < ws.length) : (prRow ws k).length = ws.length - (k + 1) := by
  unfold prRow
  rw [List.getElem?_eq_getElem h]
  show (List.map _ _).length = _
  rw [List.length_map, List.length_drop]
theorem prRow_at {ws : List Nat} {k j x y : Nat} (hx : ws[k]? = some x) (hy : ws[k + 1 + j]? = some y) : (prRow ws k)[j]? = some (x, y) := by
  unfold prRow
  rw [hx]
  show (List.map _ _)[j]? = _
  rw [List.getElem?_map, List.getElem?_drop, hy]
  rfl
theorem prs_len (ws : List Nat) : ∀ i : Nat, i ≤ ws.length → (prs ws i).length ≤ i * ws.length
  | 0, _ => Nat.zero_le _
  | i + 1, h => by
    have ih := prs_len ws i (by omega)
    rw [prs_succ, List.length_append, prRow_len (by omega), Nat.succ_mul]
    omega
theorem prs16 {ws : List Nat} (h : ws.length ≤ 16) {i : Nat} (hi : i ≤ ws.length) : (prs ws i).length ≤ 256 := by
  have h1 := prs_len ws i hi
  have h2 : i * ws.length ≤ 16 * 16 := Nat.mul_le_mul (by omega) h
  omega
theorem fm_len {α β : Type} {f : α → List β} {B : Nat} : ∀ {L : List α}, (∀ x ∈ L, (f x).length ≤ B) → (L.flatMap f).length ≤ L.length * B
  | [], _ => Nat.zero_le _
  | x :: L, h => by
    have ih := fm_len (L := L) fun y hy => h y (List.mem_cons_of_mem _ hy)
    have h1 := h x List.mem_cons_self
    rw [List.flatMap_cons, List.length_append, List.length_cons, Nat.succ_mul]
    omega
theorem withPair_len {zs : List Nat} (h : zs.length ≤ 16) (p : Nat × Nat) : (withPair zs p).length ≤ 256 := by
  unfold withPair
  rw [List.length_map]
  exact Nat.le_trans (List.length_filter_le _ _) (prs16 h (Nat.le_refl _))
theorem nd_in {H0 H' : Hp} {G b : Addr} {o : HO} (n : H0 b = none) (g : b ≠ G) (e : H' b = some o) : nd H0 H' G b = some o := by
  rw [nd_ne g, np_none n]
  exact e
section
variable {P : Program} {w : World} {K : Fr} {mg : Str → Option Value} {base : Heap} {A : Ad} {T : Addr}
def spClsL : Sp := fun vs H Q _ => ∃ (u v : V) (ws zs : List Nat), vs = [u, v] ∧ LotV H u ws ∧ LotV H v zs ∧ 0 < ws.length ∧ ws.length ≤ 16 ∧ 0 < zs.length ∧ zs.length ≤ 16 ∧ (∀ x ∈ ws, x < 32) ∧ (∀ x ∈ zs, x < 32) ∧
  ∀ p H' out, Same H H' → H p = none → H' p = some (.lst out) → Paired (QuadV H') out (clL ws zs) → Q (.ref p) H'
theorem df_L_clashes (N : Nms mg) (W : Df P w K mg base CX0 1 "_law_weight" spWt) (Xo : Df P w K mg base CX0 1 "_law_xor" spXor)
    (D : At K mg "_law_clashes" s_L_clashes ["_law_firsts", "_law_seconds"]) : Df P w K mg base CX0 2 "_law_clashes" spClsL := by
  refine D.df fun f fd F => F.ok n_L_clashes (fun vs H Q E h => ?_) (fun cdv A' outer s0 H vs Q E hr h => ?_)
  · obtain ⟨u, v, ws, zs, rfl, _⟩ := h
    rfl
  · obtain ⟨u, v, ws, zs, rfl, hu, hv, w0, w16, z0, z16, wl, zl, q⟩ := h
    refine ⟨_, pss_cons (ps_par (i := 2) (j := 3) rfl n_L_clashes.nd rfl rfl (by decide) rfl rfl (pa_cons (pe_lst pa_nil) (pa_cons pe_dnewK pa_nil)) (by rfl))
      <| pss_cons (ps_for PassesOwn.never rfl (pi_enumT N.enu (pa_cons (pv 1) pa_nil)) (kb_pair K rfl (pg_name (i := 4) n_L_clashes.nd rfl (.inl rfl)) (pg_name (i := 5) n_L_clashes.nd rfl (.inl rfl)))
        <| pss_one <| ps_for PassesOwn.never rfl (pi_tup (pe_slice sl_tup (pv 1) (po_some (pe_op op_add (pv 4) pe_int)) po_none)) (pg_name (i := 6) n_L_clashes.nd rfl (.inl rfl))
          <| pss_cons (ps_set (i := 7) n_L_clashes.nd rfl (.inl rfl) (pe_df Xo hr (by decide) pass0 (pa_cons (pv 5) (pa_cons (pv 6) pa_nil))))
          <| pss_one <| ps_if (pt_cmp (pc_eqI (pe_op op_mod (pe_df W hr (by decide) pass0 (pa_cons (pv 7) pa_nil)) pe_int) pe_int))
              (pss_one <| ps_dput (hu_of hr) (pv 3) (pv 7) (pe_op op_cat (pe_dget2 (hu_of hr) (pv 3) (pv 7) (pe_lst pa_nil) ⟨by rfl, by rfl, by rfl, by rfl⟩) (pe_lst (pa_cons (pe_tup (pa_cons (pv 5) (pa_cons (pv 6) pa_nil))) pa_nil))) (by rfl)) pss_nil)
      <| pss_cons (ps_for PassesOwn.never rfl (pi_enumT N.enu (pa_cons (pv 0) pa_nil)) (kb_pair K rfl (pg_name (i := 4) n_L_clashes.nd rfl (.inl rfl)) (pg_name (i := 8) n_L_clashes.nd rfl (.inr rfl)))
        <| pss_one <| ps_for PassesOwn.never rfl (pi_tup (pe_slice sl_tup (pv 0) (po_some (pe_op op_add (pv 4) pe_int)) po_none)) (pg_name (i := 9) n_L_clashes.nd rfl (.inr rfl))
          <| pss_one <| ps_set (i := 2) n_L_clashes.nd rfl (.inl rfl) (pe_op op_cat (pv 2) (pe_lc (own := [("_law_c", 5), ("_law_d", 6)]) (tt := tYes) rfl n_L_clashes.nd (pi_list (pe_dget2 (hu_of hr) (pv 3) (pe_df Xo hr (by decide) pass0 (pa_cons (pv 8) (pa_cons (pv 9) pa_nil))) (pe_lst pa_nil) ⟨by rfl, by rfl, by rfl, by rfl⟩))
            (blkOk_by (N := ["_law_firsts", "_law_seconds", "_law_found", "_law_heads", "_law_at", "_law_c", "_law_d", "_law_word", "_law_a", "_law_b"]) (sc := defScope s_L_clashes) (by decide +kernel))
              (fun _ _ _ _ _ => kb_pair K rfl (pg_name (i := 5) n_L_clashes.nd rfl (Or.inl rfl)) (pg_name (i := 6) n_L_clashes.nd rfl (Or.inl rfl))) (fun _ _ _ _ _ => pts_nil)
              (fun _ _ _ _ _ => pe_tup (pa_cons (pv 8) (pa_cons (pv 9) (pa_cons (pv 5) (pa_cons (pv 6) pa_nil))))))))
      <| pss_one <| ps_ret (pv 2), ?_⟩
    obtain ⟨a, rfl, ha⟩ := hu
    obtain ⟨b, rfl, hb⟩ := hv
    have lz : (vN zs).length = zs.length := vN_len zs
    have lw : (vN ws).length = ws.length := vN_len ws
    refine ⟨Nat.zero_le _, fun F0 hF0 Hd hHd => ⟨_, _, rfl, ?_⟩⟩
    obtain ⟨Hx, eHx⟩ : ∃ Hx, Hx = upd H F0 (.lst []) := ⟨_, rfl⟩
    have sF : Same H Hx := eHx ▸ same_new hF0
    have hxF : Hx F0 = some (.lst []) := by rw [eHx]; exact upd_same
    rw [← eHx] at hHd
    have sD : Same Hx (upd Hx Hd (.dK [])) := same_new hHd
    dsimp only
    rw [← eHx]
    refine tfor_eT (gives_pv (by rfl)) ?_
    rintro _ _ ⟨rfl, rfl⟩
    refine ⟨vN zs, .of (sD _ _ (sF _ _ hb)), fun i σ' H' => Same Hx H' ∧ (∃ kvs, H' Hd = some (.dK kvs) ∧ kvs.length ≤ (prs zs i).length ∧ HeadsOk (nd Hx H' Hd) kvs (prs zs i)) ∧
      ∃ z4 z5 z6 z7, σ' = [some (.ref a), some (.ref b), some (.ref F0), some (.ref Hd), z4, z5, z6, z7, none, none], ⟨sD, ⟨[], upd_same, Nat.zero_le _, fun n => rfl⟩, _, _, _, _, rfl⟩, ?_, ?_, ?_⟩
    · rintro i _ _ ⟨s3, _⟩
      exact .of (s3 _ _ (sF _ _ hb))
    · rintro i x _ H3 Tp hx ⟨s3, ⟨kvs, hk, kl, ho⟩, z4, z5, z6, z7, rfl⟩ hT
      obtain ⟨c, hc, rfl⟩ := vN_get hx
      have hi := (List.getElem?_eq_some_iff.mp hc).1
      have sT : Same H3 (upd H3 Tp (.tup [.int (i : Nat), .int (c : Int)])) := same_new hT
      refine ⟨Tp, _, rfl, .of upd_same, rfl, _, _, rfl, _, _, rfl, rfl, ?_⟩
      refine tfor_t (gives_loT (k := i + 1) (fun R r => ⟨_, rfl, r⟩) (fun R r => ⟨_, rfl, _, _, rfl, rfl, r⟩) (.of ((s3.trans sT) _ _ (sF _ _ hb))) (by omega) (by omega)) ?_
      rintro S _ ⟨nS, rfl⟩
      have sS : Same H3 _ := sT.trans (same_new (o := .tup ((vN zs).drop (i + 1))) nS)
      refine ⟨_, .of upd_same, fun j σ' H' => Same Hx H' ∧ H' S = some (.tup ((vN zs).drop (i + 1))) ∧ (∃ kvs, H' Hd = some (.dK kvs) ∧ kvs.length ≤ (prs zs i ++ (prRow zs i).take j).length ∧ HeadsOk (nd Hx H' Hd) kvs (prs zs i ++ (prRow zs i).take j)) ∧
        ∃ z6 z7, σ' = [some (.ref a), some (.ref b), some (.ref F0), some (.ref Hd), some (.int (i : Int)), some (.int (c : Int)), z6, z7, none, none], ⟨s3.trans sS, upd_same, ⟨kvs, sS _ _ hk, ?_, ?_⟩, _, _, rfl⟩, ?_, ?_, ?_⟩
      · rw [List.take_zero, List.append_nil]
        exact kl
      · rw [List.take_zero, List.append_nil]
        exact ho.mo (nd_mono sS)
      · rintro j _ _ _ ⟨_, h4, _⟩
        exact .of h4
      · rintro j y _ H5 hy ⟨s5, h5S, ⟨kv5, hk5, kl5, ho5⟩, z6, z7, rfl⟩
        rw [List.getElem?_drop] at hy
        obtain ⟨d, hd, rfl⟩ := vN_get hy
        have hjl := (List.getElem?_eq_some_iff.mp hd).1
        have tk : prs zs i ++ (prRow zs i).take (j + 1) = (prs zs i ++ (prRow zs i).take j) ++ [(c, d)] := by
          rw [List.take_add_one, prRow_at hc hd, List.append_assoc]
          rfl
        have l0 := prs16 z16 (Nat.le_of_lt hi)
        have l1 := prRow_len hi
        have lL : (prs zs i ++ (prRow zs i).take j).length ≤ 272 := by
          rw [List.length_append, List.length_take]
          omega
        have clt := zl c (List.mem_of_getElem? hc)
        have dlt := zl d (List.mem_of_getElem? hd)
        have xlt : c ^^^ d < 2 ^ 5 := Nat.xor_lt_two_pow clt dlt
        dsimp only [gName]
        refine ⟨_, rfl, _, rfl, c, d, rfl, fun H6 s6 => ?_⟩
        refine ⟨_, rfl, c ^^^ d, rfl, by omega, _, _, rfl, rfl, (by decide : (0 : Int) < 4), _, _, rfl, rfl, ?_⟩
        by_cases hw : wt (c ^^^ d) % 4 = 0
        · refine ⟨true, congrArg V.bl (decide_eq_true (by omega)), iteT ?_⟩
          have hk6 := s6 _ _ hk5
          refine ⟨_, rfl, Hd, rfl, .inl ⟨_, .inl hk6⟩, _, rfl, Nat.zero_le _, fun E0 hE0 => ?_⟩
          have sE : Same H6 (upd H6 E0 (.lst [])) := same_new hE0
          refine ⟨_, .inl ⟨kv5, Sum.inl ((c ^^^ d : Nat) : Int), .inl (sE _ _ hk6), rfl, rfl⟩, ?_⟩
          obtain ⟨l, out, el, hl, pr⟩ : ∃ l out, (valV kv5 (Sum.inl ((c ^^^ d : Nat) : Int))).getD (.ref E0) = .ref l ∧ upd H6 E0 (.lst []) l = some (.lst out) ∧ Paired (PairV (nd Hx (upd H6 E0 (.lst [])) Hd)) out ((prs zs i ++ (prRow zs i).take j).filter (gdPair (c ^^^ d))) := by
            have hh := ho5.mo (nd_mono (s6.trans sE)) (c ^^^ d)
            revert hh
            cases valV kv5 (Sum.inl ((c ^^^ d : Nat) : Int)) with
            | none =>
              intro hh
              have hh2 : (prs zs i ++ (prRow zs i).take j).filter (gdPair (c ^^^ d)) = [] := hh
              rw [hh2]
              exact ⟨E0, [], rfl, upd_same, .nil⟩
            | some v =>
              rintro ⟨l, out, rfl, h1, h2⟩
              exact ⟨l, out, rfl, (np_at (nd_at h1).2).2, h2⟩
          rw [el]
          have lo : out.length ≤ 272 := by
            rw [pr_len pr]
            exact Nat.le_trans (List.length_filter_le _ _) lL
          refine ⟨_, rfl, _, rfl, by show 2 ≤ sizeLine; decide, fun Tq hTq => ⟨by show 1 ≤ sizeLine; decide, fun Lq hLq => ?_⟩⟩
          have sTq : Same (upd H6 E0 (.lst [])) (upd (upd H6 E0 (.lst [])) Tq (.tup [.int (c : Int), .int (d : Int)])) := same_new hTq
          have sLq : Same _ (upd (upd (upd H6 E0 (.lst [])) Tq (.tup [.int (c : Int), .int (d : Int)])) Lq (.lst [.ref Tq])) := same_new hLq
          have s7 := sTq.trans sLq
          refine ⟨l, Lq, out, _, rfl, rfl, s7 _ _ hl, upd_same, Nat.le_of_lt (szt (by show out.length + 1 ≤ _; omega)), fun p hp => ?_⟩
          have sp : Same _ (upd (upd (upd (upd H6 E0 (.lst [])) Tq (.tup [.int (c : Int), .int (d : Int)])) Lq (.lst [.ref Tq])) p (.lst (out ++ [.ref Tq]))) := same_new hp
          have st := s7.trans sp
          have sall := (s6.trans sE).trans st
          have hk9 := sall _ _ hk5
          refine ⟨_, rfl, _, rfl, Hd, _, rfl, DPut.k (k := Sum.inl ((c ^^^ d : Nat) : Int)) hk9 (szt (by omega)), ?_⟩
          have nSd : S ≠ Hd := fun z => by
            rw [z, hk5] at h5S
            cases h5S
          refine ⟨same_mut (s5.trans sall) hHd, ?_, ⟨_, upd_same, ?_, ?_⟩, _, _, rfl⟩
          · rw [upd_ne nSd]
            exact sall _ _ h5S
          · have := length_putK kv5 (Sum.inl ((c ^^^ d : Nat) : Int)) (.ref p)
            rw [tk, List.length_append (as := _ ++ _)]
            show _ ≤ _ + 1
            omega
          · rw [nd_upd, tk]
            refine (ho5.mo (nd_mono sall)).put hw ⟨p, _, rfl, nd_in ((s5.trans ((s6.trans sE).trans s7)).free hp) (fun z => ?_) upd_same, pr_app (paired_mo PairV.mo (nd_mono st) pr) (.cons (show PairV _ (.ref Tq) (c, d) from ⟨Tq, rfl, nd_in ((s5.trans (s6.trans sE)).free hTq) (fun z => ?_) ((sLq.trans sp) _ (.tup [.int (c : Int), .int (d : Int)]) upd_same)⟩) .nil)⟩
            · have := ((s6.trans sE).trans s7) _ _ hk5
              rw [← z, hp] at this
              cases this
            · have := (s6.trans sE) _ _ hk5
              rw [← z, hTq] at this
              cases this
        · refine ⟨false, congrArg V.bl (decide_eq_false (by omega)), iteF ⟨s5.trans s6, s6 _ _ h5S, ⟨kv5, s6 _ _ hk5, ?_, by rw [tk]; exact (ho5.mo (nd_mono s6)).skip (p := (c, d)) hw⟩, _, _, rfl⟩⟩
          rw [tk, List.length_append (as := _ ++ _)]
          omega
      · rintro _ H5 ⟨s5, _, ⟨kv5, hk5, kl5, ho5⟩, z6, z7, rfl⟩
        have e : (prRow zs i).take ((vN zs).drop (i + 1)).length = prRow zs i := by
          rw [List.length_drop, lz, ← prRow_len hi, List.take_length]
        rw [e, ← prs_succ] at kl5 ho5
        exact ⟨s5, ⟨kv5, hk5, kl5, ho5⟩, _, _, _, _, rfl⟩
    · rintro _ H5 ⟨s5, ⟨kvs, hk, kl, ho⟩, z4, z5, z6, z7, rfl⟩
      rw [lz] at kl ho
      have hoN : HeadsOk H5 kvs (prs zs zs.length) := ho.mo fun b o e => (np_at (nd_at e).2).2
      have sH5 : Same H H5 := sF.trans s5
      refine tfor_eT (gives_pv (by rfl)) ?_
      rintro _ _ ⟨rfl, rfl⟩
      refine ⟨vN ws, .of (sH5 _ _ ha), fun i σ' H' => Same H5 H' ∧ (∃ Fl out, H' Fl = some (.lst out) ∧ H Fl = none ∧ Paired (QuadV H') out ((prs ws i).flatMap (withPair zs)) ∧
        ∃ z4 z5 z6 z7 z8 z9, σ' = [some (.ref a), some (.ref b), some (.ref Fl), some (.ref Hd), z4, z5, z6, z7, z8, z9]), ⟨Same.refl _, F0, [], s5 _ _ hxF, hF0, .nil, _, _, _, _, _, _, rfl⟩, ?_, ?_, ?_⟩
      · rintro i _ _ ⟨s3, _⟩
        exact .of (s3 _ _ (sH5 _ _ ha))
      · rintro i x _ H6 Tp hx ⟨s6, Fl, out, hF, hFn, pr, z4, z5, z6, z7, z8, z9, rfl⟩ hT
        obtain ⟨c, hc, rfl⟩ := vN_get hx
        have hi := (List.getElem?_eq_some_iff.mp hc).1
        have sT : Same H6 (upd H6 Tp (.tup [.int (i : Nat), .int (c : Int)])) := same_new hT
        refine ⟨Tp, _, rfl, .of upd_same, rfl, _, _, rfl, _, _, rfl, rfl, ?_⟩
        refine tfor_t (gives_loT (k := i + 1) (fun R r => ⟨_, rfl, r⟩) (fun R r => ⟨_, rfl, _, _, rfl, rfl, r⟩) (.of ((sH5.trans (s6.trans sT)) _ _ ha)) (by omega) (by omega)) ?_
        rintro S _ ⟨nS, rfl⟩
        have sS : Same H6 _ := sT.trans (same_new (o := .tup ((vN ws).drop (i + 1))) nS)
        refine ⟨_, .of upd_same, fun j σ' H' => Same H5 H' ∧ H' S = some (.tup ((vN ws).drop (i + 1))) ∧ (∃ Fl out, H' Fl = some (.lst out) ∧ H Fl = none ∧ Paired (QuadV H') out ((prs ws i ++ (prRow ws i).take j).flatMap (withPair zs)) ∧
          ∃ z5 z6 z7 z9, σ' = [some (.ref a), some (.ref b), some (.ref Fl), some (.ref Hd), some (.int (i : Int)), z5, z6, z7, some (.int (c : Int)), z9]), ⟨s6.trans sS, upd_same, Fl, out, sS _ _ hF, hFn, ?_, _, _, _, _, rfl⟩, ?_, ?_, ?_⟩
        · rw [List.take_zero, List.append_nil]
          exact paired_mo QuadV.mo sS pr
        · rintro j _ _ _ ⟨_, h4, _⟩
          exact .of h4
        · rintro j y _ H7 hy ⟨s7, h7S, Fl, out, hF, hFn, pr, z5, z6, z7, z9, rfl⟩
          rw [List.getElem?_drop] at hy
          obtain ⟨d, hd, rfl⟩ := vN_get hy
          have hjl := (List.getElem?_eq_some_iff.mp hd).1
          have tk : prs ws i ++ (prRow ws i).take (j + 1) = (prs ws i ++ (prRow ws i).take j) ++ [(c, d)] := by
            rw [List.take_add_one, prRow_at hc hd, List.append_assoc]
            rfl
          have l0 := prs16 w16 (Nat.le_of_lt hi)
          have l1 := prRow_len hi
          have lL : (prs ws i ++ (prRow ws i).take j).length ≤ 272 := by
            rw [List.length_append, List.length_take]
            omega
          have lo : out.length ≤ 272 * 256 := by
            rw [pr_len pr]
            exact Nat.le_trans (fm_len fun p _ => withPair_len z16 p) (Nat.mul_le_mul_right _ lL)
          have lF : ((prs zs zs.length).filter (gdPair (c ^^^ d))).length ≤ 256 := Nat.le_trans (List.length_filter_le _ _) (prs16 z16 (Nat.le_refl _))
          dsimp only [tAsg, gName]
          refine ⟨_, rfl, ?_⟩
          refine tlc_lg (Of QuadV (withPair zs (c, d))) (Of.mo QuadV.mo) (G := fun bq H1 => Same H7 H1 ∧ ∃ outq, H1 bq = some (.lst outq) ∧ Paired (PairV H1) outq ((prs zs zs.length).filter (gdPair (c ^^^ d)))) (fun R r => ?_) ?_
          · refine ⟨_, rfl, Hd, rfl, .inl ⟨_, .inl (s7 _ _ hk)⟩, _, rfl, _, rfl, c, d, rfl, fun H8 s8 => ⟨Nat.zero_le _, fun E0 hE0 => ?_⟩⟩
            have sE : Same H8 (upd H8 E0 (.lst [])) := same_new hE0
            have s9 := (s7.trans s8).trans sE
            refine ⟨_, .inl ⟨kvs, Sum.inl ((c ^^^ d : Nat) : Int), .inl (s9 _ _ hk), rfl, rfl⟩, ?_⟩
            have hh := hoN.mo s9 (c ^^^ d)
            revert hh
            cases valV kvs (Sum.inl ((c ^^^ d : Nat) : Int)) with
            | none =>
              intro hh
              have hh2 : (prs zs zs.length).filter (gdPair (c ^^^ d)) = [] := hh
              exact r E0 _ ⟨s8.trans sE, [], upd_same, by rw [hh2]; exact .nil⟩
            | some v =>
              rintro ⟨l, outq, rfl, h1, h2⟩
              exact r l _ ⟨s8.trans sE, outq, h1, h2⟩
          · rintro bq Hq ⟨sq, outq, hq, prq⟩
            have lq : outq.length = ((prs zs zs.length).filter (gdPair (c ^^^ d))).length := pr_len prq
            have lw2 : (withPair zs (c, d)).length = outq.length := by
              unfold withPair
              rw [List.length_map, lq]
            refine ⟨outq, .of hq, by omega, fun k x H8 hx s8 Qe kk => ?_, fun D8 H8 out8 s8 hD ho8 => ?_⟩
            · obtain ⟨pp, hpp, t, rfl, ht⟩ := pr_get prq hx
              refine ⟨t, _, rfl, .of (s8 _ _ ht), rfl, _, _, rfl, _, _, rfl, rfl, rfl, ?_⟩
              refine ⟨_, rfl, _, rfl, _, rfl, _, rfl, by show 4 ≤ sizeLine; decide, fun Tq hTq => kk _ _ (same_new hTq) ⟨(c, d, pp.1, pp.2), ?_, Tq, rfl, ?_⟩⟩
              · unfold withPair
                rw [List.getElem?_map, hpp]
                rfl
              · rw [np_none hTq]
                exact upd_same
            · have s9 := sq.trans s8
              have lo8 := ho8.1
              refine ⟨Fl, D8, out, out8, rfl, rfl, s9 _ _ hF, (np_at hD).2, Nat.le_of_lt (szt (by omega)), fun p hp => ?_⟩
              have sp : Same H8 (upd H8 p (.lst (out ++ out8))) := same_new hp
              have sall := s9.trans sp
              refine ⟨s7.trans sall, sall _ _ h7S, p, _, upd_same, (sH5.trans (s7.trans s9)).free hp, ?_, _, _, _, _, rfl⟩
              rw [tk, List.flatMap_append]
              refine pr_app (paired_mo QuadV.mo sall pr) ?_
              rw [List.flatMap_cons, List.flatMap_nil, List.append_nil]
              exact paired_mo QuadV.mo sp (paired_mo QuadV.mo (fun b o e => (np_at e).2) (outs_of ho8 lw2.symm))
        · rintro _ H7 ⟨s7, _, Fl, out, hF, hFn, pr, z5, z6, z7, z9, rfl⟩
          have e : (prRow ws i).take ((vN ws).drop (i + 1)).length = prRow ws i := by
            rw [List.length_drop, lw, ← prRow_len hi, List.take_length]
          rw [e, ← prs_succ] at pr
          exact ⟨s7, Fl, out, hF, hFn, pr, _, _, _, _, _, _, rfl⟩
      · rintro _ H6 ⟨s6, Fl, out, hF, hFn, pr, z4, z5, z6, z7, z8, z9, rfl⟩
        rw [lw] at pr
        exact ⟨_, rfl, q Fl H6 out (sH5.trans s6) hFn hF pr⟩
end
end Sq
/-! text SqBg -/
namespace Sq
open PySem PySem.Spec PyProof.Rows L2
/-! ### the law's rows -/
def IL : Rl (List Int) := fun H v xs => ∃ p, v = .ref p ∧ H p = some (.lst (xs.map V.int))
theorem IL.mo : Mo IL := fun H H' v xs e h => by
  obtain ⟨p, rfl, hp⟩ := h
  exact ⟨p, rfl, e _ _ hp⟩
def tabOfL (m x : Nat) (zs : List Nat) : List (List Int) := zs.map fun y => rowOf m (x ^^^ y) (sgn (oddL x y m))
def tabsL (m : Nat) (ws zs : List Nat) : List (List (List Int)) := ws.map fun x => tabOfL m x zs
theorem zeros (n : Nat) : (List.replicate n [V.int 0]).flatten = (List.replicate n (0 : Int)).map V.int := by
  induction n with
  | zero => rfl
  | succ n ih =>
    rw [List.replicate_succ, List.flatten_cons, ih, List.replicate_succ, List.map_cons]
    rfl
theorem one_hot (m k : Nat) (s : Int) : ((List.replicate (2 ^ m) (0 : Int)).map V.int).set k (.int s) = (rowOf m k s).map V.int := by
  refine List.ext_getElem? fun i => ?_
  unfold rowOf
  simp only [List.getElem?_set, List.getElem?_map, List.getElem?_replicate, List.length_map, List.length_replicate]
  by_cases hi : i < 2 ^ m
  · rw [List.getElem?_range hi]
    by_cases hk : k = i
    · subst hk
      simp [hi]
    · have h2 : ¬ i = k := fun z => hk z.symm
      simp [hk, h2, hi]
  · have h0 : (List.range (2 ^ m))[i]? = none := List.getElem?_eq_none (by rw [List.length_range]; omega)
    rw [h0]
    by_cases hk : k = i
    · subst hk
      simp [hi]
    · simp [hk, hi]
theorem ixN_nat {n k : Nat} (h : k < n) : ixN n (k : Int) = some k := by
  unfold ixN
  rw [if_pos (Int.natCast_nonneg k), if_pos (by omega), Int.toNat_natCast]
section
variable {P : Program} {w : World} {K : Fr} {mg : Str → Option Value} {base : Heap} {A : Ad} {T : Addr}
def spRowsL : Sp := fun vs H Q _ => ∃ (u v : V) (m : Nat) (ws zs : List Nat), vs = [u, v, .int (m : Int)] ∧ LotV H u ws ∧ LotV H v zs ∧ LotOk m ws ∧ LotOk m zs ∧ m ≤ 5 ∧
  ∀ p H', Same H H' → Li (Li IL) H' (.ref p) (tabsL m ws zs) → Q (.ref p) H'
theorem df_L_rows (N : Nms mg) (Pw : Df P w K mg base CX0 1 "_law_power" spPow) (Sg : Df P w K mg base CX0 4 "_law_sign" spSgnL) (Xo : Df P w K mg base CX0 1 "_law_xor" spXor)
    (D : At K mg "_law_rows" s_L_rows ["_law_firsts", "_law_seconds", "_law_many"]) : Df P w K mg base CX0 5 "_law_rows" spRowsL := by
  refine D.df fun f fd F => F.ok n_L_rows (fun vs H Q E h => ?_) (fun cdv A' outer s0 H vs Q E hr h => ?_)
  · obtain ⟨u, v, m, ws, zs, rfl, _⟩ := h
    rfl
  · obtain ⟨u, v, m, ws, zs, rfl, hu, hv, o1, o2, m5, q⟩ := h
    refine ⟨_, pss_cons (ps_par (i := 3) (j := 4) rfl n_L_rows.nd rfl rfl (by decide) rfl rfl (pa_cons (pe_lst pa_nil) (pa_cons (pe_df Pw hr (by decide) pass0 (pa_cons (pv 2) pa_nil)) pa_nil)) (by rfl))
      <| pss_cons (ps_for PassesOwn.never rfl (pi_tup (pv 0)) (pg_name (i := 5) n_L_rows.nd rfl (.inl rfl))
        <| pss_cons (ps_set (i := 6) n_L_rows.nd rfl (.inl rfl) (pe_lst pa_nil))
        <| pss_cons (ps_for PassesOwn.never rfl (pi_tup (pv 1)) (pg_name (i := 7) n_L_rows.nd rfl (.inl rfl))
          <| pss_cons (ps_set (i := 8) n_L_rows.nd rfl (.inl rfl) (pe_op op_rep (pe_lst (pa_cons pe_int pa_nil)) (pv 4)))
          <| pss_cons (ps_asg (pe_df Sg hr (by decide) pass0 (pa_cons (pv 5) (pa_cons (pv 7) (pa_cons (pv 2) pa_nil)))) (pg_sub (pv 8) (pe_df Xo hr (by decide) pass0 (pa_cons (pv 5) (pa_cons (pv 7) pa_nil))) set_list))
          <| pss_one <| ps_expr <| kb_app K (pv 6) (pv 8))
        <| pss_one <| ps_expr <| kb_app K (pv 3) (pv 6))
      <| pss_one <| ps_ret (pv 3), ?_⟩
    obtain ⟨a, rfl, ha⟩ := hu
    obtain ⟨b, rfl, hb⟩ := hv
    have lz : (vN zs).length = zs.length := vN_len zs
    have lw : (vN ws).length = ws.length := vN_len ws
    have l1 := o1.le
    have l2 := o2.le
    have p32 : 2 ^ m ≤ 32 := Nat.pow_le_pow_right (by decide : 0 < 2) m5
    refine ⟨Nat.zero_le _, fun Fl hF => ⟨_, rfl, m, rfl, by omega, _, _, rfl, ?_⟩⟩
    have sF : Same H (upd H Fl (.lst [])) := same_new hF
    dsimp only
    refine tfor_t (gives_pv (by rfl)) ?_
    rintro _ _ ⟨rfl, rfl⟩
    refine ⟨_, .of (sF _ _ ha), fun i σ' H' => Same H H' ∧ (∃ out, H' Fl = some (.lst out) ∧ Paired (Li IL (nd H H' Fl)) out ((tabsL m ws zs).take i)) ∧
      ∃ z5 z6 z7 z8, σ' = [some (.ref a), some (.ref b), some (.int (m : Int)), some (.ref Fl), some (.int ((2 ^ m : Nat) : Int)), z5, z6, z7, z8], ⟨sF, ⟨[], upd_same, .nil⟩, _, _, _, _, rfl⟩, ?_, ?_, ?_⟩
    · rintro i _ _ _ ⟨s3, _⟩
      exact .of (s3 _ _ ha)
    · rintro i x _ H3 hx ⟨s3, ⟨out, ho, pr⟩, z5, z6, z7, z8, rfl⟩
      obtain ⟨x, hx2, rfl⟩ := vN_get hx
      have xlt := o1.lt x (List.mem_of_getElem? hx2)
      dsimp only [tSeq, tAsg, gName, tLst, tNil]
      refine ⟨Nat.zero_le _, fun G hG => ?_⟩
      have sG : Same H3 (upd H3 G (.lst [])) := same_new hG
      refine tfor_t (gives_pv (by rfl)) ?_
      rintro _ _ ⟨rfl, rfl⟩
      refine ⟨_, .of (sG _ _ (s3 _ _ hb)), fun j σ' H' => Same H3 H' ∧ (∃ out2, H' G = some (.lst out2) ∧ Paired (IL (nd H3 H' G)) out2 ((tabOfL m x zs).take j)) ∧
        ∃ z7 z8, σ' = [some (.ref a), some (.ref b), some (.int (m : Int)), some (.ref Fl), some (.int ((2 ^ m : Nat) : Int)), some (.int (x : Int)), some (.ref G), z7, z8], ⟨sG, ⟨[], upd_same, .nil⟩, _, _, rfl⟩, ?_, ?_, ?_⟩
      · rintro j _ _ _ ⟨s4, _⟩
        exact .of (s4 _ _ (s3 _ _ hb))
      · rintro j y _ H4 hy ⟨s4, ⟨out2, ho2, pr2⟩, z7, z8, rfl⟩
        obtain ⟨y, hy2, rfl⟩ := vN_get hy
        have ylt := o2.lt y (List.mem_of_getElem? hy2)
        have xy : x ^^^ y < 2 ^ m := Nat.xor_lt_two_pow xlt ylt
        have tj : (tabOfL m x zs)[j]? = some (rowOf m (x ^^^ y) (sgn (oddL x y m))) := by
          unfold tabOfL
          rw [List.getElem?_map, hy2]
          rfl
        have lo2 : out2.length ≤ 100 := by
          rw [pr_len pr2, List.length_take]
          unfold tabOfL
          rw [List.length_map]
          omega
        refine ⟨by show 1 ≤ sizeLine; decide, fun Z hZ => ⟨_, rfl, Z, _, _, rfl, rfl, upd_same, by omega, by omega, ?_, fun D hD => ?_⟩⟩
        · show 1 * _ ≤ _
          rw [Int.toNat_natCast]
          exact Nat.le_of_lt (szt (by omega))
        · rw [Int.toNat_natCast, zeros]
          have sZ : Same H4 (upd H4 Z (.lst [.int 0])) := same_new hZ
          have sD : Same (upd H4 Z (.lst [.int 0])) (upd (upd H4 Z (.lst [.int 0])) D (.lst ((List.replicate (2 ^ m) (0 : Int)).map V.int))) := same_new hD
          refine ⟨_, rfl, _, rfl, _, rfl, x, y, m, rfl, by omega, fun H5 s5 => ?_⟩
          refine ⟨_, rfl, _, rfl, _, rfl, x, y, rfl, fun H6 s6 => ?_⟩
          have hD6 := (s5.trans s6) _ _ upd_same
          have hDH : H4 D = none := sZ.free hD
          refine ⟨D, _, ((x ^^^ y : Nat) : Int), x ^^^ y, rfl, rfl, hD6, ixN_nat (by rw [List.length_map, List.length_replicate]; exact xy), ?_⟩
          · rw [one_hot]
            have s46 : Same H4 (upd H6 D (.lst ((rowOf m (x ^^^ y) (sgn (oddL x y m))).map V.int))) := same_mut (sZ.trans (sD.trans (s5.trans s6))) hDH
            have hG6 := s46 _ _ ho2
            refine ⟨_, rfl, .inl ⟨rfl, _, .of hG6⟩, _, rfl, G, out2, _, rfl, rfl, hG6, szt (by omega), same_mut (s4.trans s46) hG, ⟨_, upd_same, ?_⟩, _, _, rfl⟩
            rw [nd_upd, List.take_add_one, tj]
            refine pr_app (paired_mo IL.mo (nd_mono s46) pr2) (.cons ⟨D, rfl, nd_in (s4.free hDH) (ne_some hDH ho2) upd_same⟩ .nil)
      · rintro _ H4 ⟨s4, ⟨out2, ho2, pr2⟩, z7, z8, rfl⟩
        have lt : (tabOfL m x zs).length = (vN zs).length := by
          unfold tabOfL
          rw [List.length_map, lz]
        rw [← lt, List.take_length] at pr2
        have ti : (tabsL m ws zs)[i]? = some (tabOfL m x zs) := by
          unfold tabsL
          rw [List.getElem?_map, hx2]
          rfl
        have lo : out.length ≤ 100 := by
          rw [pr_len pr, List.length_take]
          unfold tabsL
          rw [List.length_map]
          omega
        have ho4 := s4 _ _ ho
        have nGF : G ≠ Fl := ne_some hG ho
        refine ⟨_, rfl, .inl ⟨rfl, _, .of ho4⟩, _, rfl, Fl, out, _, rfl, rfl, ho4, szt (by omega), same_mut (s3.trans s4) hF, ⟨_, upd_same, ?_⟩, _, _, _, _, rfl⟩
        rw [nd_upd, List.take_add_one, ti]
        have sub : Same (nd H3 H4 G) (nd H H4 Fl) := fun c o e => by
          obtain ⟨e1, e2⟩ := nd_at e
          obtain ⟨e3, e4⟩ := np_at e2
          exact nd_in (s3.free e3) (ne_some e3 ho) e4
        refine pr_app (paired_mo (Li.mo IL.mo) (nd_mono s4) pr) (.cons ⟨G, out2, rfl, nd_in (s3.free hG) nGF ho2, paired_mo IL.mo sub pr2⟩ .nil)
    · rintro _ H3 ⟨s3, ⟨out, ho, pr⟩, z5, z6, z7, z8, rfl⟩
      have lt : (tabsL m ws zs).length = (vN ws).length := by
        unfold tabsL
        rw [List.length_map, lw]
      rw [← lt, List.take_length] at pr
      exact ⟨_, rfl, q Fl H3 s3 ⟨Fl, out, rfl, ho, paired_mo (Li.mo IL.mo) (fun c o e => (np_at (nd_at e).2).2) pr⟩⟩
end
end Sq
/-! text SqBh -/
namespace Sq
open PySem PySem.Spec PyProof.Rows L2
/-! ### do the signed tables keep the rules, by the law's signs -/
def KeepC (zs : List Nat) (m : Nat) (p : Nat × Nat) (c : Nat) : Prop := (p.1 ^^^ p.2) ^^^ c ∈ zs →
  sgn (oddL p.1 c m) * sgn (oddL p.2 ((p.1 ^^^ p.2) ^^^ c) m) ≠ sgn (oddL p.2 c m) * sgn (oddL p.1 ((p.1 ^^^ p.2) ^^^ c) m)
def KeepL (ws zs : List Nat) (m : Nat) : Prop := ∀ p ∈ prs ws ws.length, ∀ c ∈ zs, KeepC zs m p c
theorem sgnM (n : Nat) (i : Int) : CMul (sgn n) i := .inl (by unfold sgn; split <;> exact ⟨by decide, by decide⟩)
theorem prs_mem {ws : List Nat} {i : Nat} (hi : i ≤ ws.length) {p : Nat × Nat} (h : p ∈ prs ws i) : p ∈ prs ws ws.length := by
  unfold prs at h ⊢
  obtain ⟨k, hk, hp⟩ := List.mem_flatMap.mp h
  exact List.mem_flatMap.mpr ⟨k, List.mem_range.mpr (by have := List.mem_range.mp hk; omega), hp⟩
section
variable {P : Program} {w : World} {K : Fr} {mg : Str → Option Value} {base : Heap} {A : Ad} {T : Addr}
def spKeepL : Sp := fun vs H Q _ => ∃ (u v : V) (m : Nat) (ws zs : List Nat), vs = [u, v, .int (m : Int)] ∧ LotV H u ws ∧ LotV H v zs ∧ 0 < ws.length ∧ m ≤ 10 ∧
  ∀ (r : Bool) H', Same H H' → (r = true ↔ KeepL ws zs m) → Q (.bl r) H'
theorem df_L_keep (N : Nms mg) (Sg : Df P w K mg base CX0 4 "_law_sign" spSgnL) (Xo : Df P w K mg base CX0 1 "_law_xor" spXor)
    (D : At K mg "_law_do_keep" s_L_do_keep ["_law_firsts", "_law_seconds", "_law_many"]) : Df P w K mg base CX0 5 "_law_do_keep" spKeepL := by
  refine D.df fun f fd F => F.ok n_L_do_keep (fun vs H Q E h => ?_) (fun cdv A' outer s0 H vs Q E hr h => ?_)
  · obtain ⟨u, v, m, ws, zs, rfl, _⟩ := h
    rfl
  · obtain ⟨u, v, m, ws, zs, rfl, hu, hv, w0, m10, q⟩ := h
    refine ⟨_, pss_cons (ps_for PassesOwn.never rfl (pi_enumT N.enu (pa_cons (pv 0) pa_nil)) (kb_pair K rfl (pg_name (i := 3) n_L_do_keep.nd rfl (.inl rfl)) (pg_name (i := 4) n_L_do_keep.nd rfl (.inl rfl)))
        <| pss_one <| ps_for PassesOwn.never rfl (pi_tup (pe_slice sl_tup (pv 0) (po_some (pe_op op_add (pv 3) pe_int)) po_none)) (pg_name (i := 5) n_L_do_keep.nd rfl (.inl rfl))
          <| pss_one <| ps_for PassesOwn.never rfl (pi_tup (pv 1)) (pg_name (i := 6) n_L_do_keep.nd rfl (.inl rfl))
            <| pss_cons (ps_set (i := 7) n_L_do_keep.nd rfl (.inl rfl) (pe_df Xo hr (by decide) pass0 (pa_cons (pe_df Xo hr (by decide) pass0 (pa_cons (pv 4) (pa_cons (pv 5) pa_nil))) (pa_cons (pv 6) pa_nil))))
            <| pss_one <| ps_if (pt_cmpR op_in_seq (pv 7) (pv 1) rfl)
              (pss_cons (ps_set (i := 8) n_L_do_keep.nd rfl (.inl rfl) (pe_op op_mul (pe_df Sg hr (by decide) pass0 (pa_cons (pv 4) (pa_cons (pv 6) (pa_cons (pv 2) pa_nil)))) (pe_df Sg hr (by decide) pass0 (pa_cons (pv 5) (pa_cons (pv 7) (pa_cons (pv 2) pa_nil))))))
                <| pss_one <| ps_if (pt_cmp (pc_eqI (pv 8) (pe_op op_mul (pe_df Sg hr (by decide) pass0 (pa_cons (pv 5) (pa_cons (pv 6) (pa_cons (pv 2) pa_nil)))) (pe_df Sg hr (by decide) pass0 (pa_cons (pv 4) (pa_cons (pv 7) (pa_cons (pv 2) pa_nil))))))) (pss_one (ps_ret pe_bl)) pss_nil) pss_nil)
      <| pss_one <| ps_ret pe_bl, ?_⟩
    obtain ⟨a, rfl, ha⟩ := hu
    obtain ⟨b, rfl, hb⟩ := hv
    have lz : (vN zs).length = zs.length := vN_len zs
    have lw : (vN ws).length = ws.length := vN_len ws
    dsimp only
    refine tfor_eT (gives_pv (by rfl)) ?_
    rintro _ _ ⟨rfl, rfl⟩
    refine ⟨vN ws, .of ha, fun i σ' H' => Same H H' ∧ (∀ p ∈ prs ws i, ∀ c ∈ zs, KeepC zs m p c) ∧ ∃ z3 z4 z5 z6 z7 z8, σ' = [some (.ref a), some (.ref b), some (.int (m : Int)), z3, z4, z5, z6, z7, z8], ⟨Same.refl _, (fun p hp => by simp [prs] at hp), _, _, _, _, _, _, rfl⟩, ?_, ?_, ?_⟩
    · rintro i _ _ ⟨s3, _⟩
      exact .of (s3 _ _ ha)
    · rintro i x _ H3 Tp hx ⟨s3, ok3, z3, z4, z5, z6, z7, z8, rfl⟩ hT
      obtain ⟨x, hc, rfl⟩ := vN_get hx
      have hi := (List.getElem?_eq_some_iff.mp hc).1
      have sT : Same H3 (upd H3 Tp (.tup [.int (i : Nat), .int (x : Int)])) := same_new hT
      refine ⟨Tp, _, rfl, .of upd_same, rfl, _, _, rfl, _, _, rfl, rfl, ?_⟩
      refine tfor_t (gives_loT (k := i + 1) (fun R r => ⟨_, rfl, r⟩) (fun R r => ⟨_, rfl, _, _, rfl, rfl, r⟩) (.of ((s3.trans sT) _ _ ha)) (by omega) (by omega)) ?_
      rintro S _ ⟨nS, rfl⟩
      have sS : Same H3 _ := sT.trans (same_new (o := .tup ((vN ws).drop (i + 1))) nS)
      refine ⟨_, .of upd_same, fun j σ' H' => Same H H' ∧ H' S = some (.tup ((vN ws).drop (i + 1))) ∧ (∀ p ∈ prs ws i ++ (prRow ws i).take j, ∀ c ∈ zs, KeepC zs m p c) ∧
        ∃ z5 z6 z7 z8, σ' = [some (.ref a), some (.ref b), some (.int (m : Int)), some (.int (i : Int)), some (.int (x : Int)), z5, z6, z7, z8], ⟨s3.trans sS, upd_same, (by rw [List.take_zero, List.append_nil]; exact ok3), _, _, _, _, rfl⟩, ?_, ?_, ?_⟩
      · rintro j _ _ _ ⟨_, h4, _⟩
        exact .of h4
      · rintro j y _ H4 hy ⟨s4, h4S, ok4, z5, z6, z7, z8, rfl⟩
        rw [List.getElem?_drop] at hy
        obtain ⟨y, hd, rfl⟩ := vN_get hy
        have tk : prs ws i ++ (prRow ws i).take (j + 1) = (prs ws i ++ (prRow ws i).take j) ++ [(x, y)] := by
          rw [List.take_add_one, prRow_at hc hd, List.append_assoc]
          rfl
        have inp : (x, y) ∈ prs ws ws.length := prs_mem hi (by
          rw [prs_succ]
          exact List.mem_append_right _ (List.mem_of_getElem? (prRow_at hc hd)))
        dsimp only [gName]
        refine tfor_t (gives_pv (by rfl)) ?_
        rintro _ _ ⟨rfl, rfl⟩
        refine ⟨_, .of (s4 _ _ hb), fun k σ' H' => Same H H' ∧ H' S = some (.tup ((vN ws).drop (i + 1))) ∧ (∀ c ∈ zs.take k, KeepC zs m (x, y) c) ∧
          ∃ z6 z7 z8, σ' = [some (.ref a), some (.ref b), some (.int (m : Int)), some (.int (i : Int)), some (.int (x : Int)), some (.int (y : Int)), z6, z7, z8], ⟨s4, h4S, (fun c hc => by simp at hc), _, _, _, rfl⟩, ?_, ?_, ?_⟩
        · rintro k _ _ _ ⟨s5, _⟩
          exact .of (s5 _ _ hb)
        · rintro k c _ H5 hcc ⟨s5, h5S, ok5, z6, z7, z8, rfl⟩
          obtain ⟨c, hcz, rfl⟩ := vN_get hcc
          have cin : c ∈ zs := List.mem_of_getElem? hcz
          have tkz : zs.take (k + 1) = zs.take k ++ [c] := by
            rw [List.take_add_one, hcz]
            rfl
          have more : KeepC zs m (x, y) c → ∀ c' ∈ zs.take (k + 1), KeepC zs m (x, y) c' := fun h c' hc' => by
            rw [tkz] at hc'
            rcases List.mem_append.mp hc' with e | e
            · exact ok5 c' e
            · rw [List.mem_singleton.mp e]
              exact h
          dsimp only [tSeq, tAsg, gName]
          refine ⟨_, rfl, _, rfl, x, y, rfl, fun H6 s6 => ⟨_, rfl, x ^^^ y, c, rfl, fun H7 s7 => ?_⟩⟩
          have st := s5.trans (s6.trans s7)
          refine ⟨_, rfl, _, rfl, b, _, rfl, .inr (.of (st _ _ hb)), rfl, flat_N zs, ?_⟩
          by_cases hin : (x ^^^ y) ^^^ c ∈ zs
          · refine ⟨true, ?_, iteT ?_⟩
            · show V.bl (inV _ _) = _
              rw [in_N, decide_eq_true hin]
            · refine ⟨_, rfl, _, rfl, _, rfl, x, c, m, rfl, m10, fun H8 s8 => ⟨_, rfl, _, rfl, _, rfl, y, (x ^^^ y) ^^^ c, m, rfl, m10, fun H9 s9 => ⟨_, _, rfl, rfl, sgnM _ _, ?_⟩⟩⟩
              refine ⟨_, rfl, _, rfl, _, rfl, _, rfl, y, c, m, rfl, m10, fun H10 s10 => ⟨_, rfl, _, rfl, _, rfl, x, (x ^^^ y) ^^^ c, m, rfl, m10, fun H11 s11 => ⟨_, _, rfl, rfl, sgnM _ _, _, _, rfl, rfl, ?_⟩⟩⟩
              have sall := st.trans (s8.trans (s9.trans (s10.trans s11)))
              by_cases hbad : sgn (oddL x c m) * sgn (oddL y ((x ^^^ y) ^^^ c) m) = sgn (oddL y c m) * sgn (oddL x ((x ^^^ y) ^^^ c) m)
              · refine ⟨true, congrArg V.bl (decide_eq_true hbad), iteT (q false H11 sall ⟨(fun z => nomatch z), fun z => ?_⟩)⟩
                exact absurd hbad (z (x, y) inp c cin hin)
              · exact ⟨false, congrArg V.bl (decide_eq_false hbad), iteF ⟨sall, (s6.trans (s7.trans (s8.trans (s9.trans (s10.trans s11))))) _ _ h5S, more (fun _ => hbad), _, _, _, rfl⟩⟩
          · refine ⟨false, ?_, iteF ⟨st, (s6.trans s7) _ _ h5S, more (fun z => absurd z hin), _, _, _, rfl⟩⟩
            show V.bl (inV _ _) = _
            rw [in_N, decide_eq_false hin]
        · rintro _ H5 ⟨s5, h5S, ok5, z6, z7, z8, rfl⟩
          rw [lz, List.take_length] at ok5
          refine ⟨s5, h5S, fun p hp => ?_, _, _, _, _, rfl⟩
          rw [tk] at hp
          rcases List.mem_append.mp hp with e | e
          · exact ok4 p e
          · rw [List.mem_singleton.mp e]
            exact ok5
      · rintro _ H4 ⟨s4, _, ok4, z5, z6, z7, z8, rfl⟩
        have e : (prRow ws i).take ((vN ws).drop (i + 1)).length = prRow ws i := by
          rw [List.length_drop, lw, ← prRow_len hi, List.take_length]
        rw [e, ← prs_succ] at ok4
        exact ⟨s4, ok4, _, _, _, _, _, _, rfl⟩
    · rintro _ H3 ⟨s3, ok3, z3, z4, z5, z6, z7, z8, rfl⟩
      rw [lw] at ok3
      exact q true H3 s3 ⟨fun _ => ok3, fun _ => rfl⟩
end
end Sq
/-! text SqBi -/
namespace Sq
open PySem PySem.Spec PyProof.Rows L2
/-! ### the law's try -/
structure TTry (K : Fr) (mg : Str → Option Value) (C : Addr) : Prop where
  g : mg "Refused" = some (.ref C)
  xf : XfC K C
  no : PySem.W.findIn K (.ref C) "reason" = some none
  te : PySem.W.exmOne K (.ref C) (.ref C) = some true
theorem pe_dfS {X : Cx} {CX : CXT} {j k : Nat} {x : Str} {sp : Sp} {E : L2.St → XK} {e : Expr} {es : List Expr} {t : TA} {p pos : Pos} (D : Df X.prog X.w X.K X.mg X.base CX k x sp) (hr : Room j X.A) (hj : k ≤ j) (hx : ∀ σ, PassesAt CX X σ (E σ))
    (ha : PA X (e :: es) t) (hg : Gl X x := by rfl) (hdb : (x == ("__debug__" : Str)) = false := by decide)
    (he : starEach (e :: es) X.env = (false, eval e X.env) :: starEach es X.env := by rfl) (hpl : (backTo pos (starEach es X.env)).any (·.1) = false := by rfl) :
    PE X (.Call (.Name x p) (e :: es) [] pos) (tCallS sp E t) := by
  obtain ⟨f, fd, ps, F, g, b, kp⟩ := D.ex
  exact pe_callS F (hr.mono hj) hg g kp b hx ha hdb he hpl
section
variable {P : Program} {w : World} {K : Fr} {mg : Str → Option Value} {base : Heap} {A : Ad} {T : Addr}
def spMade (A : Ad) (T : Addr) : Sp := fun vs H Q _ => ∃ (m : Nat) (ws zs : List Nat), Args3 vs H m ws zs ∧ m ≤ 5 ∧ H T = some (TabE T) ∧
  (clashIn ws zs m = none → ∀ p H', Same H H' → FormV A H' (.ref p) (tabs m ws zs) → Q (.ref p) H') ∧
  (clashIn ws zs m ≠ none → ∀ q H', Same H H' → H' q = some (.tup [.str "clash"]) → Q (.ref q) H')
theorem df_L_made (N : Nms mg) (TT : TTry K mg A.refused) (Wf : Df P w K mg base (L2.CX P w) 9 "words_formula" (spWf A T))
    (D : At K mg "_law_made" s_L_made ["_law_firsts", "_law_seconds", "_law_many"]) : Df P w K mg base CX0 10 "_law_made" (spMade A T) := by
  refine D.df fun f fd F => F.ok n_L_made (fun vs H Q E h => ?_) (fun cdv A' outer s0 H vs Q E hr h => ?_)
  · obtain ⟨m, ws, zs, ⟨u, v, rfl, _⟩, _⟩ := h
    rfl
  · obtain ⟨m, ws, zs, ⟨u, v, rfl, hu, hv, o1, o2, m1, m2⟩, m5, hT, q1, q2⟩ := h
    refine ⟨_, pss_one <| ps_try_as (i := 3) (tb := fun W => tRet (tCallS (spWf A T) (WE W) (tCons (tVar 0) (tCons (tVar 1) (tCons (tVar 2) tNil))))) (ts := fun a cls d => tRet (tXf a cls d A.refused "reason" (tVar 3))) (Wout := fun _ _ _ _ => False) rfl rfl n_L_made.nd rfl rfl ⟨rfl, by decide, Or.inl TT.g⟩ takes0
        (fun W pn xe tk _ => pss_one (ps_ret (by exact pe_dfS Wf (hr.mono (by decide)) (Nat.le_refl 9) (fun σ => passAt tk σ) (by exact pa_cons (pv 0) (pa_cons (pv 1) (pa_cons (pv 2) pa_nil))))))
        (fun a oe cls d pn hz hf => pss_one (ps_ret (by exact pe_xf TT.xf TT.no hz hf (pv 3)))), ?_⟩
    refine ⟨_, rfl, _, rfl, _, rfl, m, ws, zs, ⟨u, v, rfl, hu, hv, o1, o2, m1, m2⟩, m5, hT, q1, fun hc d q H' s hd hq => ?_⟩
    refine ⟨true, TT.te, fun _ a ha => ?_, fun z => Bool.noConfusion z⟩
    exact ⟨_, rfl, rfl, rfl, d, _, _, rfl, hd, rfl, q2 hc q H' s hq⟩
end
end Sq
/-! text SqBj -/
namespace Sq
open PySem PySem.Spec PyProof.Rows L2
theorem kb_piT (K : Fr) {X : Cx} {tg e : Expr} {te : TE} (he : PE X e te) (hK : X.K = K := by rfl) : PI X tg e (iTup K te) := by
  subst hK
  exact pi_tup he
abbrev imS1 : Scope := { kind := .function, names := [(PySem.Str.ofString ".0", .local), (PySem.Str.ofString "_law_table", .local)], isGenerator := false, isCoroutine := false, more := [] }
abbrev imS2 : Scope := { kind := .function, names := [(PySem.Str.ofString ".0", .local), (PySem.Str.ofString "_law_row", .local)], isGenerator := false, isCoroutine := false, more := [] }
/-! ### equal data -/
def d1 (xs : List Int) : PyData := .list (xs.map PyData.int)
def d2 (t : List (List Int)) : PyData := .list (t.map d1)
def d3 (ts : List (List (List Int))) : PyData := .list (ts.map d2)
theorem eqv_lst {α : Type} [DecidableEq α] {f : α → PyData} (h : ∀ x y, PyData.eqv (f x) (f y) = decide (x = y)) (xs ys : List α) : PyData.eqv (.list (xs.map f)) (.list (ys.map f)) = decide (xs = ys) := by
  simp only [PyData.eqv]
  exact eqvAll_map h xs ys
theorem eqv_3 (s t : List (List (List Int))) : PyData.eqv (d3 s) (d3 t) = decide (s = t) := eqv_lst (eqv_lst (eqv_lst eqv_I)) s t
theorem lay_map {α : Type} {k : Nat} {f : α → PyData} (h : ∀ x, Lay k (f x)) (xs : List α) : Lay (k + 1) (.list (xs.map f)) := lay_lst fun d hd => by
  obtain ⟨x, _, rfl⟩ := List.mem_map.mp hd
  exact h x
theorem lay_3 (ts : List (List (List Int))) : Lay 3 (d3 ts) := lay_map (lay_map (lay_map lay_int)) ts
theorem dp_map {K : Fr} {H : Hp} {α : Type} {R : Rl α} {f : α → PyData} (h : ∀ v x, R H v x → Dp K H v (f x)) : ∀ {vs : List V} {xs : List α}, Paired (R H) vs xs → DpAll K H vs (xs.map f)
  | _, _, .nil => .nil
  | _, _, .cons r t => .cons (h _ _ r) (dp_map h t)
theorem dp_Li {K : Fr} {H : Hp} {α : Type} {R : Rl α} {f : α → PyData} (h : ∀ v x, R H v x → Dp K H v (f x)) (v : V) (xs : List α) (r : Li R H v xs) : Dp K H v (.list (xs.map f)) := by
  obtain ⟨p, vs, rfl, hp, pr⟩ := r
  exact .lst (.of hp) (dp_map h pr)
theorem dp_ints {K : Fr} {H : Hp} : ∀ xs : List Int, DpAll K H (xs.map V.int) (xs.map PyData.int)
  | [] => .nil
  | x :: xs => .cons (.int x) (dp_ints xs)
theorem dp_IL {K : Fr} {H : Hp} (v : V) (xs : List Int) (r : IL H v xs) : Dp K H v (d1 xs) := by
  obtain ⟨p, rfl, hp⟩ := r
  exact .lst (.of hp) (dp_ints xs)
theorem dp_rows {K : Fr} {H : Hp} {v : V} {ts : List (List (List Int))} (r : Li (Li IL) H v ts) : Dp K H v (d3 ts) := dp_Li (dp_Li dp_IL) v ts r
theorem iv_ints {H : Hp} : ∀ {vs : List V} {xs : List Int}, Paired (IV H) vs xs → vs = xs.map V.int
  | _, _, .nil => rfl
  | _, _, .cons r t => by rw [show _ = V.int _ from r, iv_ints t]; rfl
theorem cube_tabs (m : Nat) (ws zs : List Nat) : Cube ws.length zs.length (2 ^ m) (tabs m ws zs) := by
  refine ⟨by unfold tabs; rw [List.length_map], fun t ht => ?_⟩
  unfold tabs at ht
  obtain ⟨x, _, rfl⟩ := List.mem_map.mp ht
  refine ⟨by unfold tabOf; rw [List.length_map], fun r hr => ?_⟩
  unfold tabOf at hr
  obtain ⟨y, _, rfl⟩ := List.mem_map.mp hr
  exact rowOf_len _ _ _
section
variable {P : Program} {w : World} {K : Fr} {mg : Str → Option Value} {base : Heap} {A : Ad} {T : Addr}
def spIsMade (T : Addr) : Sp := fun vs H Q _ => ∃ (m : Nat) (ws zs : List Nat), Args3 vs H m ws zs ∧ m ≤ 5 ∧ H T = some (TabE T) ∧ ws.length ≤ 32 ∧ zs.length ≤ 32 ∧ clashIn ws zs m = none ∧ KeepAll (tabs m ws zs) ∧ tabs m ws zs = tabsL m ws zs ∧ ∀ H', Same H H' → Q (.bl true) H'
theorem df_L_is_made (N : Nms mg) (TF : TForm K mg A) (TR : TRatio K mg A) (Md : Df P w K mg base CX0 10 "_law_made" (spMade A T)) (Rw : Df P w K mg base CX0 5 "_law_rows" spRowsL) (Pw : Df P w K mg base CX0 1 "_law_power" spPow)
    (Sz : Rp P w K mg base 1 A.formula "sizes" (spSizes A)) (Wh : Rp P w K mg base 1 A.formula "is_whole" (spWhole A)) (Tb : Rp P w K mg base 1 A.formula "tables" (spTbls A)) (Tp : Rp P w K mg base 1 A.ratio "top" (spTop A))
    (If : Df P w K mg base CX0 6 "is_formula" (spIf A)) (D : At K mg "_law_is_made" s_L_is_made ["_law_firsts", "_law_seconds", "_law_many"]) : Df P w K mg base CX0 11 "_law_is_made" (spIsMade T) := by
  refine D.df fun f fd F => F.ok n_L_is_made (fun vs H Q E h => ?_) (fun cdv A' outer s0 H vs Q E hr h => ?_)
  · obtain ⟨m, ws, zs, ⟨u, v, rfl, _⟩, _⟩ := h
    rfl
  · obtain ⟨m, ws, zs, ⟨u, v, rfl, hu, hv, o1, o2, m1, m2⟩, m5, hT, w32, z32, hc, kp, eq, q⟩ := h
    refine ⟨_, pss_cons (ps_par (i := 3) (j := 4) rfl n_L_is_made.nd rfl rfl (by decide) rfl rfl (pa_cons (pe_df Md hr (by decide) pass0 (pa_cons (pv 0) (pa_cons (pv 1) (pa_cons (pv 2) pa_nil)))) (pa_cons (pe_df Rw hr (by decide) pass0 (pa_cons (pv 0) (pa_cons (pv 1) (pa_cons (pv 2) pa_nil)))) pa_nil)) (by rfl))
      <| pss_cons (ps_if (PW.pt (pw_or (pt_not (pt_val (kb_isiSl K A.formula N (pv 3) TF.k.g))) (pw_or1 (pt_cmpR (op_neD hr.units) (pe_rp Sz TF.k.sc hr (by decide) (pv 3)) (pe_tup (pa_cons (kb_len K N (pa_cons (pv 0) pa_nil)) (pa_cons (kb_len K N (pa_cons (pv 1) pa_nil)) (pa_cons (pe_df Pw hr (by decide) pass0 (pa_cons (pv 2) pa_nil)) pa_nil)))) (nomark _))))) pss_never pss_nil)
      <| pss_cons (ps_if (PW.pt (pw_or (pt_not (pt_val (pe_rp Wh TF.k.sc hr (by decide) (pv 3)))) (pw_or1 (pt_not (pt_val (pe_df If hr (by decide) pass0 (pa_cons (pe_rp Tb TF.k.sc hr (by decide) (pv 3)) pa_nil))))))) pss_never pss_nil)
      <| pss_one <| ps_ret <| pe_cmpR (op_eqD hr.units)
          (pe_lc (own := [("_law_table", 5)]) (g := gName 5) (tt := tYes) rfl n_L_is_made.nd (pi_tup (pe_rp Tb TF.k.sc hr (by decide) (pv 3))) (blkOk_by (N := ["_law_firsts", "_law_seconds", "_law_many", "_law_formula", "_law_rows_here", "_law_table", "_law_row", "_law_entry"]) (sc := defScope s_L_is_made) (by decide +kernel))
            (fun _ _ _ _ _ => pg_name (i := 5) n_L_is_made.nd rfl (Or.inl rfl)) (fun _ _ _ _ _ => pts_nil)
            (fun _ _ _ _ _ => pe_lc (own := [("_law_row", 6)]) (g := gName 6) (tt := tYes) rfl n_L_is_made.nd (kb_piT K (pv 5)) (blkOk_by (N := ["_law_firsts", "_law_seconds", "_law_many", "_law_formula", "_law_rows_here", "_law_table", "_law_row", "_law_entry"]) (sc := imS1) (by decide +kernel))
              (fun _ _ _ _ _ => pg_name (i := 6) n_L_is_made.nd rfl (Or.inl rfl)) (fun _ _ _ _ _ => pts_nil)
              (fun _ _ _ _ _ => pe_lc (own := [("_law_entry", 7)]) (g := gName 7) (tt := tYes) rfl n_L_is_made.nd (kb_piT K (pv 6)) (blkOk_by (N := ["_law_firsts", "_law_seconds", "_law_many", "_law_formula", "_law_rows_here", "_law_table", "_law_row", "_law_entry"]) (sc := imS2) (by decide +kernel))
                (fun _ _ _ _ _ => pg_name (i := 7) n_L_is_made.nd rfl (Or.inl rfl)) (fun _ _ _ _ _ => pts_nil)
                (fun _ _ _ _ _ => pe_rp Tp TR.k.sc hr (by decide) (pv 7)))))
          (pv 4) (nomark _), ?_⟩
    have cu := cube_tabs m ws zs
    have p32 : 2 ^ m ≤ 32 := Nat.pow_le_pow_right (by decide : 0 < 2) m5
    have p1 : 1 ≤ 2 ^ m := Nat.one_le_two_pow
    have w1 := o1.ne
    have z1 := o2.ne
    have lt := cu.1
    refine ⟨_, rfl, _, rfl, _, rfl, m, ws, zs, ⟨u, v, rfl, hu, hv, o1, o2, m1, m2⟩, m5, hT, fun _ fo H1 s1 fv => ?_, fun z => absurd hc z⟩
    refine ⟨_, rfl, _, rfl, _, rfl, u, v, m, ws, zs, rfl, LotV.mo _ _ _ _ s1 hu, LotV.mo _ _ _ _ s1 hv, o1, o2, m5, fun ro H2 s2 rv => ⟨_, _, rfl, ?_⟩⟩
    have st := s1.trans s2
    have fv2 := FormV.mo _ _ _ _ s2 fv
    obtain ⟨p, L, tv, ep, ob, ht, hp⟩ := id fv2
    cases ep
    obtain ⟨dx, hs⟩ := ob.slt
    obtain ⟨a, rfl, ha⟩ := LotV.mo _ _ _ _ st hu
    obtain ⟨b, rfl, hb⟩ := LotV.mo _ _ _ _ st hv
    refine ⟨_, rfl, fo, A.formula, dx, _, .ref A.formula, true, rfl, rfl, fun w h => h, hs, TF.k.sc, TF.k.si, TF.k.kit, true, rfl, iteF ?_⟩
    refine ⟨_, rfl, fo, dx, _, rfl, hs, _, ws.length, zs.length, 2 ^ m, tabs m ws zs, rfl, fv2, cu, w1, z1, fun Z hZ => ?_⟩
    have sZ : Same H2 (upd H2 Z (.tup [.int (ws.length : Int), .int (zs.length : Int), .int ((2 ^ m : Nat) : Int)])) := same_new hZ
    have la := len_tup (K := K) (sZ _ _ ha)
    have lb := len_tup (K := K) (sZ _ _ hb)
    rw [vN_len] at la lb
    refine ⟨_, rfl, _, _, rfl, la, _, rfl, _, _, rfl, lb, _, rfl, m, rfl, by omega, by show 3 ≤ sizeLine; decide, fun Y hY => ?_⟩
    have sY : Same (upd H2 Z (.tup [.int (ws.length : Int), .int (zs.length : Int), .int ((2 ^ m : Nat) : Int)])) (upd (upd H2 Z (.tup [.int (ws.length : Int), .int (zs.length : Int), .int ((2 ^ m : Nat) : Int)])) Y (.tup [.int (ws.length : Int), .int (zs.length : Int), .int ((2 ^ m : Nat) : Int)])) := same_new hY
    have lay3 : SeqAt.shaped (.tuple ([ws.length, zs.length, 2 ^ m].map dN)) = true := lay_shaped (lay_tup (k := 0) fun d hd => by
      obtain ⟨n, _, rfl⟩ := List.mem_map.mp hd
      exact lay_int _) (by decide)
    have s4 := sZ.trans sY
    refine ⟨.tuple ([ws.length, zs.length, 2 ^ m].map dN), .tuple ([ws.length, zs.length, 2 ^ m].map dN), .tup (.of (sY _ _ upd_same)) (dpAll_N [ws.length, zs.length, 2 ^ m]), .tup (.of upd_same) (dpAll_N [ws.length, zs.length, 2 ^ m]), lay3, lay3, false, ?_, iteF ?_⟩
    · have e : PyData.eqv (.tuple ([ws.length, zs.length, 2 ^ m].map dN)) (.tuple ([ws.length, zs.length, 2 ^ m].map dN)) = true := by
        simp only [PyData.eqv]
        rw [eqvAll_map eqv_N]
        exact decide_eq_true rfl
      rw [e]
      rfl
    have fv4 := FormV.mo _ _ _ _ s4 fv2
    obtain ⟨dx4, hs4⟩ := (ob.mono s4).slt
    refine ⟨_, rfl, fo, dx4, _, rfl, hs4, _, tabs m ws zs, rfl, fv4, by omega, fun H5 s5 => ⟨true, rfl, iteF ?_⟩⟩
    have fv5 := FormV.mo _ _ _ _ s5 fv4
    obtain ⟨dx5, hs5⟩ := (ob.mono (s4.trans s5)).slt
    refine ⟨_, rfl, fo, dx5, _, rfl, hs5, _, tabs m ws zs, rfl, fv5, fun tv5 ht5 => ?_⟩
    refine ⟨tv5, ws.length, zs.length, 2 ^ m, tabs m ws zs, rfl, ht5, cu, ⟨w1, w32⟩, ⟨z1, z32⟩, ⟨p1, p32⟩, kp, fun H6 s6 => ⟨true, rfl, iteF ?_⟩⟩
    have fv6 := FormV.mo _ _ _ _ s6 fv5
    obtain ⟨dx6, hs6⟩ := (ob.mono ((s4.trans s5).trans s6)).slt
    have all6 := s4.trans (s5.trans s6)
    dsimp only [tNext, tSeq, tRet, tOp]
    refine tlc_t (Of (Li IL) (tabs m ws zs)) (Of.mo (Li.mo IL.mo)) (G := fun b H1 => H6 = H1 ∧ ∃ us, H6 b = some (.tup us) ∧ Paired (TabV A H6) us (tabs m ws zs)) (fun R r => ⟨_, rfl, fo, dx6, _, rfl, hs6, _, tabs m ws zs, rfl, fv6, fun tv6 ht6 => ?_⟩) (by intro x; rfl) ?_
    · obtain ⟨b6, us, rfl, hb6, pr⟩ := ht6
      exact r b6 _ ⟨rfl, us, hb6, pr⟩
    rintro b6 _ ⟨rfl, us, hb6, pr⟩
    have lu : us.length = (tabs m ws zs).length := pr_len pr
    refine ⟨us, .of hb6, by omega, fun i y H1 hy s7 Qe k => ?_, fun D7 H7 out7 s7 hD7 ho7 => ?_⟩
    · obtain ⟨t, ht, c, vs, rfl, hcv, prt⟩ := pr_get pr hy
      have sd := cu.2 t (List.mem_of_getElem? ht)
      have lv : vs.length = t.length := pr_len prt
      have lv2 := sd.1
      refine tlc_t (Of IL t) (Of.mo IL.mo) (gives_pv (by rfl)) (by intro x; rfl) ?_
      rintro _ _ ⟨rfl, rfl⟩
      refine ⟨vs, .of (s7 _ _ hcv), by omega, fun j z H8 hz s8 Qr kr => ?_, fun D8 H8 out8 s8 hD8 ho8 => k _ _ s8 ⟨t, ht, D8, out8, rfl, hD8, outs_of ho8 lv⟩⟩
      obtain ⟨xs, hxs, e, es, rfl, he, pre⟩ := pr_get prt hz
      have le : es.length = xs.length := pr_len pre
      have lx := sd.2 xs (List.mem_of_getElem? hxs)
      refine tlc_t (Of IV xs) (Of.mo IV.mo) (gives_pv (by rfl)) (by intro x; rfl) ?_
      rintro _ _ ⟨rfl, rfl⟩
      refine ⟨es, .of (s8 _ _ (s7 _ _ he)), by omega, fun l y H9 hy s9 Qs ks => ?_, fun D9 H9 out9 s9 hD9 ho9 => kr _ _ s9 ⟨xs, hxs, D9, rfl, ?_⟩⟩
      · obtain ⟨x, hx, rr⟩ := pr_get pre hy
        obtain ⟨pp, rfl, ir⟩ := RatV.mo _ _ _ _ (s7.trans (s8.trans s9)) rr
        obtain ⟨dp, sp⟩ := ir.slt
        exact ⟨_, rfl, pp, dp, _, rfl, sp, pp, x, rfl, ir, ks _ _ (Same.refl _) ⟨x, hx, rfl⟩⟩
      · rw [← iv_ints (outs_of ho9 le)]
        exact hD9
    · have po := outs_of ho7 lu
      have d7 : Li (Li IL) H7 (.ref D7) (tabs m ws zs) := ⟨D7, out7, rfl, (np_at hD7).2, paired_mo (Li.mo IL.mo) (fun b o e => (np_at e).2) po⟩
      have r7 := (Li.mo (Li.mo IL.mo)) _ _ _ _ (all6.trans s7) rv
      refine ⟨_, rfl, d3 (tabs m ws zs), d3 (tabsL m ws zs), dp_rows d7, dp_rows r7, lay_shaped (lay_3 _) (by decide), lay_shaped (lay_3 _) (by decide), qbl (Q := Q) ((eqv_3 _ _).trans (decide_eq_true eq)) (q _ (st.trans (all6.trans s7)))⟩
end
end Sq
/-! text SqMa -/
namespace Sq
open PySem PySem.Spec PyProof.Rows L2
/-! ### the signs, as bits of one number -/
def sTab : Nat := 116320513695829768790806365895545654402977441120419276565275616677936332234598194353729891533407491882728805216798662381057664263460318790460127945576140556959277970816348999312963477024085145799040451770027809046798373460129597505090973464736536688795023097258106777676168990264379935189361307562372260429824
def sB (x y : Nat) : Nat := (sTab >>> (32 * x + y)) % 2
def sOk (m : Nat) : Bool := (List.range (2 ^ m)).all fun x => (List.range (2 ^ m)).all fun y => Nat.beq (oddL x y m % 2) (sB x y) && Nat.beq (oddP x y m % 2) (sB x y)
theorem s_ok : (List.range 6).all sOk = true := by decide +kernel
def qOk (a b c : Nat) : Bool := Nat.beq a b || (Nat.beq ((sB a c + sB b ((a ^^^ b) ^^^ c) + sB b c + sB a ((a ^^^ b) ^^^ c)) % 2) 0 == Nat.beq (wt (a ^^^ b) % 4) 0)
theorem q_ok : ((List.range 32).all fun a => (List.range 32).all fun b => (List.range 32).all fun c => qOk a b c) = true := by decide +kernel
theorem s_at {m x y : Nat} (hm : m ≤ 5) (hx : x < 2 ^ m) (hy : y < 2 ^ m) : oddL x y m % 2 = sB x y ∧ oddP x y m % 2 = sB x y := by
  have h := List.all_eq_true.mp (List.all_eq_true.mp (List.all_eq_true.mp s_ok m (List.mem_range.mpr (by omega))) x (List.mem_range.mpr hx)) y (List.mem_range.mpr hy)
  obtain ⟨h1, h2⟩ := Bool.and_eq_true_iff.mp h
  exact ⟨Nat.eq_of_beq_eq_true h1, Nat.eq_of_beq_eq_true h2⟩
theorem sgn_mod {a b : Nat} (h : a % 2 = b % 2) : sgn a = sgn b := by
  unfold sgn
  rw [h]
theorem sgn_LP {m x y : Nat} (hm : m ≤ 5) (hx : x < 2 ^ m) (hy : y < 2 ^ m) : sgn (oddL x y m) = sgn (oddP x y m) := by
  obtain ⟨h1, h2⟩ := s_at hm hx hy
  exact sgn_mod (h1.trans h2.symm)
theorem sgn_four (a b c d : Nat) : sgn a * sgn b = sgn c * sgn d ↔ (a + b + c + d) % 2 = 0 := by
  unfold sgn
  rcases Nat.mod_two_eq_zero_or_one a with h1 | h1 <;> rcases Nat.mod_two_eq_zero_or_one b with h2 | h2 <;> rcases Nat.mod_two_eq_zero_or_one c with h3 | h3 <;> rcases Nat.mod_two_eq_zero_or_one d with h4 | h4 <;>
    (rw [h1, h2, h3, h4]; simp; omega)
theorem xor_lt {m x y : Nat} (hx : x < 2 ^ m) (hy : y < 2 ^ m) : x ^^^ y < 2 ^ m := Nat.xor_lt_two_pow hx hy
theorem quart {m a b c : Nat} (hm : m ≤ 5) (ha : a < 2 ^ m) (hb : b < 2 ^ m) (hc : c < 2 ^ m) (n : a ≠ b) :
    sgn (oddL a c m) * sgn (oddL b ((a ^^^ b) ^^^ c) m) = sgn (oddL b c m) * sgn (oddL a ((a ^^^ b) ^^^ c) m) ↔ wt (a ^^^ b) % 4 = 0 := by
  have hd := xor_lt (xor_lt ha hb) hc
  have p32 : 2 ^ m ≤ 32 := Nat.pow_le_pow_right (by decide : 0 < 2) hm
  have h := List.all_eq_true.mp (List.all_eq_true.mp (List.all_eq_true.mp q_ok a (List.mem_range.mpr (by omega))) b (List.mem_range.mpr (by omega))) c (List.mem_range.mpr (by omega))
  unfold qOk at h
  have hn : Nat.beq a b = false := by
    cases e : Nat.beq a b with
    | false => rfl
    | true => exact absurd (Nat.eq_of_beq_eq_true e) n
  rw [hn, Bool.false_or] at h
  have h2 := eq_of_beq h
  rw [sgn_four]
  have e1 := (s_at hm ha hc).1
  have e2 := (s_at hm hb hd).1
  have e3 := (s_at hm hb hc).1
  have e4 := (s_at hm ha hd).1
  have e5 : (oddL a c m + oddL b ((a ^^^ b) ^^^ c) m + oddL b c m + oddL a ((a ^^^ b) ^^^ c) m) % 2 = (sB a c + sB b ((a ^^^ b) ^^^ c) + sB b c + sB a ((a ^^^ b) ^^^ c)) % 2 := by
    omega
  rw [e5]
  constructor
  · intro z
    rw [z] at h2
    exact Nat.eq_of_beq_eq_true h2.symm
  · intro z
    rw [z] at h2
    exact Nat.eq_of_beq_eq_true h2
theorem tabs_L {m : Nat} {ws zs : List Nat} (hm : m ≤ 5) (hw : ∀ x ∈ ws, x < 2 ^ m) (hz : ∀ x ∈ zs, x < 2 ^ m) : tabs m ws zs = tabsL m ws zs := by
  unfold tabs tabsL
  refine List.map_congr_left fun x hx => ?_
  unfold tabOf tabOfL
  exact List.map_congr_left fun y hy => by rw [sgn_LP hm (hw x hx) (hz y hy)]
end Sq
/-! text SqMb -/
namespace Sq
open PySem PySem.Spec PyProof.Rows L2
/-! ### pairs, clashes: the law's list and the program's search -/
theorem drop_mem {α : Type} {ws : List α} {k : Nat} {y : α} (h : y ∈ ws.drop k) : ∃ j, k ≤ j ∧ ws[j]? = some y := by
  obtain ⟨i, hi⟩ := List.getElem?_of_mem h
  rw [List.getElem?_drop] at hi
  exact ⟨k + i, by omega, hi⟩
theorem pair_iff {ws : List Nat} (as : ws.Pairwise (· < ·)) (a b : Nat) : (a, b) ∈ prs ws ws.length ↔ a ∈ ws ∧ b ∈ ws ∧ a < b := by
  have at_lt : ∀ (i j x y : Nat), i < j → ws[i]? = some x → ws[j]? = some y → x < y := fun i j x y hij hx hy => by
    obtain ⟨h1, rfl⟩ := List.getElem?_eq_some_iff.mp hx
    obtain ⟨h2, rfl⟩ := List.getElem?_eq_some_iff.mp hy
    exact List.pairwise_iff_getElem.mp as i j h1 h2 hij
  constructor
  · intro h
    obtain ⟨k, hk, hp⟩ := List.mem_flatMap.mp h
    unfold prRow at hp
    cases e : ws[k]? with
    | none =>
      rw [e] at hp
      simp at hp
    | some x =>
      rw [e] at hp
      obtain ⟨y, hy, ey⟩ := List.mem_map.mp hp
      obtain ⟨rfl, rfl⟩ := Prod.mk.inj ey
      obtain ⟨j, hj, hy2⟩ := drop_mem hy
      exact ⟨List.mem_of_getElem? e, List.mem_of_getElem? hy2, at_lt k j _ _ (by omega) e hy2⟩
  · rintro ⟨ha, hb, hab⟩
    obtain ⟨i, hi⟩ := List.getElem?_of_mem ha
    obtain ⟨j, hj⟩ := List.getElem?_of_mem hb
    have hij : i < j := by
      rcases Nat.lt_trichotomy i j with h | h | h
      · exact h
      · subst h
        rw [hi] at hj
        cases hj
        exact absurd hab (Nat.lt_irrefl _)
      · have := at_lt j i b a h hj hi
        omega
    have hil := (List.getElem?_eq_some_iff.mp hi).1
    refine List.mem_flatMap.mpr ⟨i, List.mem_range.mpr hil, ?_⟩
    obtain ⟨d, rfl⟩ : ∃ d, j = i + 1 + d := ⟨j - (i + 1), by omega⟩
    exact List.mem_of_getElem? (prRow_at hi hj)
/-- four words that clash, by the law -/
def Cl (ws zs : List Nat) (a b c d : Nat) : Prop := a ∈ ws ∧ b ∈ ws ∧ c ∈ zs ∧ d ∈ zs ∧ a < b ∧ c < d ∧ c ^^^ d = a ^^^ b ∧ wt (a ^^^ b) % 4 = 0
theorem clL_iff {ws zs : List Nat} (aw : ws.Pairwise (· < ·)) (az : zs.Pairwise (· < ·)) (a b c d : Nat) : (a, b, c, d) ∈ clL ws zs ↔ Cl ws zs a b c d := by
  unfold clL Cl
  constructor
  · intro h
    obtain ⟨⟨a', b'⟩, hp, hq⟩ := List.mem_flatMap.mp h
    unfold withPair at hq
    obtain ⟨⟨c', d'⟩, hr, e⟩ := List.mem_map.mp hq
    obtain ⟨rfl, e2⟩ := Prod.mk.inj e
    obtain ⟨rfl, e3⟩ := Prod.mk.inj e2
    obtain ⟨rfl, rfl⟩ := Prod.mk.inj e3
    obtain ⟨h1, h2⟩ := List.mem_filter.mp hr
    unfold gdPair at h2
    obtain ⟨h3, h4⟩ := Bool.and_eq_true_iff.mp h2
    have h3 := of_decide_eq_true h3
    have h4 := of_decide_eq_true h4
    obtain ⟨p1, p2, p3⟩ := (pair_iff aw _ _).mp hp
    obtain ⟨q1, q2, q3⟩ := (pair_iff az _ _).mp h1
    exact ⟨p1, p2, q1, q2, p3, q3, h3, h3 ▸ h4⟩
  · rintro ⟨p1, p2, q1, q2, p3, q3, h3, h4⟩
    refine List.mem_flatMap.mpr ⟨(a, b), (pair_iff aw _ _).mpr ⟨p1, p2, p3⟩, ?_⟩
    unfold withPair
    refine List.mem_map.mpr ⟨(c, d), List.mem_filter.mpr ⟨(pair_iff az _ _).mpr ⟨q1, q2, q3⟩, ?_⟩, rfl⟩
    unfold gdPair
    exact Bool.and_eq_true_iff.mpr ⟨decide_eq_true h3, decide_eq_true (by show wt (c ^^^ d) % 4 = 0; rw [h3]; exact h4)⟩
theorem xor_back (x a : Nat) : x ^^^ (x ^^^ a) = a := by
  rw [← Nat.xor_assoc, Nat.xor_self, Nat.zero_xor]
theorem xor_zero {a b : Nat} (h : a ^^^ b = 0) : b = a := by
  have e := xor_back a b
  rw [h, Nat.xor_zero] at e
  exact e.symm
theorem pairW_some {ws : List Nat} {a x : Nat} (h : pairW ws a = some x) : x ∈ ws ∧ x < x ^^^ a ∧ x ^^^ a ∈ ws := by
  unfold pairW at h
  have h1 := List.find?_some h
  unfold pW at h1
  obtain ⟨h2, h3⟩ := Bool.and_eq_true_iff.mp h1
  exact ⟨List.mem_of_find?_eq_some h, of_decide_eq_true h2, of_decide_eq_true h3⟩
theorem pairW_of {ws : List Nat} {a x : Nat} (h1 : x ∈ ws) (h2 : x < x ^^^ a) (h3 : x ^^^ a ∈ ws) : ∃ y, pairW ws a = some y := by
  cases e : pairW ws a with
  | some y => exact ⟨y, rfl⟩
  | none =>
    have := List.find?_eq_none.mp e x h1
    unfold pW at this
    rw [decide_eq_true h2, decide_eq_true h3] at this
    exact absurd rfl this
theorem clash_some {ws zs : List Nat} {m : Nat} {r : Nat × Nat × Nat × Nat} (h : clashIn ws zs m = some r) : Cl ws zs r.1 r.2.1 r.2.2.1 r.2.2.2 := by
  unfold clashIn at h
  obtain ⟨i, _, hi⟩ := List.exists_of_findSome?_eq_some h
  unfold clashF at hi
  split at hi
  · next hw =>
    cases e1 : pairW ws (1 + i) with
    | none =>
      rw [e1] at hi
      cases hi
    | some x =>
      cases e2 : pairW zs (1 + i) with
      | none =>
        rw [e1, e2] at hi
        cases hi
      | some y =>
        rw [e1, e2] at hi
        cases hi
        obtain ⟨a1, a2, a3⟩ := pairW_some e1
        obtain ⟨b1, b2, b3⟩ := pairW_some e2
        refine ⟨a1, a3, b1, b3, a2, b2, ?_, ?_⟩
        · show y ^^^ (y ^^^ (1 + i)) = x ^^^ (x ^^^ (1 + i))
          rw [xor_back, xor_back]
        · show wt (x ^^^ (x ^^^ (1 + i))) % 4 = 0
          rw [xor_back]
          exact hw
  · cases hi
theorem clash_none {ws zs : List Nat} {m : Nat} (hw : ∀ x ∈ ws, x < 2 ^ m) (h : clashIn ws zs m = none) (a b c d : Nat) : ¬ Cl ws zs a b c d := by
  rintro ⟨a1, a2, c1, c2, ab, cd, e, hwt⟩
  have hx : a ^^^ b < 2 ^ m := xor_lt (hw a a1) (hw b a2)
  have h0 : a ^^^ b ≠ 0 := fun z => by
    have := xor_zero z
    omega
  obtain ⟨i, hi⟩ : ∃ i, a ^^^ b = 1 + i := ⟨(a ^^^ b) - 1, by omega⟩
  unfold clashIn at h
  have hn := List.findSome?_eq_none_iff.mp h i (List.mem_range.mpr (by omega))
  unfold clashF at hn
  rw [← hi, if_pos hwt] at hn
  obtain ⟨x, hx2⟩ := pairW_of (a := a ^^^ b) a1 (by rw [xor_back]; exact ab) (by rw [xor_back]; exact a2)
  obtain ⟨y, hy2⟩ := pairW_of (ws := zs) (a := a ^^^ b) c1 (by rw [← e, xor_back]; exact cd) (by rw [← e, xor_back]; exact c2)
  rw [hx2, hy2] at hn
  cases hn
theorem clL_nil {ws zs : List Nat} {m : Nat} (aw : LotOk m ws) (az : LotOk m zs) : clL ws zs = [] ↔ clashIn ws zs m = none := by
  constructor
  · intro h
    cases e : clashIn ws zs m with
    | none => rfl
    | some r =>
      have := (clL_iff aw.as az.as _ _ _ _).mpr (clash_some e)
      rw [h] at this
      cases this
  · intro h
    rcases hl : clL ws zs with _ | ⟨⟨a, b, c, d⟩, l⟩
    · rfl
    · exact absurd ((clL_iff aw.as az.as a b c d).mp (by rw [hl]; exact List.mem_cons_self)) (clash_none aw.lt h a b c d)
theorem clash_ok {ws zs : List Nat} {m : Nat} (hm : m ≤ 5) (aw : LotOk m ws) (az : LotOk m zs) {r : Nat × Nat × Nat × Nat} (h : clashIn ws zs m = some r) : r ∈ clL ws zs ∧ ClashOk ws zs r := by
  have hc := clash_some h
  refine ⟨(clL_iff aw.as az.as _ _ _ _).mpr hc, ?_⟩
  obtain ⟨a1, a2, c1, c2, ab, cd, e, hwt⟩ := hc
  have p32 : 2 ^ m ≤ 32 := Nat.pow_le_pow_right (by decide : 0 < 2) hm
  have := xor_lt (aw.lt _ a1) (aw.lt _ a2)
  exact ⟨a1, a2, c1, c2, ab, cd, e.symm, by omega, hwt⟩
theorem keep_iff {ws zs : List Nat} {m : Nat} (hm : m ≤ 5) (aw : LotOk m ws) (az : LotOk m zs) : KeepL ws zs m ↔ clashIn ws zs m = none := by
  constructor
  · intro k
    cases e : clashIn ws zs m with
    | none => rfl
    | some r =>
      obtain ⟨a1, a2, c1, c2, ab, cd, e, hwt⟩ := clash_some e
      have h := k (r.1, r.2.1) ((pair_iff aw.as _ _).mpr ⟨a1, a2, ab⟩) _ c1
      have ed : (r.1 ^^^ r.2.1) ^^^ r.2.2.1 = r.2.2.2 := by
        rw [← e, Nat.xor_comm, xor_back]
      exact absurd ((quart hm (aw.lt _ a1) (aw.lt _ a2) (az.lt _ c1) (by omega)).mpr hwt) (h (by show (r.1 ^^^ r.2.1) ^^^ r.2.2.1 ∈ zs; rw [ed]; exact c2))
  · rintro h ⟨a, b⟩ hp c hc hd z
    obtain ⟨a1, a2, ab⟩ := (pair_iff aw.as _ _).mp hp
    have hwt := (quart hm (aw.lt _ a1) (aw.lt _ a2) (az.lt _ hc) (by omega)).mp z
    have hd2 : (a ^^^ b) ^^^ c ∈ zs := hd
    have h0 : a ^^^ b ≠ 0 := fun z => by
      have := xor_zero z
      omega
    have hne : c ≠ (a ^^^ b) ^^^ c := fun z => by
      have e : c ^^^ ((a ^^^ b) ^^^ c) = a ^^^ b := by rw [Nat.xor_comm (a ^^^ b) c, xor_back]
      rw [← z, Nat.xor_self] at e
      exact h0 e.symm
    have e1 : c ^^^ ((a ^^^ b) ^^^ c) = a ^^^ b := by rw [Nat.xor_comm (a ^^^ b) c, xor_back]
    rcases Nat.lt_or_gt_of_ne hne with hl | hl
    · exact clash_none aw.lt h a b c _ ⟨a1, a2, hc, hd2, ab, hl, e1, hwt⟩
    · exact clash_none aw.lt h a b _ c ⟨a1, a2, hd2, hc, ab, hl, by rw [Nat.xor_comm]; exact e1, hwt⟩
end Sq
/-! text SqMc -/
namespace Sq
open PySem PySem.Spec PyProof.Rows L2
/-! ### the signed tables of words keep the rules of a formula -/
theorem hot_sum (p q : Nat) (s t : Int) : ∀ n : Nat, ((List.range n).map fun i => (if i = p then s else 0) * (if i = q then t else 0)).sum = if p = q ∧ p < n then s * t else 0
  | 0 => by simp
  | n + 1 => by
    rw [List.range_succ, List.map_append, List.sum_append, hot_sum p q s t n]
    simp only [List.map_cons, List.map_nil, List.sum_cons, List.sum_nil, Int.add_zero]
    by_cases h : p = q
    · subst h
      by_cases h2 : n = p
      · subst h2
        simp
      · by_cases h3 : p < n
        · have h4 : p < n + 1 := by omega
          simp [h2, h3, h4]
        · have h4 : ¬ p < n + 1 := by omega
          simp [h2, h3, h4]
    · by_cases h2 : n = p
      · subst h2
        simp [h]
      · simp [h, h2]
theorem ip_hot (m p q : Nat) (s t : Int) (hp : p < 2 ^ m) : ip (rowOf m p s) (rowOf m q t) = if p = q then s * t else 0 := by
  unfold ip rowOf
  rw [List.zip_map', List.map_map]
  have e := hot_sum p q s t (2 ^ m)
  by_cases h : p = q
  · rw [if_pos ⟨h, hp⟩] at e
    rw [if_pos h]
    exact e
  · rw [if_neg fun z => h z.1] at e
    rw [if_neg h]
    exact e
theorem sgn_sq (n : Nat) : sgn n * sgn n = 1 := by
  unfold sgn
  split <;> decide
theorem sgn_sm (n : Nat) : -1 ≤ sgn n ∧ sgn n ≤ 1 := by
  unfold sgn
  split <;> exact ⟨by decide, by decide⟩
theorem sgn_zero {a b c d : Nat} (h : sgn a * sgn b ≠ sgn c * sgn d) : sgn a * sgn b + sgn c * sgn d = 0 := by
  revert h
  unfold sgn
  split <;> split <;> split <;> split <;> decide
theorem row_sm {m p : Nat} (hm : m ≤ 5) (n : Nat) : Sm (rowOf m p (sgn n)) := by
  have p32 : 2 ^ m ≤ 32 := Nat.pow_le_pow_right (by decide : 0 < 2) hm
  refine ⟨by rw [rowOf_len]; omega, fun x hx => ?_⟩
  unfold rowOf at hx
  obtain ⟨i, _, rfl⟩ := List.mem_map.mp hx
  have := sgn_sm n
  split <;> omega
theorem xor_inj {a b c : Nat} (h : a ^^^ b = a ^^^ c) : b = c := by
  rw [← xor_back a b, h, xor_back]
theorem tab_at {m x i : Nat} {zs : List Nat} {r : List Int} (h : (tabOf m x zs)[i]? = some r) : ∃ y, zs[i]? = some y ∧ r = rowOf m (x ^^^ y) (sgn (oddP x y m)) := by
  unfold tabOf at h
  rw [List.getElem?_map] at h
  cases e : zs[i]? with
  | none =>
    rw [e] at h
    cases h
  | some y =>
    rw [e] at h
    cases h
    exact ⟨y, rfl, rfl⟩
theorem at_ne {ws : List Nat} (as : ws.Pairwise (· < ·)) {i j x y : Nat} (hij : i < j) (hx : ws[i]? = some x) (hy : ws[j]? = some y) : x < y := by
  obtain ⟨h1, rfl⟩ := List.getElem?_eq_some_iff.mp hx
  obtain ⟨h2, rfl⟩ := List.getElem?_eq_some_iff.mp hy
  exact List.pairwise_iff_getElem.mp as i j h1 h2 hij
theorem keep_one {m x : Nat} {zs : List Nat} (hm : m ≤ 5) (hx : x < 2 ^ m) (az : LotOk m zs) : Keep1 (tabOf m x zs) := by
  refine ⟨fun r hr => ?_, fun i j r s hij hr hs => ?_⟩
  · unfold tabOf at hr
    obtain ⟨y, hy, rfl⟩ := List.mem_map.mp hr
    refine ⟨row_sm hm _, ?_⟩
    rw [ip_hot _ _ _ _ _ (xor_lt hx (az.lt y hy)), if_pos rfl, sgn_sq]
  · obtain ⟨y, hy, rfl⟩ := tab_at hr
    obtain ⟨z, hz, rfl⟩ := tab_at hs
    have := at_ne az.as hij hz hy
    rw [ip_hot _ _ _ _ _ (xor_lt hx (az.lt y (List.mem_of_getElem? hy))), if_neg fun e => ?_]
    have := xor_inj e
    omega
theorem keep_tabs {m : Nat} {ws zs : List Nat} (hm : m ≤ 5) (aw : LotOk m ws) (az : LotOk m zs) (hc : clashIn ws zs m = none) : KeepAll (tabs m ws zs) := by
  have kp := (keep_iff hm aw az).mpr hc
  have rs : ∀ x, ∀ r ∈ tabOf m x zs, Sm r := fun x r hr => by
    unfold tabOf at hr
    obtain ⟨y, hy, rfl⟩ := List.mem_map.mp hr
    exact row_sm hm _
  refine ⟨fun t ht => ?_, fun i j s t hij hs ht => ?_⟩
  · unfold tabs at ht
    obtain ⟨x, hx, rfl⟩ := List.mem_map.mp ht
    exact keep_one hm (aw.lt x hx) az
  · have tabs_at : ∀ {i : Nat} {s}, (tabs m ws zs)[i]? = some s → ∃ x, ws[i]? = some x ∧ s = tabOf m x zs := fun {i s} h => by
      unfold tabs at h
      rw [List.getElem?_map] at h
      cases e : ws[i]? with
      | none =>
        rw [e] at h
        cases h
      | some y =>
        rw [e] at h
        cases h
        exact ⟨y, rfl, rfl⟩
    obtain ⟨a, ha, rfl⟩ := tabs_at hs
    obtain ⟨b, hb, rfl⟩ := tabs_at ht
    have hab := at_ne aw.as hij ha hb
    have ma := List.mem_of_getElem? ha
    have mb := List.mem_of_getElem? hb
    refine ⟨rs a, rs b, fun k l x x' y y' hlk hx hx' hy hy' => ?_⟩
    obtain ⟨c, hc1, rfl⟩ := tab_at hx
    obtain ⟨c', hc1', rfl⟩ := tab_at hx'
    obtain ⟨d, hd1, rfl⟩ := tab_at hy
    obtain ⟨d', hd1', rfl⟩ := tab_at hy'
    rw [hc1] at hc1'
    cases hc1'
    rw [hd1] at hd1'
    cases hd1'
    have mc := List.mem_of_getElem? hc1
    have md := List.mem_of_getElem? hd1
    have la := aw.lt a ma
    have lb := aw.lt b mb
    have lc := az.lt c mc
    have ld := az.lt d md
    rw [ip_hot _ _ _ _ _ (xor_lt la lc), ip_hot _ _ _ _ _ (xor_lt lb lc)]
    have ed : ∀ u v : Nat, u ^^^ c = v ^^^ d → d = (u ^^^ v) ^^^ c := fun u v e => by
      have e2 : v ^^^ (u ^^^ c) = d := by rw [e, xor_back]
      rw [← e2, ← Nat.xor_assoc, Nat.xor_comm v u]
    have ed2 : ∀ u v : Nat, d = (u ^^^ v) ^^^ c → u ^^^ c = v ^^^ d := fun u v e => by
      rw [e, Nat.xor_comm u v, Nat.xor_assoc, xor_back]
    by_cases he : d = (a ^^^ b) ^^^ c
    · rw [if_pos (ed2 a b he), if_pos (ed2 b a (by rw [Nat.xor_comm b a]; exact he))]
      have h := kp (a, b) ((pair_iff aw.as _ _).mpr ⟨ma, mb, hab⟩) c mc (by show (a ^^^ b) ^^^ c ∈ zs; rw [← he]; exact md)
      have h2 : sgn (oddL a c m) * sgn (oddL b d m) ≠ sgn (oddL b c m) * sgn (oddL a d m) := by
        rw [he]
        exact h
      rw [sgn_LP hm la lc, sgn_LP hm lb ld, sgn_LP hm lb lc, sgn_LP hm la ld] at h2
      exact sgn_zero h2
    · rw [if_neg fun e => he (ed a b e), if_neg fun e => he (by rw [Nat.xor_comm a b]; exact ed b a e)]
      rfl
end Sq
/-! text SqBk -/
namespace Sq
open PySem PySem.Spec PyProof.Rows L2
def dQ (r : Nat × Nat × Nat × Nat) : PyData := .tuple ((quad r).map dN)
theorem dp_quad {K : Fr} {H : Hp} (v : V) (r : Nat × Nat × Nat × Nat) (h : QuadV H v r) : Dp K H v (dQ r) := by
  obtain ⟨p, rfl, hp⟩ := h
  exact .tup (.of hp) (dpAll_N (quad r))
theorem lay_quad (r : Nat × Nat × Nat × Nat) : Lay 1 (dQ r) := lay_tup fun d hd => by
  obtain ⟨n, _, rfl⟩ := List.mem_map.mp hd
  exact lay_int _
theorem eqv_quad (r s : Nat × Nat × Nat × Nat) : PyData.eqv (dQ r) (dQ s) = decide (quad r = quad s) := by
  unfold dQ
  simp only [PyData.eqv]
  exact eqvAll_map eqv_N (quad r) (quad s)
theorem eqv_nil {α : Type} (f : α → PyData) : ∀ xs : List α, PyData.eqv (.list (xs.map f)) (.list []) = xs.isEmpty
  | [] => by simp [PyData.eqv, PyData.eqvAll]
  | x :: xs => by simp [PyData.eqv, PyData.eqvAll]
theorem eqv_bl (a b : Bool) : PyData.eqv (.bool a) (.bool b) = (a == b) := by
  cases a <;> cases b <;> simp [PyData.eqv] <;> rfl
theorem lay_bool (b : Bool) : Lay 0 (.bool b) := ⟨by simp [PyData.canLay0], by simp [PyData.depth]⟩
theorem lay_cla : Lay 0 (.str "clash") := ⟨by decide +kernel, by simp [PyData.depth]⟩
theorem lay_nil : Lay 1 (.list []) := lay_lst (k := 0) fun d hd => nomatch hd
theorem hu65 {k : Nat} {A : Around} (r : Room k A) : A.units + 65 < cLine := by
  have := r.un
  omega
section
variable {P : Program} {w : World} {K : Fr} {mg : Str → Option Value} {base : Heap} {A : Ad} {T : Addr}
def spRight (T : Addr) : Sp := fun vs H Q _ => ∃ j : Addr, vs = [.ref j] ∧ JugV H j ∧ H T = some (TabE T) ∧ ∀ H', SameX j H H' → JugV H' j → Q (.bl true) H'
theorem df_L_right (N : Nms mg) (R : Df P w K mg base CX0 1 "_law_pour" spPour) (Lo : Df P w K mg base CX0 2 "_law_lot" spLotL) (Cs : Df P w K mg base CX0 2 "_law_clashes" spClsL) (Ch : Df P w K mg base CX0 6 "clash" (spClash T)) (Al : Df P w K mg base CX0 6 "are_let" (spLet T))
    (Dk : Df P w K mg base CX0 5 "_law_do_keep" spKeepL) (Ic : Df P w K mg base CX0 6 "is_clash" spIc) (Im : Df P w K mg base CX0 11 "_law_is_made" (spIsMade T)) (Md : Df P w K mg base CX0 10 "_law_made" (spMade A T)) (D : At K mg "_law_right" s_L_right ["_law_jug_here"]) : Df P w K mg base CX0 12 "_law_right" (spRight T) := by
  refine D.df fun f fd F => F.ok n_L_right (fun vs H Q E h => ?_) (fun cdv A' outer s0 H vs Q E hr h => ?_)
  · obtain ⟨j, rfl, _⟩ := h
    rfl
  · obtain ⟨j, rfl, jv, hT, q⟩ := h
    refine ⟨_, pss_cons (ps_set (i := 1) n_L_right.nd rfl (.inl rfl) (pe_op op_add pe_int (pe_df R hr (by decide) pass0 (pa_cons (pv 0) (pa_cons pe_int pa_nil)))))
      <| pss_cons (ps_par (i := 2) (j := 3) rfl n_L_right.nd rfl rfl (by decide) rfl rfl (pa_cons (pe_df Lo hr (by decide) pass0 (pa_cons (pv 0) (pa_cons (pv 1) (pa_cons pe_int pa_nil)))) (pa_cons (pe_df Lo hr (by decide) pass0 (pa_cons (pv 0) (pa_cons (pv 1) (pa_cons pe_int pa_nil)))) pa_nil)) (by rfl))
      <| pss_cons (ps_par (i := 4) (j := 5) rfl n_L_right.nd rfl rfl (by decide) rfl rfl (pa_cons (pe_df Cs hr (by decide) pass0 (pa_cons (pv 2) (pa_cons (pv 3) pa_nil))) (pa_cons (pe_df Ch hr (by decide) pass0 (pa_cons (pv 2) (pa_cons (pv 3) (pa_cons (pv 1) pa_nil)))) pa_nil)) (by rfl))
      <| pss_cons (ps_if (PW.pt (pw_or (pt_cmpR (op_neD hr.units) (pe_df Al hr (by decide) pass0 (pa_cons (pv 2) (pa_cons (pv 3) (pa_cons (pv 1) pa_nil)))) (pe_cmpR (op_eqD hr.units) (pv 4) (pe_lst pa_nil) (nomark _)) (nomark _))
          (pw_or1 (pt_cmpR (op_neD hr.units) (pe_df Dk hr (by decide) pass0 (pa_cons (pv 2) (pa_cons (pv 3) (pa_cons (pv 1) pa_nil)))) (pe_cmpR (op_eqD hr.units) (pv 4) (pe_lst pa_nil) (nomark _)) (nomark _))))) pss_never pss_nil)
      <| pss_cons (ps_if (pt_cmpR (op_eqD hr.units) (pv 4) (pe_lst pa_nil) (nomark _)) (pss_one <| ps_ret <| pe_and (pe_cmp (pc_isN (pv 5))) <| pe_and (pe_not (pe_df Ic hr (by decide) pass0 (pa_cons (pv 2) (pa_cons (pv 3) (pa_cons (pv 1) (pa_cons pe_non pa_nil)))))) <| pe_one <| pe_df Im hr (by decide) pass0 (pa_cons (pv 2) (pa_cons (pv 3) (pa_cons (pv 1) pa_nil)))) pss_nil)
      <| pss_cons (ps_if (PW.pt (pw_or (pt_cmpR (op_notInD (hu65 hr)) (pv 5) (pv 4) rfl) (pw_or1 (pt_not (pt_val (pe_df Ic hr (by decide) pass0 (pa_cons (pv 2) (pa_cons (pv 3) (pa_cons (pv 1) (pa_cons (pv 5) pa_nil)))))))))) pss_never pss_nil)
      <| pss_one <| ps_ret <| pe_cmpR (op_eqD hr.units) (pe_df Md hr (by decide) pass0 (pa_cons (pv 2) (pa_cons (pv 3) (pa_cons (pv 1) pa_nil)))) (pe_tup (pa_cons pe_str pa_nil)) (nomark _), ?_⟩
    have nT : T ≠ j := fun z => by
      obtain ⟨_, _, _, e⟩ := jv
      rw [z, e] at hT
      cases hT
    have tupj : ∀ {H' : Hp} {p : Addr} {xs}, JugV H' j → H' p = some (.tup xs) → p ≠ j := fun {H'} {p} {xs} v e z => by
      obtain ⟨_, _, _, e2⟩ := v
      rw [z, e2] at e
      cases e
    refine ⟨_, rfl, j, 5, rfl, jv, by decide, by decide, fun m0 H1 hm0 x1 v1 => ⟨_, _, rfl, rfl, ?_⟩⟩
    obtain ⟨m, em⟩ : ∃ m : Nat, m = 1 + m0 := ⟨_, rfl⟩
    have ec : (1 : Int) + (m0 : Int) = (m : Int) := by omega
    dsimp only [gName]
    rw [ec]
    refine ⟨_, rfl, _, rfl, j, m, 7, rfl, v1, by omega, by omega, by decide, by decide, fun ws p H2 x2 v2 hp o1 w16 => ?_⟩
    refine ⟨_, rfl, _, rfl, j, m, 9, rfl, v2, by omega, by omega, by decide, by decide, fun zs r H3 x3 v3 hr3 o2 z16 => ⟨_, _, rfl, ?_⟩⟩
    have x13 := (x1.trans x2).trans x3
    have hp3 := x3 _ _ (tupj v2 hp) hp
    have hT3 := x13 _ _ nT hT
    have m5 : m ≤ 5 := by omega
    have p32 : 2 ^ m ≤ 32 := Nat.pow_le_pow_right (by decide : 0 < 2) m5
    have lw : LotV H3 (.ref p) ws := ⟨p, rfl, hp3⟩
    have lz : LotV H3 (.ref r) zs := ⟨r, rfl, hr3⟩
    have a3 : ∀ {H' : Hp}, Same H3 H' → Args3 [.ref p, .ref r, .int (m : Int)] H' m ws zs := fun {H'} s => ⟨_, _, rfl, LotV.mo _ _ _ _ s lw, LotV.mo _ _ _ _ s lz, o1, o2, by omega, by omega⟩
    refine ⟨_, rfl, _, rfl, _, _, ws, zs, rfl, lw, lz, o1.ne, w16, o2.ne, z16, fun x hx => by have := o1.lt x hx; omega, fun x hx => by have := o2.lt x hx; omega, fun du H4 out s4 _ hdu pr => ?_⟩
    have qf : ∀ H', Same H3 H' → Q (.bl true) H' := fun H' s => q H' (x13.trans (SameX.of s)) (v3.mo s)
    have dd : ∀ {H' : Hp}, Same H4 H' → Dp K H' (.ref du) (.list ((clL ws zs).map dQ)) := fun {H'} s => .lst (.of (s _ _ hdu)) (dp_map dp_quad (paired_mo QuadV.mo s pr))
    have ld : SeqAt.shaped (.list ((clL ws zs).map dQ)) = true := lay_shaped (lay_map lay_quad _) (by decide)
    have lnil : SeqAt.shaped (.list []) = true := lay_shaped lay_nil (by decide)
    have lb : ∀ b : Bool, SeqAt.shaped (.bool b) = true := fun b => lay_shaped (lay_bool b) (by decide)
    have hT4 := s4 _ _ hT3
    have hb : (clL ws zs).isEmpty = (clashIn ws zs m).isNone := by
      have h := clL_nil o1 o2
      cases e : clashIn ws zs m with
      | none =>
        rw [h.mpr e]
        rfl
      | some x =>
        cases e2 : clL ws zs with
        | nil =>
          rw [h.mp e2] at e
          cases e
        | cons y l => rfl
    have eN : PyData.eqv (.list ((clL ws zs).map dQ)) (.list []) = (clashIn ws zs m).isNone := (eqv_nil dQ _).trans hb
    have z1 : ∀ b, b = (clashIn ws zs m).isNone → V.bl (!PyData.eqv (.bool b) (.bool (PyData.eqv (.list ((clL ws zs).map dQ)) (.list [])))) = V.bl false := fun b h => by
      rw [eN, h, eqv_bl]
      simp
    have dn : ∀ {H' : Hp} {E0 : Addr}, H' E0 = some (.lst []) → Dp K H' (.ref E0) (.list []) := fun {H'} {E0} h => .lst (.of h) .nil
    have keepB : ∀ b : Bool, (b = true ↔ KeepL ws zs m) → b = (clashIn ws zs m).isNone := fun b h => by
      have h2 := h.trans (keep_iff m5 o1 o2)
      cases e : clashIn ws zs m with
      | none => exact h2.mpr e
      | some x =>
        cases b with
        | false => rfl
        | true =>
          rw [h2.mp rfl] at e
          cases e
    refine ⟨_, rfl, _, rfl, _, rfl, m, ws, zs, a3 s4, hT4, fun hc H5 s5 => ⟨_, _, rfl, ?_⟩, fun r2 hc tp H5 s5 htp => ⟨_, _, rfl, ?_⟩⟩
    · refine ⟨_, rfl, _, rfl, _, rfl, m, ws, zs, a3 (s4.trans s5), s5 _ _ hT4, fun H6 s6 => ⟨_, rfl, Nat.zero_le _, fun E1 hE1 => ?_⟩⟩
      have s7 := s6.trans (same_new (o := .lst []) hE1)
      refine ⟨_, _, dd (s5.trans s7), dn upd_same, ld, lnil, _, _, .bl _, .bl _, lb _, lb _, false, z1 _ rfl, iteF ?_⟩
      refine ⟨_, rfl, _, rfl, _, rfl, _, _, m, ws, zs, rfl, LotV.mo _ _ _ _ (s4.trans (s5.trans s7)) lw, LotV.mo _ _ _ _ (s4.trans (s5.trans s7)) lz, o1.ne, by omega, fun kb H8 s8 hk => ⟨_, rfl, Nat.zero_le _, fun E2 hE2 => ?_⟩⟩
      have s9 := s8.trans (same_new (o := .lst []) hE2)
      refine ⟨_, _, dd (s5.trans (s7.trans s9)), dn upd_same, ld, lnil, _, _, .bl _, .bl _, lb _, lb _, false, z1 _ (keepB _ hk), iteF ?_⟩
      refine ⟨_, rfl, Nat.zero_le _, fun E3 hE3 => ?_⟩
      have s11 := s7.trans (s9.trans (same_new (o := .lst []) hE3))
      refine ⟨_, _, dd (s5.trans s11), dn upd_same, ld, lnil, true, congrArg V.bl (eN.trans (by rw [hc]; rfl)), iteT ?_⟩
      refine ⟨_, rfl, true, congrArg V.bl (decide_eq_true rfl), iteT ?_⟩
      refine ⟨_, rfl, _, rfl, _, rfl, _, _, .non, m, ws, zs, rfl, a3 (s4.trans (s5.trans s11)), .inl ⟨rfl, fun H12 s12 => ⟨false, rfl, true, rfl, iteT ?_⟩⟩⟩
      have s13 := s5.trans (s11.trans s12)
      exact ⟨_, rfl, _, rfl, _, rfl, m, ws, zs, a3 (s4.trans s13), m5, s13 _ _ hT4, by omega, by omega, hc, keep_tabs m5 o1 o2 hc, tabs_L m5 o1.lt o2.lt, fun H14 s14 => qf H14 (s4.trans (s13.trans s14))⟩
    · refine ⟨_, rfl, _, rfl, _, rfl, m, ws, zs, a3 (s4.trans s5), s5 _ _ hT4, fun H6 s6 => ⟨_, rfl, Nat.zero_le _, fun E1 hE1 => ?_⟩⟩
      have s7 := s6.trans (same_new (o := .lst []) hE1)
      refine ⟨_, _, dd (s5.trans s7), dn upd_same, ld, lnil, _, _, .bl _, .bl _, lb _, lb _, false, z1 _ rfl, iteF ?_⟩
      refine ⟨_, rfl, _, rfl, _, rfl, _, _, m, ws, zs, rfl, LotV.mo _ _ _ _ (s4.trans (s5.trans s7)) lw, LotV.mo _ _ _ _ (s4.trans (s5.trans s7)) lz, o1.ne, by omega, fun kb H8 s8 hk => ⟨_, rfl, Nat.zero_le _, fun E2 hE2 => ?_⟩⟩
      have s9 := s8.trans (same_new (o := .lst []) hE2)
      refine ⟨_, _, dd (s5.trans (s7.trans s9)), dn upd_same, ld, lnil, _, _, .bl _, .bl _, lb _, lb _, false, z1 _ (keepB _ hk), iteF ?_⟩
      refine ⟨_, rfl, Nat.zero_le _, fun E3 hE3 => ?_⟩
      have s11 := s7.trans (s9.trans (same_new (o := .lst []) hE3))
      refine ⟨_, _, dd (s5.trans s11), dn upd_same, ld, lnil, false, congrArg V.bl (eN.trans (by rw [hc]; rfl)), iteF ?_⟩
      obtain ⟨inn, ok⟩ := clash_ok m5 o1 o2 hc
      have htp5 := (np_at htp).2
      have hq11 : QuadV _ (.ref tp) r2 := ⟨tp, rfl, s11 _ _ htp5⟩
      refine ⟨_, rfl, _, rfl, dQ r2, (clL ws zs).map dQ, dp_quad _ _ hq11, dd (s5.trans s11), lay_shaped (lay_quad _) (by decide), ld, false, ?_, iteF ?_⟩
      · have e : ((clL ws zs).map dQ).any (fun z => PyData.eqv z (dQ r2)) = true := List.any_eq_true.mpr ⟨dQ r2, List.mem_map.mpr ⟨r2, inn, rfl⟩, (eqv_quad _ _).trans (decide_eq_true rfl)⟩
        rw [e]
        rfl
      refine ⟨_, rfl, _, rfl, _, rfl, _, rfl, _, _, _, m, ws, zs, rfl, a3 (s4.trans (s5.trans s11)), .inr ⟨tp, r2, rfl, s11 _ _ htp5, ok, fun H12 s12 => ⟨true, rfl, iteF ?_⟩⟩⟩
      have s13 := s5.trans (s11.trans s12)
      refine ⟨_, rfl, _, rfl, _, rfl, m, ws, zs, a3 (s4.trans s13), m5, s13 _ _ hT4, (fun z => by rw [z] at hc; cases hc), fun _ q2 H14 s14 hq2 => ⟨by show 1 ≤ sizeLine; decide, fun Y hY => ?_⟩⟩
      have s15 : Same H14 (upd H14 Y (.tup [.str "clash"])) := same_new hY
      have lc : SeqAt.shaped (.tuple [.str "clash"]) = true := lay_shaped (lay_tup (k := 0) fun d hd => by
        rw [List.mem_singleton.mp hd]
        exact lay_cla) (by decide)
      refine ⟨.tuple [.str "clash"], .tuple [.str "clash"], .tup (.of (s15 _ _ hq2)) (.cons (.str _) .nil), .tup (.of upd_same) (.cons (.str _) .nil), lc, lc, qbl (Q := Q) ?_ (qf _ (s4.trans (s13.trans (s14.trans s15))))⟩
      simp [PyData.eqv, PyData.eqvAll]
end
end Sq
/-! text SqBl -/
namespace Sq
open PySem PySem.Spec PyProof.Rows L2
theorem gives_hiT {K : Fr} {ta tk : TE} {σ : L2.St} {H : Hp} {a : Addr} {xs : List V} {k : Nat} (h1 : ∀ R : VK, R (.ref a) H → ta σ H R) (h2 : ∀ R : VK, R (.int (k : Int)) H → tk σ H R) (hx : SqT K H a xs) (hl : k < xs.length) :
    Gives (tSl (rSlT K) ta tNoPart (tPart tk)) σ H fun b H1 => H b = none ∧ H1 = upd H b (.tup (xs.take k)) := fun R r => by
  refine h1 _ (h2 _ ⟨(k : Int), rfl, a, xs, rfl, hx, fun z => ?_, fun p hp => ?_⟩)
  · have z1 := z.2
    rw [HT.sIx_nat] at z1
    omega
  · rw [cut_hi]
    exact r p _ ⟨hp, rfl⟩
theorem sameX_same {H H1 H2 : Hp} {D : Addr} (s : Same H H1) (x : SameX D H1 H2) (h : H D = none) : Same H H2 := fun b o e => x b o (ne_of_none e h) (s b o e)
theorem lot_ok {m : Nat} {ws : List Nat} (h : (decide (0 < ws.length) && (decide (ws.length ≤ 100) && (ws.all (fun x => decide (x < 2 ^ m)) && decide (ws.Pairwise (· < ·))))) = true) : LotOk m ws := by
  obtain ⟨h1, h⟩ := Bool.and_eq_true_iff.mp h
  obtain ⟨h2, h⟩ := Bool.and_eq_true_iff.mp h
  obtain ⟨h3, h4⟩ := Bool.and_eq_true_iff.mp h
  exact ⟨of_decide_eq_true h1, of_decide_eq_true h2, fun x hx => of_decide_eq_true (List.all_eq_true.mp h3 x hx), of_decide_eq_true h4⟩
theorem ok8 : LotOk 4 (List.range 8) := lot_ok (by decide +kernel)
theorem ok16 : LotOk 4 (List.range 16) := lot_ok (by decide +kernel)
theorem ok015 : LotOk 4 [0, 15] := lot_ok (by decide +kernel)
theorem ok01 : LotOk 1 [0, 1] := lot_ok (by decide +kernel)
theorem c8 : clashIn (List.range 8) (List.range 16) 4 = none := by decide +kernel
theorem c015 : clashIn [0, 15] [0, 15] 4 = some (0, 15, 0, 15) := by decide +kernel
theorem c16 : clashIn (List.range 16) (List.range 16) 4 ≠ none := by decide +kernel
theorem c01 : clashIn [0, 1] [0, 1] 1 = none := by decide +kernel
section
variable {P : Program} {w : World} {K : Fr} {mg : Str → Option Value} {base : Heap} {A : Ad} {T : Addr}
def spLaw (K : Fr) (T : Addr) : Sp := fun vs H Q _ => ∃ (l : Addr) (ns : List Int), vs = [.ref l] ∧ SqL K H l (ns.map V.int) ∧ H T = some (TabE T) ∧ ∀ H', Same H H' → Q (.bl true) H'
theorem ok_law (N : Nms mg) (TF : TForm K mg A) (Jg : Df P w K mg base CX0 1 "_law_jug" (spJug K)) (Rt : Df P w K mg base CX0 12 "_law_right" (spRight T)) (Al : Df P w K mg base CX0 6 "are_let" (spLet T)) (Ch : Df P w K mg base CX0 6 "clash" (spClash T)) (Md : Df P w K mg base CX0 10 "_law_made" (spMade A T))
    (Wf : Df P w K mg base (L2.CX P w) 9 "words_formula" (spWf A T)) (Sz : Rp P w K mg base 1 A.formula "sizes" (spSizes A)) {f : Addr} {fd : FuncData} (F : Fun K "law" "law" s_law f fd) : FnOk P w K mg base CX0 13 f fd ["_law_script"] (spLaw K T) := by
  refine F.ok n_law (fun vs H Q E h => ?_) (fun cdv A' outer s0 H vs Q E hr h => ?_)
  · obtain ⟨l, ns, rfl, _⟩ := h
    rfl
  · obtain ⟨l, ns, rfl, hl, hT, q⟩ := h
    refine ⟨_, pss_cons (ps_for PassesOwn.never rfl (pi_range1 (by rfl) N.rng (pa_cons (kb_max rfl N (pa_cons pe_int (pa_cons (kb_min rfl N (pa_cons pe_int (pa_cons (kb_len K N (pa_cons (pv 0) pa_nil)) pa_nil))) pa_nil))) pa_nil)) (pg_name (i := 1) n_law.nd rfl (.inl rfl))
        <| pss_cons (ps_set (i := 2) n_law.nd rfl (.inl rfl) (pe_df Jg hr (by decide) pass0 (pa_cons (pv 0) (pa_cons (pv 1) pa_nil))))
        <| pss_one <| ps_if (PW.pt (pw_or (pt_not (pt_val (pe_df Rt hr (by decide) pass0 (pa_cons (pv 2) pa_nil)))) (pw_or1 (pt_not (pt_val (pe_df Rt hr (by decide) pass0 (pa_cons (pv 2) pa_nil))))))) pss_never pss_nil)
      <| pss_cons (ps_set (i := 3) n_law.nd rfl (.inl rfl) (pe_tupRg rfl (by rfl) N.tup (prg_1 (by rfl) N.rng pe_int)))
      <| pss_cons (ps_set (i := 4) n_law.nd rfl (.inl rfl) (pe_lst <| pa_cons (pe_df Al hr (by decide) pass0 (pa_cons (pe_slice sl_tup (pv 3) po_none (po_some pe_int)) (pa_cons (pv 3) (pa_cons pe_int pa_nil))))
          <| pa_cons (pe_df Ch hr (by decide) pass0 (pa_cons (pe_tup (pa_cons pe_int (pa_cons pe_int pa_nil))) (pa_cons (pe_tup (pa_cons pe_int (pa_cons pe_int pa_nil))) (pa_cons pe_int pa_nil))))
          <| pa_cons (pe_df Md hr (by decide) pass0 (pa_cons (pv 3) (pa_cons (pv 3) (pa_cons pe_int pa_nil))))
          <| pa_cons (pe_rp Sz TF.k.sc hr (by decide) (pe_df Md hr (by decide) pass0 (pa_cons (pe_tup (pa_cons pe_int (pa_cons pe_int pa_nil))) (pa_cons (pe_tup (pa_cons pe_int (pa_cons pe_int pa_nil))) (pa_cons pe_int pa_nil))))) pa_nil))
      <| pss_one <| ps_ret <| pe_and (pe_cmpR (op_eqD hr.units) (pv 4) (pe_lst <| pa_cons pe_bl <| pa_cons (pe_tup (pa_cons pe_int (pa_cons pe_int (pa_cons pe_int (pa_cons pe_int pa_nil))))) <| pa_cons (pe_tup (pa_cons pe_str pa_nil)) <| pa_cons (pe_tup (pa_cons pe_int (pa_cons pe_int (pa_cons pe_int pa_nil)))) pa_nil) (nomark _))
        <| pe_one <| pe_cmpR (op_eqD hr.units) (pe_rp Sz TF.k.sc hr (by decide) (pe_dfS Wf hr (by decide) (E := WE fun _ _ _ _ => False) (fun σ => passAt takes0 σ) (pa_cons (pe_slice sl_tup (pv 3) po_none (po_some pe_int)) (pa_cons (pv 3) (pa_cons pe_int pa_nil))))) (pe_tup (pa_cons pe_int (pa_cons pe_int (pa_cons pe_int pa_nil)))) (nomark _), ?_⟩
    have ll : LenV K (.ref l) H (ns.map V.int).length := .inl ⟨_, hl, rfl⟩
    rw [List.length_map] at ll
    obtain ⟨n, hn⟩ : ∃ n : Nat, n = max 1 (min 2 ns.length) := ⟨_, rfl⟩
    have en : (if (if (ns.length : Int) < 2 then (ns.length : Int) else 2) > 1 then (if (ns.length : Int) < 2 then (ns.length : Int) else 2) else 1) = (n : Int) := by
      split <;> split <;> omega
    dsimp only
    refine tfor_r1 (n := n) (fun S r => ⟨_, rfl, _, _, rfl, ll, _, _, rfl, _, _, rfl, by rw [en]; exact r⟩) (by omega) (fun i σ' H' => Same H H' ∧ ∃ z1 z2, σ' = [some (.ref l), z1, z2, none, none]) ⟨Same.refl _, none, none, rfl⟩ ?_ ?_
    · rintro i _ H1 hi ⟨s1, z1, z2, rfl⟩
      dsimp only [tSeq, tAsg, gName]
      refine ⟨_, rfl, _, rfl, l, ns, i, rfl, s1.seq hl, by omega, fun Jd H2 s2 hJd jv => ?_⟩
      have hD : H Jd = none := s1.free hJd
      have nT : T ≠ Jd := ne_of_none hT hD
      have s12 := s1.trans s2
      refine ⟨_, rfl, Jd, rfl, jv, s12 _ _ hT, fun H3 x3 v3 => ⟨true, rfl, iteF ?_⟩⟩
      refine ⟨_, rfl, Jd, rfl, v3, x3 _ _ nT (s12 _ _ hT), fun H4 x4 v4 => ⟨true, rfl, iteF ?_⟩⟩
      exact ⟨sameX_same s12 (x3.trans x4) hD, some (.int (i : Int)), some (.ref Jd), rfl⟩
    · rintro _ H1 ⟨s1, z1, z2, rfl⟩
      have hT1 := s1 _ _ hT
      have e16 : rgV 0 16 = vN (List.range 16) := rgV_vN 16
      have e8 : (vN (List.range 16)).take 8 = vN (List.range 8) := by rfl
      refine ⟨16, rfl, RgOk.of_le (by decide) (by decide) (by decide) (by decide), fun Ev hEv => ?_⟩
      rw [e16]
      have sE : Same H1 (upd H1 Ev (.tup (vN (List.range 16)))) := same_new hEv
      dsimp only [gName]
      refine gives_hiT (k := 8) (fun R r => ⟨_, rfl, r⟩) (fun R r => r) (.of upd_same) (by decide) _ fun p H2 z => ?_
      obtain ⟨hp, rfl⟩ := z
      rw [e8]
      obtain ⟨H2, e2⟩ : ∃ H2, H2 = upd (upd H1 Ev (.tup (vN (List.range 16)))) p (.tup (vN (List.range 8))) := ⟨_, rfl⟩
      have sp : Same (upd H1 Ev (.tup (vN (List.range 16)))) H2 := e2 ▸ same_new hp
      have hp2 : H2 p = some (.tup (vN (List.range 8))) := by rw [e2]; exact upd_same
      have hE2 : H2 Ev = some (.tup (vN (List.range 16))) := sp _ _ upd_same
      rw [← e2]
      have s12 := sE.trans sp
      have hT2 := s12 _ _ hT1
      refine ⟨_, rfl, 4, List.range 8, List.range 16, ⟨_, _, rfl, ⟨p, rfl, hp2⟩, ⟨Ev, rfl, hE2⟩, ok8, ok16, by decide, by decide⟩, hT2, fun H3 s3 => ?_⟩
      rw [c8]
      refine ⟨by show 2 ≤ sizeLine; decide, fun P1 h1 => ⟨by show 2 ≤ sizeLine; decide, fun P2 h2 => ?_⟩⟩
      have sP1 : Same H3 (upd H3 P1 (.tup [.int 0, .int 15])) := same_new h1
      have sP2 : Same (upd H3 P1 (.tup [.int 0, .int 15])) (upd (upd H3 P1 (.tup [.int 0, .int 15])) P2 (.tup [.int 0, .int 15])) := same_new h2
      have s4 := s3.trans (sP1.trans sP2)
      refine ⟨4, [0, 15], [0, 15], ⟨_, _, rfl, ⟨P1, rfl, sP2 _ _ upd_same⟩, ⟨P2, rfl, upd_same⟩, ok015, ok015, by decide, by decide⟩, s4 _ _ hT2, (fun z => by rw [c015] at z; cases z), fun r hr4 pq H5 s5 hpq => ?_⟩
      rw [c015] at hr4
      cases hr4
      have hpq5 := (np_at hpq).2
      have s25 := s4.trans s5
      refine ⟨_, rfl, _, rfl, 4, List.range 16, List.range 16, ⟨_, _, rfl, ⟨Ev, rfl, s25 _ _ hE2⟩, ⟨Ev, rfl, s25 _ _ hE2⟩, ok16, ok16, by decide, by decide⟩, by decide, s25 _ _ hT2, (fun z => absurd z c16), fun _ cq H6 s6 hcq => ?_⟩
      refine ⟨by show 2 ≤ sizeLine; decide, fun P3 h3 => ⟨by show 2 ≤ sizeLine; decide, fun P4 h4 => ?_⟩⟩
      have sP3 : Same H6 (upd H6 P3 (.tup [.int 0, .int 1])) := same_new h3
      have sP4 : Same (upd H6 P3 (.tup [.int 0, .int 1])) (upd (upd H6 P3 (.tup [.int 0, .int 1])) P4 (.tup [.int 0, .int 1])) := same_new h4
      have s67 := sP3.trans sP4
      have s27 := s25.trans (s6.trans s67)
      refine ⟨1, [0, 1], [0, 1], ⟨_, _, rfl, ⟨P3, rfl, sP4 _ _ upd_same⟩, ⟨P4, rfl, upd_same⟩, ok01, ok01, by decide, by decide⟩, by decide, s27 _ _ hT2, fun _ fo H8 s8 fv => ?_, fun z => absurd c01 z⟩
      obtain ⟨p8, L8, tv8, ep, ob, ht, hpl⟩ := id fv
      cases ep
      obtain ⟨dx, hs⟩ := ob.slt
      refine ⟨fo, dx, _, rfl, hs, _, 2, 2, 2, tabs 1 [0, 1] [0, 1], rfl, fv, cube_tabs 1 [0, 1] [0, 1], by decide, by decide, fun Z hZ => ?_⟩
      have sZ : Same H8 (upd H8 Z (.tup [.int ((2 : Nat) : Int), .int ((2 : Nat) : Int), .int ((2 : Nat) : Int)])) := same_new hZ
      refine ⟨by show 4 ≤ sizeLine; decide, fun Lt hLt => ?_⟩
      have sL := same_new (o := .lst [.bl true, .ref pq, .ref cq, .ref Z]) hLt
      have s2L := s27.trans (s8.trans (sZ.trans sL))
      refine ⟨_, rfl, by show 4 ≤ sizeLine; decide, fun Y1 hY1 => ⟨by show 1 ≤ sizeLine; decide, fun Y2 hY2 => ⟨by show 3 ≤ sizeLine; decide, fun Y3 hY3 => ⟨by show 4 ≤ sizeLine; decide, fun Y4 hY4 => ?_⟩⟩⟩⟩
      have sY1 := same_new (o := .tup [.int 0, .int 15, .int 0, .int 15]) hY1
      have sY2 := same_new (o := .tup [.str "clash"]) hY2
      have sY3 := same_new (o := .tup [.int 2, .int 2, .int 2]) hY3
      have sY4 := same_new (o := .lst [.bl true, .ref Y1, .ref Y2, .ref Y3]) hY4
      have s5L : Same H5 _ := s6.trans (s67.trans (s8.trans (sZ.trans (sL.trans (sY1.trans (sY2.trans (sY3.trans sY4)))))))
      have s6L : Same H6 _ := s67.trans (s8.trans (sZ.trans (sL.trans (sY1.trans (sY2.trans (sY3.trans sY4))))))
      have sZL : Same _ _ := sL.trans (sY1.trans (sY2.trans (sY3.trans sY4)))
      have sLL : Same _ _ := sY1.trans (sY2.trans (sY3.trans sY4))
      have lt4 : ∀ ns : List Nat, Lay 1 (.tuple (ns.map dN)) := fun ns => lay_tup fun d hd => by
        obtain ⟨n, _, rfl⟩ := List.mem_map.mp hd
        exact lay_int _
      have lcl : Lay 1 (.tuple [.str "clash"]) := lay_tup fun d hd => by
        rw [List.mem_singleton.mp hd]
        exact lay_cla
      have lbo : Lay 1 (.bool true) := ⟨by simp [PyData.canLay0], by simp [PyData.depth]⟩
      have ldat : SeqAt.shaped (.list [.bool true, .tuple ([0, 15, 0, 15].map dN), .tuple [.str "clash"], .tuple ([2, 2, 2].map dN)]) = true := lay_shaped (lay_lst (k := 1) fun d hd => by
        rcases List.mem_cons.mp hd with rfl | hd
        · exact lbo
        rcases List.mem_cons.mp hd with rfl | hd
        · exact lt4 _
        rcases List.mem_cons.mp hd with rfl | hd
        · exact lcl
        rw [List.mem_singleton.mp hd]
        exact lt4 _) (by decide)
      refine ⟨.list [.bool true, .tuple ([0, 15, 0, 15].map dN), .tuple [.str "clash"], .tuple ([2, 2, 2].map dN)], .list [.bool true, .tuple ([0, 15, 0, 15].map dN), .tuple [.str "clash"], .tuple ([2, 2, 2].map dN)],
        .lst (.of (sLL _ _ upd_same)) (.cons (.bl true) (.cons (.tup (.of (s5L _ _ hpq5)) (dpAll_N [0, 15, 0, 15])) (.cons (.tup (.of (s6L _ _ hcq)) (.cons (.str _) .nil)) (.cons (.tup (.of (sZL _ _ upd_same)) (dpAll_N [2, 2, 2])) .nil)))),
        .lst (.of upd_same) (.cons (.bl true) (.cons (.tup (.of ((sY2.trans (sY3.trans sY4)) _ _ upd_same)) (dpAll_N [0, 15, 0, 15])) (.cons (.tup (.of ((sY3.trans sY4) _ _ upd_same)) (.cons (.str _) .nil)) (.cons (.tup (.of (sY4 _ _ upd_same)) (dpAll_N [2, 2, 2])) .nil)))), ldat, ldat, true, congrArg V.bl (by simp [PyData.eqv, PyData.eqvAll, dN]), iteT ?_⟩
      have s2F := s2L.trans sLL
      refine gives_hiT (k := 8) (fun R r => ⟨_, rfl, r⟩) (fun R r => r) (.of (s2F _ _ hE2)) (by decide) _ fun p9 H9 z => ?_
      obtain ⟨hp9, rfl⟩ := z
      rw [e8]
      have s9 := same_new (o := .tup (vN (List.range 8))) hp9
      have s29 := s2F.trans s9
      refine ⟨_, rfl, 4, List.range 8, List.range 16, ⟨_, _, rfl, ⟨p9, rfl, upd_same⟩, ⟨Ev, rfl, s29 _ _ hE2⟩, ok8, ok16, by decide, by decide⟩, by decide, s29 _ _ hT2, fun _ fo2 H10 s10 fv2 => ?_, fun z => absurd c8 z⟩
      obtain ⟨p10, L10, tv10, ep2, ob2, _, _⟩ := id fv2
      cases ep2
      obtain ⟨dx2, hs2⟩ := ob2.slt
      refine ⟨fo2, dx2, _, rfl, hs2, _, 8, 16, 16, tabs 4 (List.range 8) (List.range 16), rfl, fv2, cube_tabs 4 (List.range 8) (List.range 16), by decide, by decide, fun Z2 hZ2 => ?_⟩
      have sZ2 := same_new (o := .tup [.int ((8 : Nat) : Int), .int ((16 : Nat) : Int), .int ((16 : Nat) : Int)]) hZ2
      refine ⟨by show 3 ≤ sizeLine; decide, fun Y5 hY5 => ?_⟩
      have sY5 := same_new (o := .tup [.int 8, .int 16, .int 16]) hY5
      have l3 : SeqAt.shaped (.tuple ([8, 16, 16].map dN)) = true := lay_shaped (lt4 _) (by decide)
      exact ⟨.tuple ([8, 16, 16].map dN), .tuple ([8, 16, 16].map dN), .tup (.of (sY5 _ _ upd_same)) (dpAll_N [8, 16, 16]), .tup (.of upd_same) (dpAll_N [8, 16, 16]), l3, l3,
        qbl (Q := Q) (by simp [PyData.eqv, PyData.eqvAll, dN]) (q _ (s1.trans (s12.trans (s29.trans (s10.trans (sZ2.trans sY5))))))⟩
end
end Sq
/-! text SqHg -/
namespace Sq
open PySem PySem.Spec PyProof.Rows L2
/-! ### the law's promise over an empty table that is tracked as a table -/
section
variable {P : Program} {w : World} {K : Fr} {mg : Str → Option Value} {base : Heap} {T : Addr}
theorem ne_oth {H : Hp} {b T : Addr} {o u : HO} (e : H b = some o) (hT : H T = some u) (d : o ≠ u) : b ≠ T := fun z => by
  rw [z, hT] at e
  exact d (Option.some.inj e).symm
theorem hok_put {H : Hp} {h : Heap} {o u : HO} (ok : HOk P w H h) (hT : H T = some o) (d1 : ∀ a, HO.own a ≠ o) (d2 : ∀ xs, HO.tup xs ≠ o) (hu : ObjOk P w (upd H T u) h T u) : HOk P w (upd H T u) h := fun b x e => by
  by_cases hb : b = T
  · subst hb
    rw [upd_same] at e
    cases e
    exact hu
  · rw [upd_ne hb] at e
    exact (ok b x e).stay (fun _ _ _ y => y) (fun c y => (upd_ne (ne_oth y hT (d1 _))).trans y) fun c xs y => (upd_ne (ne_oth y hT (d2 _))).trans y
def spLawE (K : Fr) (T : Addr) : Sp := fun vs H Q _ => ∃ (l : Addr) (ns : List Int), vs = [.ref l] ∧ SqL K H l (ns.map V.int) ∧ H T = some (.tbl #[]) ∧ ∀ H', Q (.bl true) H'
theorem lawE_in {vs : List V} {H : Hp} {Q : VK} {E E' : XK} (h : spLawE K T vs H Q E) : spLaw K T vs (upd H T (TabE T)) (fun v H' => v = .bl true ∧ Same (upd H T (TabE T)) H') E' := by
  obtain ⟨l, ns, rfl, hl, hT, _⟩ := h
  refine ⟨l, ns, rfl, ?_, upd_same, fun H' s => ⟨rfl, s⟩⟩
  rcases hl with (z | ⟨o, z⟩) | z
  · exact .inl (.inl ((upd_ne (ne_oth z hT (fun q => nomatch q))).trans z))
  · exact .inl (.inr ⟨o, (upd_ne (ne_oth z hT (fun q => nomatch q))).trans z⟩)
  · exact .inr z
theorem law_tbl {k : Nat} {f : Addr} {fd : FuncData} {ps : List Str} (F : FnOk P w K mg base CX0 k f fd ps (spLaw K T)) : FnOk P w K mg base CX0 k f fd ps (spLawE K T) := by
  refine ⟨fun vs H Q E h => F.len vs _ _ E (lawE_in h), fun A outer s H args us vs Q E hr e0 hb hv h => ?_⟩
  have h1 := lawE_in (E' := E) h
  obtain ⟨l, ns, rfl, hl, hT, q⟩ := h
  have none1 : ∀ b, H b = none → upd H T (TabE T) b = none := fun b e => by
    have n : b ≠ T := fun z => by
      rw [z, hT] at e
      cases e
    rw [upd_ne n]
    exact e
  have e1 : Env0 P w K mg base A outer s (upd H T (TabE T)) := ⟨e0.frames, e0.mod, fun b o e => ⟨(e0.bs b o e).1, none1 b (e0.bs b o e).2⟩, e0.bsz, e0.funs, fun b hb => none1 b (e0.frf b hb),
    hok_put e0.hok hT (fun a z => nomatch z) (fun a z => nomatch z) (tabE_ok ⟨#[], e0.hok T _ hT, True.intro⟩), e0.bare⟩
  refine codeAny_mono (F.run A outer s _ args us _ _ E hr e1 hb hv h1) fun r s' hq => ?_
  cases r with
  | error e => exact hq
  | ok fl =>
    cases fl with
    | ret u =>
      obtain ⟨v, H', os, bare, un, hok', r', rfl, sm⟩ := hq
      have hT' : H' T = some (TabE T) := sm _ _ upd_same
      obtain ⟨ps, e, _⟩ := tabE_at hok' hT'
      refine ⟨.bl true, upd H' T (.tbl ps), os, bare, ?_, hok_put hok' hT' (fun a z => nomatch z) (fun a z => nomatch z) e, r', q _⟩
      refine ⟨fun b o x n1 => un.keep b o x (none1 b n1), fun b o x n1 => un.slot b o x (none1 b n1), fun b o x n1 n2 => ?_, fun b o x => un.there b o x, fun b xs x => ?_, fun b o x y => ?_, fun b ps' x => ?_⟩
      · have n : b ≠ T := fun z => by
          rw [z, hT] at n1
          cases n1
        rw [upd_ne n]
        exact un.free b o x (none1 b n1) n2
      · have n := ne_oth x hT (fun q => nomatch q)
        rw [upd_ne n]
        exact un.tups b xs ((upd_ne n).trans x)
      · have n := ne_oth y hT (fun q => nomatch q)
        rw [upd_ne n]
        exact un.frzs b o x ((upd_ne n).trans y)
      · by_cases hb : b = T
        · subst hb
          rw [hT] at x
          cases x
          exact ⟨ps, by rw [upd_same]; simp⟩
        · rw [upd_ne hb]
          exact un.tbls b ps' ((upd_ne hb).trans x)
    | _ => exact hq
end
end Sq
/-! text SqHf -/
namespace Sq
open PySem PySem.Spec PyProof.Rows L2
/-! ### what is known behind the top (printed by mkF.py) -/
def adK (K : Fr) : Ad := ⟨He.ga K "Terms", He.ga K "Ratio", He.ga K "Plain", He.ga K "Kept", He.ga K "Formula", He.ga K "Refused"⟩
structure Hd (K : Fr) (h : Heap) (mg : Str → Option Value) : Prop where
  X : K.In h
  G : h.Ns mainGlobals mg
  c : SaysY faY fnsY tfY exY h K
section
variable {K : Fr} {h : Heap} {mg : Str → Option Value}
theorem Hd.fact (Y : Hd K h mg) (i : Nat) {f : He.Fa} (e : faY[i]? = some f := by rfl) : f.ok K = true := Y.c.fa_ f (List.mem_of_getElem? e)
theorem Hd.fn (Y : Hd K h mg) (i : Nat) {d : FD} (e : fnsY[i]? = some d := by rfl) : d.ok K = true ∧ fnA K (d.at_ K) = d.val := Y.c.fn_ d (List.mem_of_getElem? e)
theorem Hd.ex (Y : Hd K h mg) (i : Nat) {b : Bool} (e : (exList K)[i]? = some b := by rfl) : b = true :=
  List.all_eq_true.mp (He.ba (show ((exList K).all id && refX K rowY.prog.main.file (He.ga K "Refused")) = true from Y.c.more)).1 b (List.mem_of_getElem? e)
theorem Hd.ref (Y : Hd K h mg) : refX K rowY.prog.main.file (He.ga K "Refused") = true := (He.ba (show ((exList K).all id && refX K rowY.prog.main.file (He.ga K "Refused")) = true from Y.c.more)).2
theorem Hd.glo (Y : Hd K h mg) (j : Nat) {x : Str} (e : faY[j]? = some (.glo x) := by rfl) : mg x = some (.ref (He.ga K x)) := He.glo_ok Y.X Y.G (Y.fact j e)
theorem Hd.free (Y : Hd K h mg) (j : Nat) {x : Str} (e : faY[j]? = some (.free x) := by rfl) : mg x = none := He.free_ok Y.X Y.G (Y.fact j e)
theorem Hd.at (Y : Hd K h mg) (i j : Nat) {x : Str} {st : Stmt} {ps : List Str} (b : ∀ (kV doc pm : Value) (an : Option Addr) (cdv ct : Value) (us : List Value), us.length = ps.length → bindArgs (PySem.W.fnOf x x (defArgs st) (defBody st) (defScope st) .none kV doc pm an cdv ct) ⟨us, []⟩ = pure (ps.zip us))
    (e : fnsY[i]? = some ⟨fun K => He.ga K x, x, x, st, [], []⟩ := by rfl) (e2 : faY[j]? = some (.glo x) := by rfl) : At K mg x st ps := by
  obtain ⟨c, v⟩ := Y.fn i e
  obtain ⟨fd, F⟩ := FD.fun c v rfl rfl
  exact ⟨_, fd, F, Y.glo j e2, F.binds b⟩
theorem Hd.kl (Y : Hd K h mg) (j i : Nat) {C : Str} (e2 : faY[j]? = some (.glo C) := by rfl) (e : (exList K)[i]? = some (klB K C) := by rfl) : Kl K mg C (He.ga K C) := by
  have q := Y.ex i e
  obtain ⟨q, r⟩ := He.ba q
  obtain ⟨r, q9⟩ := He.ba r
  obtain ⟨q1, q⟩ := He.ba q
  obtain ⟨q2, q⟩ := He.ba q
  obtain ⟨q3, q4⟩ := He.ba q
  obtain ⟨q5, r⟩ := He.ba r
  obtain ⟨q6, r⟩ := He.ba r
  obtain ⟨q7, q8⟩ := He.ba r
  exact ⟨Y.glo j e2, ⟨q1, q2, q3, He.eqO_ok q4⟩, ⟨He.eqO_ok q5, He.eqO_ok q6, of_decide_eq_true q7, of_decide_eq_true q8⟩, of_decide_eq_true q9⟩
theorem Hd.sl (Y : Hd K h mg) (i : Nat) {C f : Str} {n : Nat} (hn : n < 1000) (e : (exList K)[i]? = some (slotB K C f n) := by rfl) : ∃ p, SlX.Slot1 K (He.ga K C) f p n := by
  have q := Y.ex i e
  obtain ⟨q1, q⟩ := He.ba q
  obtain ⟨q2, q⟩ := He.ba q
  obtain ⟨q3, q⟩ := He.ba q
  obtain ⟨q4, q5⟩ := He.ba q
  exact ⟨_, He.eqO_ok q1, He.eqO_ok q2, of_decide_eq_true q3, of_decide_eq_true q4, of_decide_eq_true q5, hn⟩
theorem Hd.pt (Y : Hd K h mg) (i k : Nat) {C f q : Str} {st : Stmt} (b : ∀ (kV doc pm : Value) (an : Option Addr) (cdv ct : Value) (us : List Value), us.length = ["self"].length → bindArgs (PySem.W.fnOf f q (defArgs st) (defBody st) (defScope st) .none kV doc pm an cdv ct) ⟨us, []⟩ = pure ((["self"] : List Str).zip us))
    (e : fnsY[i]? = some ⟨fun K => getA K C f, f, q, st, [], []⟩ := by rfl) (e2 : (exList K)[k]? = some (propB K C f) := by rfl) : Pt K (He.ga K C) f q st := by
  obtain ⟨c, v⟩ := Y.fn i e
  obtain ⟨fd, F⟩ := FD.funD c v rfl
  have z := Y.ex k e2
  obtain ⟨q1, z⟩ := He.ba z
  obtain ⟨q2, z⟩ := He.ba z
  obtain ⟨q3, q4⟩ := He.ba z
  have rc : ∃ rest, PySem.W.recIn K (He.ma K (He.ga K C) f) "property" = some (.ref (getA K C f) :: rest) := by
    unfold getA
    split at q4
    · rename_i g rest hr
      exact ⟨rest, by rw [hr]⟩
    · cases q4
  exact ⟨_, _, fd, ⟨He.eqO_ok q1, He.eqO_ok q2, of_decide_eq_true q3, rc⟩, ⟨_, _, F⟩, FunD.bindsN F b⟩
theorem Hd.mt (Y : Hd K h mg) (i k : Nat) {C f q : Str} {st : Stmt} {ps : List Str} (b : ∀ (kV doc pm : Value) (an : Option Addr) (cdv ct : Value) (us : List Value), us.length = ps.length → bindArgs (PySem.W.fnOf f q (defArgs st) (defBody st) (defScope st) .none kV doc pm an cdv ct) ⟨us, []⟩ = pure (ps.zip us))
    (e : fnsY[i]? = some ⟨fun K => He.ma K (He.ga K C) f, f, q, st, [], []⟩ := by rfl) (e2 : (exList K)[k]? = some ((He.Fa.meth C f).ok K) := by rfl) : Mt K (He.ga K C) f q st ps := by
  obtain ⟨c, v⟩ := Y.fn i e
  obtain ⟨fd, F⟩ := FD.funD c v rfl
  obtain ⟨q1, z⟩ := He.ba (show (He.eqO (PySem.W.findIn K (.ref (He.ga K C)) f) (some (some (.ref (He.ma K (He.ga K C) f)))) && (PySem.W.isFn K (.ref (He.ma K (He.ga K C) f)) && PySem.W.keepIn K (.ref (He.ma K (He.ga K C) f)))) = true from Y.ex k e2)
  exact ⟨_, fd, He.eqO_ok q1, (He.ba z).1, ⟨_, _, F⟩, FunD.bindsN F b⟩
theorem Hd.in (Y : Hd K h mg) (i k : Nat) {C q : Str} {st : Stmt} {ps : List Str} (b : ∀ (kV doc pm : Value) (an : Option Addr) (cdv ct : Value) (us : List Value), us.length = ps.length → bindArgs (PySem.W.fnOf "__init__" q (defArgs st) (defBody st) (defScope st) .none kV doc pm an cdv ct) ⟨us, []⟩ = pure (ps.zip us))
    (e : fnsY[i]? = some ⟨fun K => He.ma K (He.ga K C) "__init__", "__init__", q, st, [], []⟩ := by rfl) (e2 : (exList K)[k]? = some ((He.Fa.mkr C).ok K) := by rfl) : In K (He.ga K C) q st ps := by
  obtain ⟨c, v⟩ := Y.fn i e
  obtain ⟨fd, F⟩ := FD.funD c v rfl
  exact ⟨_, fd, ⟨_, _, F⟩, He.mkr_ok (x := C) (Y.ex k e2), FunD.bindsN F b⟩
/-- the same where the last parameter has a default, which is never used -/
theorem Hd.inD (Y : Hd K h mg) (i k : Nat) {C q : Str} {st : Stmt} {ps : List Str} {n : Nat} {d : V} (hn : n + ([d].length - 1) = ps.length) (b : ∀ (T : Addr) (kV doc pm : Value) (an : Option Addr) (cdv ct : Value) (us its : List Value), us.length = n → its.length = [d].length →
      ∃ k, bindArgs (PySem.W.fnOf "__init__" q (defArgs st) (defBody st) (defScope st) (.ref T) kV doc pm an cdv ct) ⟨us, []⟩ = seqItems? (.ref T) >>= k ∧ k (some its.toArray) = pure (ps.zip (us ++ its.drop 1)))
    (e : fnsY[i]? = some ⟨fun K => He.ma K (He.ga K C) "__init__", "__init__", q, st, [], [d]⟩ := by rfl) (e2 : (exList K)[k]? = some ((He.Fa.mkr C).ok K) := by rfl) : In K (He.ga K C) q st ps := by
  obtain ⟨c, v⟩ := Y.fn i e
  obtain ⟨fd, F⟩ := FD.funD c v rfl
  obtain ⟨ds, vs, bi⟩ := FunD.binds1 F n 1 (fun z => nomatch z) hn b
  cases vs
  exact ⟨_, fd, ⟨_, _, F⟩, He.mkr_ok (x := C) (Y.ex k e2), bi⟩
theorem Hd.at_law_clashes (Y : Hd K h mg) : At K mg "_law_clashes" s_L_clashes ["_law_firsts", "_law_seconds"] := Y.at 0 6 (fun _ _ _ _ _ _ us hl => match us, hl with | [_, _], _ => rfl)
theorem Hd.at_law_do_keep (Y : Hd K h mg) : At K mg "_law_do_keep" s_L_do_keep ["_law_firsts", "_law_seconds", "_law_many"] := Y.at 1 7 (fun _ _ _ _ _ _ us hl => match us, hl with | [_, _, _], _ => rfl)
theorem Hd.at_law_is_made (Y : Hd K h mg) : At K mg "_law_is_made" s_L_is_made ["_law_firsts", "_law_seconds", "_law_many"] := Y.at 2 8 (fun _ _ _ _ _ _ us hl => match us, hl with | [_, _, _], _ => rfl)
theorem Hd.at_law_jug (Y : Hd K h mg) : At K mg "_law_jug" s_L_jug ["_law_script", "_law_spot"] := Y.at 3 9 (fun _ _ _ _ _ _ us hl => match us, hl with | [_, _], _ => rfl)
theorem Hd.at_law_letters (Y : Hd K h mg) : At K mg "_law_letters" s_L_letters ["_law_x", "_law_many"] := Y.at 4 10 (fun _ _ _ _ _ _ us hl => match us, hl with | [_, _], _ => rfl)
theorem Hd.at_law_lot (Y : Hd K h mg) : At K mg "_law_lot" s_L_lot ["_law_jug_here", "_law_many", "_law_most"] := Y.at 5 11 (fun _ _ _ _ _ _ us hl => match us, hl with | [_, _, _], _ => rfl)
theorem Hd.at_law_made (Y : Hd K h mg) : At K mg "_law_made" s_L_made ["_law_firsts", "_law_seconds", "_law_many"] := Y.at 6 12 (fun _ _ _ _ _ _ us hl => match us, hl with | [_, _, _], _ => rfl)
theorem Hd.at_law_odd (Y : Hd K h mg) : At K mg "_law_odd" s_L_odd ["_law_x", "_law_y", "_law_many"] := Y.at 7 13 (fun _ _ _ _ _ _ us hl => match us, hl with | [_, _, _], _ => rfl)
theorem Hd.at_law_pour (Y : Hd K h mg) : At K mg "_law_pour" s_L_pour ["_law_jug_here", "_law_many"] := Y.at 8 14 (fun _ _ _ _ _ _ us hl => match us, hl with | [_, _], _ => rfl)
theorem Hd.at_law_power (Y : Hd K h mg) : At K mg "_law_power" s_L_power ["_law_many"] := Y.at 9 15 (fun _ _ _ _ _ _ us hl => match us, hl with | [_], _ => rfl)
theorem Hd.at_law_right (Y : Hd K h mg) : At K mg "_law_right" s_L_right ["_law_jug_here"] := Y.at 10 16 (fun _ _ _ _ _ _ us hl => match us, hl with | [_], _ => rfl)
theorem Hd.at_law_rows (Y : Hd K h mg) : At K mg "_law_rows" s_L_rows ["_law_firsts", "_law_seconds", "_law_many"] := Y.at 11 17 (fun _ _ _ _ _ _ us hl => match us, hl with | [_, _, _], _ => rfl)
theorem Hd.at_law_sign (Y : Hd K h mg) : At K mg "_law_sign" s_L_sign ["_law_x", "_law_y", "_law_many"] := Y.at 12 18 (fun _ _ _ _ _ _ us hl => match us, hl with | [_, _, _], _ => rfl)
theorem Hd.at_law_weight (Y : Hd K h mg) : At K mg "_law_weight" s_L_weight ["_law_x"] := Y.at 13 19 (fun _ _ _ _ _ _ us hl => match us, hl with | [_], _ => rfl)
theorem Hd.at_law_xor (Y : Hd K h mg) : At K mg "_law_xor" s_L_xor ["_law_x", "_law_y"] := Y.at 14 20 (fun _ _ _ _ _ _ us hl => match us, hl with | [_, _], _ => rfl)
theorem Hd.at_are_even_rows (Y : Hd K h mg) : At K mg "are_even_rows" s_are_even_rows ["value"] := Y.at 15 21 (fun _ _ _ _ _ _ us hl => match us, hl with | [_], _ => rfl)
theorem Hd.at_are_let (Y : Hd K h mg) : At K mg "are_let" s_are_let ["firsts", "seconds", "many"] := Y.at 16 22 (fun _ _ _ _ _ _ us hl => match us, hl with | [_, _, _], _ => rfl)
theorem Hd.at_are_tables (Y : Hd K h mg) : At K mg "are_tables" s_are_tables ["value"] := Y.at 17 23 (fun _ _ _ _ _ _ us hl => match us, hl with | [_], _ => rfl)
theorem Hd.at_clash (Y : Hd K h mg) : At K mg "clash" s_clash ["firsts", "seconds", "many"] := Y.at 18 24 (fun _ _ _ _ _ _ us hl => match us, hl with | [_, _, _], _ => rfl)
theorem Hd.at_clash_in (Y : Hd K h mg) : At K mg "clash_in" s_clash_in ["firsts", "seconds", "many"] := Y.at 19 25 (fun _ _ _ _ _ _ us hl => match us, hl with | [_, _, _], _ => rfl)
theorem Hd.at_common_bottom (Y : Hd K h mg) : At K mg "common_bottom" s_common_bottom ["table"] := Y.at 20 26 (fun _ _ _ _ _ _ us hl => match us, hl with | [_], _ => rfl)
theorem Hd.at_common_of (Y : Hd K h mg) : At K mg "common_of" s_common_of ["one", "other"] := Y.at 21 27 (fun _ _ _ _ _ _ us hl => match us, hl with | [_, _], _ => rfl)
theorem Hd.at_dot (Y : Hd K h mg) : At K mg "dot" s_dot ["one", "other"] := Y.at 22 28 (fun _ _ _ _ _ _ us hl => match us, hl with | [_, _], _ => rfl)
theorem Hd.at_is_clash (Y : Hd K h mg) : At K mg "is_clash" s_is_clash ["firsts", "seconds", "many", "value"] := Y.at 23 29 (fun _ _ _ _ _ _ us hl => match us, hl with | [_, _, _, _], _ => rfl)
theorem Hd.at_is_formula (Y : Hd K h mg) : At K mg "is_formula" s_is_formula ["value"] := Y.at 24 30 (fun _ _ _ _ _ _ us hl => match us, hl with | [_], _ => rfl)
theorem Hd.at_is_integer (Y : Hd K h mg) : At K mg "is_integer" s_is_integer ["value"] := Y.at 25 31 (fun _ _ _ _ _ _ us hl => match us, hl with | [_], _ => rfl)
theorem Hd.at_is_table (Y : Hd K h mg) : At K mg "is_table" s_is_table ["value"] := Y.at 26 32 (fun _ _ _ _ _ _ us hl => match us, hl with | [_], _ => rfl)
theorem Hd.at_is_whole (Y : Hd K h mg) : At K mg "is_whole" s_is_whole ["value"] := Y.at 27 33 (fun _ _ _ _ _ _ us hl => match us, hl with | [_], _ => rfl)
theorem Hd.at_is_word (Y : Hd K h mg) : At K mg "is_word" s_is_word ["value", "many"] := Y.at 28 34 (fun _ _ _ _ _ _ us hl => match us, hl with | [_, _], _ => rfl)
theorem Hd.at_keeps_apart (Y : Hd K h mg) : At K mg "keeps_apart" s_keeps_apart ["one", "other"] := Y.at 29 35 (fun _ _ _ _ _ _ us hl => match us, hl with | [_, _], _ => rfl)
theorem Hd.at_keeps_size (Y : Hd K h mg) : At K mg "keeps_size" s_keeps_size ["plain"] := Y.at 30 36 (fun _ _ _ _ _ _ us hl => match us, hl with | [_], _ => rfl)
theorem Hd.at_kept_formula (Y : Hd K h mg) : At K mg "kept_formula" s_kept_formula ["tables"] := Y.at 31 37 (fun _ _ _ _ _ _ us hl => match us, hl with | [_], _ => rfl)
theorem Hd.at_law (Y : Hd K h mg) : At K mg "law" s_law ["_law_script"] := Y.at 32 38 (fun _ _ _ _ _ _ us hl => match us, hl with | [_], _ => rfl)
theorem Hd.at_least_broken (Y : Hd K h mg) : At K mg "least_broken" s_least_broken ["plains"] := Y.at 33 39 (fun _ _ _ _ _ _ us hl => match us, hl with | [_], _ => rfl)
theorem Hd.at_letters_of (Y : Hd K h mg) : At K mg "letters_of" s_letters_of ["x", "many"] := Y.at 34 40 (fun _ _ _ _ _ _ us hl => match us, hl with | [_, _], _ => rfl)
theorem Hd.at_ratio_of (Y : Hd K h mg) : At K mg "ratio_of" s_ratio_of ["top", "bottom"] := Y.at 35 41 (fun _ _ _ _ _ _ us hl => match us, hl with | [_, _], _ => rfl)
theorem Hd.at_require_lot (Y : Hd K h mg) : At K mg "require_lot" s_require_lot ["value", "many"] := Y.at 36 42 (fun _ _ _ _ _ _ us hl => match us, hl with | [_, _], _ => rfl)
theorem Hd.at_require_lots (Y : Hd K h mg) : At K mg "require_lots" s_require_lots ["firsts", "seconds", "many"] := Y.at 37 43 (fun _ _ _ _ _ _ us hl => match us, hl with | [_, _, _], _ => rfl)
theorem Hd.at_require_many (Y : Hd K h mg) : At K mg "require_many" s_require_many ["value", "most"] := Y.at 38 44 (fun _ _ _ _ _ _ us hl => match us, hl with | [_, _], _ => rfl)
theorem Hd.at_sign_of_words (Y : Hd K h mg) : At K mg "sign_of_words" s_sign_of_words ["x", "y", "many"] := Y.at 39 45 (fun _ _ _ _ _ _ us hl => match us, hl with | [_, _, _], _ => rfl)
theorem Hd.at_told_tables (Y : Hd K h mg) : At K mg "told_tables" s_told_tables ["tables"] := Y.at 40 46 (fun _ _ _ _ _ _ us hl => match us, hl with | [_], _ => rfl)
theorem Hd.at_weight_of (Y : Hd K h mg) : At K mg "weight_of" s_weight_of ["x"] := Y.at 41 47 (fun _ _ _ _ _ _ us hl => match us, hl with | [_], _ => rfl)
theorem Hd.at_words_formula (Y : Hd K h mg) : At K mg "words_formula" s_words_formula ["firsts", "seconds", "many"] := Y.at 42 48 (fun _ _ _ _ _ _ us hl => match us, hl with | [_, _, _], _ => rfl)
theorem Hd.k_terms (Y : Hd K h mg) : Kl K mg "Terms" (adK K).terms := Y.kl 0 0
theorem Hd.k_ratio (Y : Hd K h mg) : Kl K mg "Ratio" (adK K).ratio := Y.kl 1 1
theorem Hd.k_plain (Y : Hd K h mg) : Kl K mg "Plain" (adK K).plain := Y.kl 2 2
theorem Hd.k_kept (Y : Hd K h mg) : Kl K mg "Kept" (adK K).kept := Y.kl 3 3
theorem Hd.k_formula (Y : Hd K h mg) : Kl K mg "Formula" (adK K).formula := Y.kl 4 4
theorem Hd.s_formula_own_plains (Y : Hd K h mg) : ∃ p, SlX.Slot1 K (adK K).formula "own_plains" p 0 := Y.sl 5 (by decide)
theorem Hd.s_formula_own_tables (Y : Hd K h mg) : ∃ p, SlX.Slot1 K (adK K).formula "own_tables" p 1 := Y.sl 6 (by decide)
theorem Hd.s_kept_own_tables (Y : Hd K h mg) : ∃ p, SlX.Slot1 K (adK K).kept "own_tables" p 0 := Y.sl 7 (by decide)
theorem Hd.s_plain_own_bottom (Y : Hd K h mg) : ∃ p, SlX.Slot1 K (adK K).plain "own_bottom" p 0 := Y.sl 8 (by decide)
theorem Hd.s_plain_own_rows (Y : Hd K h mg) : ∃ p, SlX.Slot1 K (adK K).plain "own_rows" p 1 := Y.sl 9 (by decide)
theorem Hd.s_ratio_own_bottom (Y : Hd K h mg) : ∃ p, SlX.Slot1 K (adK K).ratio "own_bottom" p 0 := Y.sl 10 (by decide)
theorem Hd.s_ratio_own_top (Y : Hd K h mg) : ∃ p, SlX.Slot1 K (adK K).ratio "own_top" p 1 := Y.sl 11 (by decide)
theorem Hd.s_terms_own_bottom (Y : Hd K h mg) : ∃ p, SlX.Slot1 K (adK K).terms "own_bottom" p 0 := Y.sl 12 (by decide)
theorem Hd.s_terms_own_top (Y : Hd K h mg) : ∃ p, SlX.Slot1 K (adK K).terms "own_top" p 1 := Y.sl 13 (by decide)
theorem Hd.i_formula (Y : Hd K h mg) : In K (adK K).formula "Formula.__init__" s_Formula_init ["self", "tables"] := Y.in 50 20 (fun _ _ _ _ _ _ us hl => match us, hl with | [_, _], _ => rfl)
theorem Hd.i_kept (Y : Hd K h mg) : In K (adK K).kept "Kept.__init__" s_Kept_init ["self", "tables"] := Y.in 51 21 (fun _ _ _ _ _ _ us hl => match us, hl with | [_, _], _ => rfl)
theorem Hd.i_plain (Y : Hd K h mg) : In K (adK K).plain "Plain.__init__" s_Plain_init ["self", "table"] := Y.in 52 22 (fun _ _ _ _ _ _ us hl => match us, hl with | [_, _], _ => rfl)
theorem Hd.i_ratio (Y : Hd K h mg) : In K (adK K).ratio "Ratio.__init__" s_Ratio_init ["self", "top", "bottom"] := Y.inD (n := 3) (d := .int 1) 53 23 rfl (fun _ _ _ _ _ _ _ us its h1 h2 => match us, its, h1, h2 with | [_, _, _], [_], _, _ => ⟨_, rfl, rfl⟩)
theorem Hd.i_terms (Y : Hd K h mg) : In K (adK K).terms "Terms.__init__" s_Terms_init ["self", "top", "bottom"] := Y.in 54 24 (fun _ _ _ _ _ _ us hl => match us, hl with | [_, _, _], _ => rfl)
theorem Hd.p_formula_is_whole (Y : Hd K h mg) : Pt K (adK K).formula "is_whole" "Formula.is_whole" s_Formula_is_whole := Y.pt 44 14 (fun _ _ _ _ _ _ us hl => match us, hl with | [_], _ => rfl)
theorem Hd.p_formula_sizes (Y : Hd K h mg) : Pt K (adK K).formula "sizes" "Formula.sizes" s_Formula_sizes := Y.pt 45 15 (fun _ _ _ _ _ _ us hl => match us, hl with | [_], _ => rfl)
theorem Hd.p_formula_tables (Y : Hd K h mg) : Pt K (adK K).formula "tables" "Formula.tables" s_Formula_tables := Y.pt 46 16 (fun _ _ _ _ _ _ us hl => match us, hl with | [_], _ => rfl)
theorem Hd.p_ratio_bottom (Y : Hd K h mg) : Pt K (adK K).ratio "bottom" "Ratio.bottom" s_Ratio_bottom := Y.pt 47 17 (fun _ _ _ _ _ _ us hl => match us, hl with | [_], _ => rfl)
theorem Hd.p_ratio_top (Y : Hd K h mg) : Pt K (adK K).ratio "top" "Ratio.top" s_Ratio_top := Y.pt 48 18 (fun _ _ _ _ _ _ us hl => match us, hl with | [_], _ => rfl)
theorem Hd.m_ratio_bool (Y : Hd K h mg) : Mt K (adK K).ratio "__bool__" "Ratio.__bool__" s_Ratio_bool ["self"] := Y.mt 49 19 (fun _ _ _ _ _ _ us hl => match us, hl with | [_], _ => rfl)
theorem Hd.tTerms (Y : Hd K h mg) : TTerms K mg (adK K) := ⟨Y.k_terms, Y.s_terms_own_bottom, Y.s_terms_own_top, Y.i_terms⟩
theorem Hd.tRatio (Y : Hd K h mg) : TRatio K mg (adK K) := ⟨Y.k_ratio, Y.s_ratio_own_bottom, Y.s_ratio_own_top, Y.i_ratio⟩
theorem Hd.tPlain (Y : Hd K h mg) : TPlain K mg (adK K) := ⟨Y.k_plain, Y.s_plain_own_bottom, Y.s_plain_own_rows, Y.i_plain⟩
theorem Hd.tKept (Y : Hd K h mg) : TKept K mg (adK K) := ⟨Y.k_kept, Y.s_kept_own_tables, Y.i_kept⟩
theorem Hd.tForm (Y : Hd K h mg) : TForm K mg (adK K) := ⟨Y.k_formula, Y.s_formula_own_plains, Y.s_formula_own_tables, Y.i_formula⟩
theorem Hd.nms (Y : Hd K h mg) : Nms mg := ⟨Y.free 50, Y.free 51, Y.free 52, Y.free 53, Y.free 54, Y.free 55, Y.free 56, Y.free 57, Y.free 58, Y.free 59, Y.free 60, Y.free 61, Y.free 62, Y.free 63, Y.free 64, Y.free 65, Y.free 66, Y.free 67, He.int_ok Y.X Y.G (Y.fact 69), He.int_ok Y.X Y.G (Y.fact 70), He.int_ok Y.X Y.G (Y.fact 71), He.int_ok Y.X Y.G (Y.fact 72), He.int_ok Y.X Y.G (Y.fact 73), He.str_ok Y.X Y.G (Y.fact 74)⟩
theorem Hd.tRef (Y : Hd K h mg) : TRef rowY.prog K mg (adK K).refused := by
  have q := Y.ref
  obtain ⟨q1, q⟩ := He.ba q
  obtain ⟨q2, q⟩ := He.ba q
  obtain ⟨q3, q⟩ := He.ba q
  obtain ⟨q4, q⟩ := He.ba q
  obtain ⟨q5, q⟩ := He.ba q
  obtain ⟨q6, q⟩ := He.ba q
  obtain ⟨q7, q⟩ := He.ba q
  obtain ⟨q8, q⟩ := He.ba q
  obtain ⟨q9, q⟩ := He.ba q
  obtain ⟨q10, q⟩ := He.ba q
  obtain ⟨q11, q⟩ := He.ba q
  obtain ⟨q12, q⟩ := He.ba q
  obtain ⟨q13, q⟩ := He.ba q
  obtain ⟨q14, q⟩ := He.ba q
  obtain ⟨q15, _⟩ := He.ba q
  refine ⟨Y.glo 5, Y.free 68, refB_ok q1, q2, q3, He.eqO_ok q4, of_decide_eq_true q5, of_decide_eq_true q6, of_decide_eq_true q7, of_decide_eq_true q8, of_decide_eq_true q9, q10, of_decide_eq_true q11, of_decide_eq_true q12, by kernel_rfl, ?_⟩
  obtain ⟨c, v⟩ := Y.fn 55
  obtain ⟨oc, od, fd, osl, lk, cd, df, kp, ev⟩ := FD.raw c v
  have lk : K.lookup (He.ma K (He.ga K "Refused") "__init__") = some ⟨oc, od, .func fd, osl⟩ := lk
  unfold refFnB at q13
  rw [lk] at q13
  have df0 : fd.defaults = .none := by
    rcases df with ⟨_, z⟩ | ⟨z, _⟩
    · exact z
    · exact absurd rfl z
  clear df
  obtain ⟨n1, n2, n3, n4, n5, n6, n7, n8, n9, n10, n11, n12, n13, n14, n15⟩ := fd
  simp only [Prod.mk.injEq] at ev df0 cd q13
  obtain ⟨h1, h2, h3, h4, h5, h6, h7, h8⟩ := ev
  obtain ⟨cda, rfl⟩ := He.codeIn_ref cd
  cases n7 with
  | nil => cases h7
  | cons p r =>
    cases r with
    | cons p2 r2 => simp at h7
    | nil =>
      obtain ⟨nc, cc⟩ := p
      have h7 : [nc] = (["__class__"] : List Str) := h7
      injection h7 with h7 _
      dsimp only at q13
      split at q13
      · rename_i cl cld C' csl ccl cdd vs ccs e1 e2
        obtain ⟨r1, r2⟩ := He.ba q13
        have r1 := of_decide_eq_true r1
        split at r2
        · rename_i f tf e3
          subst h1 h2 h3 h4 h5 h6 h7 h8 df0 r1
          exact ⟨_, oc, od, n9, n10, n11, n12, cda, n14, cc, osl, ccl, cdd, vs, ccs, f, tf, cl, cld, csl, lk, cd, e2, e3, r2, e1, of_decide_eq_true q14, of_decide_eq_true q15⟩
        · cases r2
      · cases q13
theorem Hd.tTry (Y : Hd K h mg) : TTry K mg (adK K).refused := by
  have q := Y.ref
  obtain ⟨_, q⟩ := He.ba q
  obtain ⟨_, q⟩ := He.ba q
  obtain ⟨_, q⟩ := He.ba q
  obtain ⟨_, q⟩ := He.ba q
  obtain ⟨_, q⟩ := He.ba q
  obtain ⟨_, q⟩ := He.ba q
  obtain ⟨_, q⟩ := He.ba q
  obtain ⟨_, q⟩ := He.ba q
  obtain ⟨_, q⟩ := He.ba q
  obtain ⟨_, q⟩ := He.ba q
  obtain ⟨_, q⟩ := He.ba q
  obtain ⟨_, q⟩ := He.ba q
  obtain ⟨_, q⟩ := He.ba q
  obtain ⟨_, q⟩ := He.ba q
  obtain ⟨_, q⟩ := He.ba q
  obtain ⟨q1, q⟩ := He.ba q
  obtain ⟨q2, q3⟩ := He.ba q
  exact ⟨Y.glo 5, xfB_ok q1, He.eqO_ok q2, of_decide_eq_true q3⟩
theorem Hd.pair (Y : Hd K h mg) : AtC K mg "pair_with" s_pair_with ["lot", "members", "apart"] (He.cT K ("pair_with", none)).1 := by
  obtain ⟨c, v⟩ := Y.fn 43
  obtain ⟨oc, od, fd, osl, lk, cd, df, kp, ev⟩ := FD.raw c v
  obtain ⟨cda, ec⟩ := He.codeIn_ref cd
  have lk : K.lookup (He.fAd K ("pair_with", none)) = some ⟨oc, od, .func fd, osl⟩ := lk
  have e0 : (He.cT K ("pair_with", none)).1 = cda := He.codeOf_eq lk ec
  rw [e0]
  have df0 : fd.defaults = .none := by
    rcases df with ⟨_, z⟩ | ⟨z, _⟩
    · exact z
    · exact absurd rfl z
  clear df
  obtain ⟨n1, n2, n3, n4, n5, n6, n7, n8, n9, n10, n11, n12, n13, n14, n15⟩ := fd
  simp only [Prod.mk.injEq, List.map_eq_nil_iff] at ev df0 cd ec
  obtain ⟨h1, h2, h3, h4, h5, h6, h7, h8⟩ := ev
  subst h1 h2 h3 h4 h5 h6 h7 h8 df0 ec
  exact ⟨_, oc, od, n9, n10, n11, n12, n14, osl, lk, cd, Y.glo 49, .all fun us hl => match us, hl with | [_, _, _], _ => rfl, kp⟩
end
end Sq
/-! text SqHi -/
namespace Sq
open PySem PySem.Spec PyProof.Rows L2
/-! ### all joined: the law's def keeps its promise behind the top -/
theorem Hd.law_ok {w : World} {K : Fr} {h base : Heap} {mg : Str → Option Value} {T : Addr} (Y : Hd K h mg) (TB : GxR.TabB base mg (He.cT K ("pair_with", none)).1 T) {f : Addr} {fd : FuncData} (F : Fun K "law" "law" s_law f fd) :
    FnOk rowY.prog w K mg base CX0 13 f fd ["_law_script"] (spLawE K T) := by
  have N := Y.nms
  have Wi : Df rowY.prog w K mg base CX0 1 "is_whole" spIsWhole := df_is_whole N Y.at_is_whole
  have Ii := df_is_integer N Y.at_is_integer Wi
  have Te : Dc rowY.prog w K mg base 1 "Terms" (spTerms (adK K)) := dc_Terms Y.tTerms
  have Co : Df rowY.prog w K mg base CX0 1 "common_of" spCommon := df_common_of N Y.at_common_of
  have Ra := dc_Ratio N Y.tTerms Y.tRatio Co
  have Ro := df_ratio_of Y.at_ratio_of Te Ra
  have Tp : Rp rowY.prog w K mg base 1 (adK K).ratio "top" (spTop (adK K)) := rp_top Y.tRatio Y.p_ratio_top
  have Bt : Rp rowY.prog w K mg base 1 (adK K).ratio "bottom" (spBot (adK K)) := rp_bottom Y.tRatio Y.p_ratio_bottom
  have Bo : Rm rowY.prog w K mg base 1 (adK K).ratio "__bool__" (spBoo (adK K)) := rm_bool N Y.tRatio Y.m_ratio_bool
  have Ev : Df rowY.prog w K mg base CX0 1 "are_even_rows" (spEven (adK K)) := df_are_even_rows N Y.at_are_even_rows
  have It := df_is_table N Y.tRatio Y.at_is_table Ev
  have Cb := df_common_bottom Y.tRatio Bt Co Y.at_common_bottom
  have Pl := dc_Plain N Y.tRatio Y.tPlain Bt Tp Bo Cb
  have Dt : Df rowY.prog w K mg base CX0 1 "dot" spDot := df_dot N Y.at_dot
  have Ks := df_keeps_size N Y.tPlain Dt Y.at_keeps_size
  have Ka := df_keeps_apart N Y.tPlain Dt Y.at_keeps_apart
  have Lb := df_least_broken N Ks Ka Y.at_least_broken
  have At_ := df_are_tables N It Y.at_are_tables
  have If := df_is_formula N At_ Pl Lb Y.at_is_formula
  have Kp : Dc rowY.prog w K mg base 1 "Kept" (spKept (adK K)) := dc_Kept Y.tKept
  have To : Df rowY.prog w K mg base CX0 1 "told_tables" (spTold (adK K)) := df_told_tables N Y.tKept Y.at_told_tables
  have Fm := dc_Formula Y.tForm To Pl
  have Sz : Rp rowY.prog w K mg base 1 (adK K).formula "sizes" (spSizes (adK K)) := rp_sizes N Y.tForm Y.p_formula_sizes
  have Tb : Rp rowY.prog w K mg base 1 (adK K).formula "tables" (spTbls (adK K)) := rp_tables Y.tForm Y.p_formula_tables
  have Wh : Rp rowY.prog w K mg base 1 (adK K).formula "is_whole" (spWhole (adK K)) := rp_whole N Y.tForm Y.tPlain Y.p_formula_is_whole
  have Kf := df_kept_formula N Kp Fm Y.at_kept_formula
  have Lt : Df rowY.prog w K mg base CX0 1 "letters_of" spLetters := df_letters_of N Y.at_letters_of
  have Wt : Df rowY.prog w K mg base CX0 1 "weight_of" spWt := df_weight_of N Y.at_weight_of
  have Sg := df_sign_of_words N Lt Y.at_sign_of_words
  have Rm_ := df_require_many Ii Y.at_require_many
  have Iw := df_is_word Wi Y.at_is_word
  have Rl1 := df_require_lot N Iw Y.at_require_lot
  have Rl := df_require_lots N Rm_ Rl1 Y.at_require_lots
  have Pw : Df rowY.prog w K mg base CX0 2 "pair_with" (spPair K T) := df_pair_with N.nxt Y.pair TB
  have Ci := df_clash_in N Wt Pw Y.at_clash_in
  have Ch := df_clash Rl Ci Y.at_clash
  have Al := df_are_let Rl Ci Y.at_are_let
  have Ic := df_is_clash N Rl Wi Wt Y.at_is_clash
  have Wf := df_words_formula N Y.tRef Rl Ci Sg Ro Kf Y.at_words_formula
  have Jg : Df rowY.prog w K mg base CX0 1 "_law_jug" (spJug K) := df_L_jug N Y.at_law_jug
  have Po : Df rowY.prog w K mg base CX0 1 "_law_pour" spPour := df_L_pour N Y.at_law_pour
  have Ll : Df rowY.prog w K mg base CX0 1 "_law_letters" spLetters := df_L_letters N Y.at_law_letters
  have Lw : Df rowY.prog w K mg base CX0 1 "_law_weight" spWt := df_L_weight N Y.at_law_weight
  have Lp : Df rowY.prog w K mg base CX0 1 "_law_power" spPow := df_L_power N Y.at_law_power
  have Lx : Df rowY.prog w K mg base CX0 1 "_law_xor" spXor := df_L_xor N Y.at_law_xor
  have Lo := df_L_odd N Ll Y.at_law_odd
  have Ls := df_L_sign Lo Y.at_law_sign
  have Llo := df_L_lot N Po Lw Lx Y.at_law_lot
  have Lc := df_L_clashes N Lw Lx Y.at_law_clashes
  have Lr := df_L_rows N Lp Ls Lx Y.at_law_rows
  have Lk := df_L_keep N Ls Lx Y.at_law_do_keep
  have Md := df_L_made N Y.tTry Wf Y.at_law_made
  have Im := df_L_is_made N Y.tForm Y.tRatio Md Lr Lp Sz Wh Tb Tp If Y.at_law_is_made
  have Rt := df_L_right N Po Llo Lc Ch Al Lk Ic Im Md Y.at_law_right
  exact law_tbl (ok_law N Y.tForm Jg Rt Al Ch Md Wf Sz F)
/-- the law's def -/
theorem Hd.law_at {w : World} {K : Fr} {h : Heap} {mg : Str → Option Value} (Y : Hd K h mg) {fa : Addr} (hfa : mg ("law" : Str) = some (.ref fa)) : LamX.LawAtS PySem.Challenge.rw_squaretimes_k74_whole_lots_make_formulas w K CX0 13 63 "_law_script" mg fa h := by
  obtain ⟨c, v⟩ := Y.fn 32
  obtain ⟨fd, F⟩ := FD.fun c v rfl rfl
  have e := hfa.symm.trans (Y.glo 38 (x := "law"))
  cases e
  have F : Fun K "law" "law" s_law (He.ga K "law") fd := F
  refine ⟨fd, [He.cT K ("pair_with", none)], spLawE K (He.cT K ("pair_with", none)).2, fun p hp => ?_, fun p hp => ?_, fun p hp => ?_, fun s u => ?_, fun H a ns hl _ hT hS => ⟨a, ns, rfl, hS, hT _ (List.mem_singleton.mpr rfl), fun _ => rfl⟩, fun base _ _ TB => ?_⟩
  · rw [List.mem_singleton.mp hp]
    exact Y.c.empty _ (List.mem_singleton.mpr rfl)
  · rw [List.mem_singleton.mp hp]
    exact Y.c.out _ (List.mem_singleton.mpr rfl)
  · rw [List.mem_singleton.mp hp]
    exact PySem.W.codeHd_of_K Y.X (Y.c.hd _ (List.mem_singleton.mpr rfl))
  · obtain ⟨dvs, kws, F2⟩ := Fun.d F
    obtain ⟨⟨oc, od, kV, doc, pm, an, cdv, ct, osl, rfl, lk, cd⟩, kp⟩ := F
    exact .of_eq (by rfl)
  · have t := TB _ (List.mem_singleton.mpr rfl)
    exact Y.law_ok ⟨t.code, t.bm, t.gP⟩ F
end Sq
/-! text SqHj -/
set_option maxHeartbeats 0
open PySem PySem.W PySem.Calls PyProof.Rows
theorem PySem.Challenge.cw_squaretimes_k74_whole_lots_make_formulas_holds : PySem.Challenge.rw_squaretimes_k74_whole_lots_make_formulas.Holds := by
  w_on; o_law
  refine HandSHeadRun.head_any (r := OpenLaw.row PySem.Challenge.rw_squaretimes_k74_whole_lots_make_formulas) (q := view (OpenLaw.row PySem.Challenge.rw_squaretimes_k74_whole_lots_make_formulas).prog [85]) (H := Sq.hkY) (ob := Sq.obYT) (M := 7000) (loose := Sq.looY) (d := HandSHeadRun.topDef (OpenLaw.row PySem.Challenge.rw_squaretimes_k74_whole_lots_make_formulas).prog 85) (kwd := []) Sq.obYT_eq
    (by kernel_rfl) (fun s => by kernel_rfl) Sq.runY (by kernel_rfl) (by kernel_rfl) (by kernel_rfl) (by rfl) (by first | assumption | decide +kernel) (by decide +kernel) ⟨rfl, rfl, rfl, rfl, rfl, by decide +kernel⟩ ?hw ?hc
  case hw => w_witness2
  case hc =>
    refine LamX.walk_ofTsE (l := PySem.Challenge.rw_squaretimes_k74_whole_lots_make_formulas) (n := 63) (k := 13) (x := "_law_script") (CX := fun _ => L2.CX0) rfl (by decide) (by kernel_rfl) ⟨rfl, by decide, by decide⟩ ?F (fun _ _ _ _ _ z => z)
    intro w mg fa h Y G hmg0
    obtain ⟨K, KX, c⟩ := Y
    have hmg : mg ("law" : PySem.Str) = some (.ref fa) := by
      have e : (HandSHeadRun.topDef (OpenLaw.row PySem.Challenge.rw_squaretimes_k74_whole_lots_make_formulas).prog 85).name = ("law" : PySem.Str) := by kernel_rfl
      rw [← e]
      exact hmg0
    exact ⟨K, KX, Sq.Hd.law_at ⟨KX, G, c⟩ hmg⟩
