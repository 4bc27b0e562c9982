import PyProof.Rows.All
import Wide.All
import OpenK.AllK
import Wide.FinOn
import PySem.Challenge.RW_crumbjar_k11_paths_that_fit
import HandS.ForMost
import HandS.Codes
import HandS.Walk
import HandS.Flow
import HandS.IsInst
import HandS.StrMore
import HandS.Style
import HandS.TupAny
import HandS.WordsExc
set_option Elab.async false
set_option linter.all false
set_option maxRecDepth 100000
set_option maxHeartbeats 4000000

namespace LawK11
open PySem PySem.Spec PyProof.Rows L2
def topS (i : Nat) : Stmt := PySem.Challenge.pw_crumbjar_k11_paths_that_fit.main.body.getD i (.Pass ⟨0, 0, 0, 0⟩)
abbrev S_s1_is_path_sign : Stmt := topS 9
abbrev N_s1_is_path_sign : List Str := ["sign"]
theorem sc_s1_is_path_sign : FnScope N_s1_is_path_sign ["sign"] (defScope S_s1_is_path_sign) := ⟨rfl, rfl, rfl, by decide +kernel, rfl, by decide +kernel, by decide +kernel⟩
abbrev S_is_path : Stmt := topS 10
abbrev N_is_path : List Str := ["value", "sign"]
theorem sc_is_path : FnScope N_is_path ["value"] (defScope S_is_path) := ⟨rfl, rfl, rfl, by decide +kernel, rfl, by decide +kernel, by decide +kernel⟩
abbrev S_need_path : Stmt := topS 11
abbrev N_need_path : List Str := ["value"]
theorem sc_need_path : FnScope N_need_path ["value"] (defScope S_need_path) := ⟨rfl, rfl, rfl, by decide +kernel, rfl, by decide +kernel, by decide +kernel⟩
abbrev S_default_path : Stmt := topS 12
abbrev N_default_path : List Str := ["path"]
theorem sc_default_path : FnScope N_default_path ["path"] (defScope S_default_path) := ⟨rfl, rfl, rfl, by decide +kernel, rfl, by decide +kernel, by decide +kernel⟩
abbrev S_s1_path_fits : Stmt := topS 13
abbrev N_s1_path_fits : List Str := ["path", "own"]
theorem sc_s1_path_fits : FnScope N_s1_path_fits ["path", "own"] (defScope S_s1_path_fits) := ⟨rfl, rfl, rfl, by decide +kernel, rfl, by decide +kernel, by decide +kernel⟩
abbrev S_path_fits : Stmt := topS 14
abbrev N_path_fits : List Str := ["path", "own"]
theorem sc_path_fits : FnScope N_path_fits ["path", "own"] (defScope S_path_fits) := ⟨rfl, rfl, rfl, by decide +kernel, rfl, by decide +kernel, by decide +kernel⟩
abbrev S__law_mixed : Stmt := topS 16
abbrev N__law_mixed : List Str := ["_law_cell", "_law_k", "_law_one"]
theorem sc__law_mixed : FnScope N__law_mixed ["_law_cell", "_law_k"] (defScope S__law_mixed) := ⟨rfl, rfl, rfl, by decide +kernel, rfl, by decide +kernel, by decide +kernel⟩
abbrev S__law_draw : Stmt := topS 17
abbrev N__law_draw : List Str := ["_law_cell", "_law_k"]
theorem sc__law_draw : FnScope N__law_draw ["_law_cell", "_law_k"] (defScope S__law_draw) := ⟨rfl, rfl, rfl, by decide +kernel, rfl, by decide +kernel, by decide +kernel⟩
abbrev S__law_digit : Stmt := topS 18
abbrev N__law_digit : List Str := ["_law_draw_here", "_law_span", "_law_j", "_law_found"]
theorem sc__law_digit : FnScope N__law_digit ["_law_draw_here", "_law_span"] (defScope S__law_digit) := ⟨rfl, rfl, rfl, by decide +kernel, rfl, by decide +kernel, by decide +kernel⟩
abbrev S__law_path : Stmt := topS 19
abbrev N__law_path : List Str := ["_law_draw_here", "_law_found", "_law_j"]
theorem sc__law_path : FnScope N__law_path ["_law_draw_here"] (defScope S__law_path) := ⟨rfl, rfl, rfl, by decide +kernel, rfl, by decide +kernel, by decide +kernel⟩
abbrev S__law_pair : Stmt := topS 20
abbrev N__law_pair : List Str := ["_law_draw_here", "_law_path_here", "_law_way"]
theorem sc__law_pair : FnScope N__law_pair ["_law_draw_here"] (defScope S__law_pair) := ⟨rfl, rfl, rfl, by decide +kernel, rfl, by decide +kernel, by decide +kernel⟩
abbrev S__law_due : Stmt := topS 21
abbrev N__law_due : List Str := ["_law_path_here", "_law_own", "_law_parts", "_law_first"]
theorem sc__law_due : FnScope N__law_due ["_law_path_here", "_law_own"] (defScope S__law_due) := ⟨rfl, rfl, rfl, by decide +kernel, rfl, by decide +kernel, by decide +kernel⟩
abbrev S_law : Stmt := topS 22
abbrev N_law : List Str := ["_law_script", "_law_k", "_law_amount", "_law_draw_here", "_law_turn", "_law_path_here", "_law_own", "_law_some", "_law_parts"]
theorem sc_law : FnScope N_law ["_law_script"] (defScope S_law) := ⟨rfl, rfl, rfl, by decide +kernel, rfl, by decide +kernel, by decide +kernel⟩
def cs_PATH_SIGNS : Str := ⟨#[97, 98, 99, 100, 101, 102, 103, 104, 105, 106, 107, 108, 109, 110, 111, 112, 113, 114, 115, 116, 117, 118, 119, 120, 121, 122, 65, 66, 67, 68, 69, 70, 71, 72, 73, 74, 75, 76, 77, 78, 79, 80, 81, 82, 83, 84, 85, 86, 87, 88, 89, 90, 48, 49, 50, 51, 52, 53, 54, 55, 56, 57, 33, 34, 36, 38, 39, 40, 41, 42, 43, 44, 45, 46, 47, 58, 60, 61, 62, 64, 91, 92, 93, 94, 95, 96, 123, 124, 125, 126]⟩
structure Txt (K : PySem.W.Frag) (mg : Str → Option Value) where
  f_s1_is_path_sign : Addr
  d_s1_is_path_sign : FuncData
  F_s1_is_path_sign : Fun K "s1_is_path_sign" "s1_is_path_sign" S_s1_is_path_sign f_s1_is_path_sign d_s1_is_path_sign
  g_s1_is_path_sign : mg "s1_is_path_sign" = some (.ref f_s1_is_path_sign)
  f_is_path : Addr
  d_is_path : FuncData
  F_is_path : Fun K "is_path" "is_path" S_is_path f_is_path d_is_path
  g_is_path : mg "is_path" = some (.ref f_is_path)
  f_need_path : Addr
  d_need_path : FuncData
  F_need_path : Fun K "need_path" "need_path" S_need_path f_need_path d_need_path
  g_need_path : mg "need_path" = some (.ref f_need_path)
  f_default_path : Addr
  d_default_path : FuncData
  F_default_path : Fun K "default_path" "default_path" S_default_path f_default_path d_default_path
  g_default_path : mg "default_path" = some (.ref f_default_path)
  f_s1_path_fits : Addr
  d_s1_path_fits : FuncData
  F_s1_path_fits : Fun K "s1_path_fits" "s1_path_fits" S_s1_path_fits f_s1_path_fits d_s1_path_fits
  g_s1_path_fits : mg "s1_path_fits" = some (.ref f_s1_path_fits)
  f_path_fits : Addr
  d_path_fits : FuncData
  F_path_fits : Fun K "path_fits" "path_fits" S_path_fits f_path_fits d_path_fits
  g_path_fits : mg "path_fits" = some (.ref f_path_fits)
  f__law_mixed : Addr
  d__law_mixed : FuncData
  F__law_mixed : Fun K "_law_mixed" "_law_mixed" S__law_mixed f__law_mixed d__law_mixed
  g__law_mixed : mg "_law_mixed" = some (.ref f__law_mixed)
  f__law_draw : Addr
  d__law_draw : FuncData
  F__law_draw : Fun K "_law_draw" "_law_draw" S__law_draw f__law_draw d__law_draw
  g__law_draw : mg "_law_draw" = some (.ref f__law_draw)
  f__law_digit : Addr
  d__law_digit : FuncData
  F__law_digit : Fun K "_law_digit" "_law_digit" S__law_digit f__law_digit d__law_digit
  g__law_digit : mg "_law_digit" = some (.ref f__law_digit)
  f__law_path : Addr
  d__law_path : FuncData
  F__law_path : Fun K "_law_path" "_law_path" S__law_path f__law_path d__law_path
  g__law_path : mg "_law_path" = some (.ref f__law_path)
  f__law_pair : Addr
  d__law_pair : FuncData
  F__law_pair : Fun K "_law_pair" "_law_pair" S__law_pair f__law_pair d__law_pair
  g__law_pair : mg "_law_pair" = some (.ref f__law_pair)
  f__law_due : Addr
  d__law_due : FuncData
  F__law_due : Fun K "_law_due" "_law_due" S__law_due f__law_due d__law_due
  g__law_due : mg "_law_due" = some (.ref f__law_due)
  f_law : Addr
  d_law : FuncData
  F_law : Fun K "law" "law" S_law f_law d_law
  g_law : mg "law" = some (.ref f_law)
  c_MOST_PATH : ∃ t, mg "MOST_PATH" = some (.int (200) t)
  c_PATH_SIGNS : ∃ t, mg "PATH_SIGNS" = some (.str cs_PATH_SIGNS t)
  n_all : mg "all" = none
  n_enumerate : mg "enumerate" = none
  n_int : mg "int" = none
  n_isinstance : mg "isinstance" = none
  n_len : mg "len" = none
  n_range : mg "range" = none
  n_str : mg "str" = none
  n_sum : mg "sum" = none
section
variable {K : PySem.W.Frag} {mg : Str → Option Value}
theorem Txt.b_s1_is_path_sign (T : Txt K mg) : Binds K T.d_s1_is_path_sign ["sign"] [] := T.F_s1_is_path_sign.binds fun _ _ _ _ _ _ us hl => match us, hl with | [_], _ => rfl
theorem Txt.b_is_path (T : Txt K mg) : Binds K T.d_is_path ["value"] [] := T.F_is_path.binds fun _ _ _ _ _ _ us hl => match us, hl with | [_], _ => rfl
theorem Txt.b_need_path (T : Txt K mg) : Binds K T.d_need_path ["value"] [] := T.F_need_path.binds fun _ _ _ _ _ _ us hl => match us, hl with | [_], _ => rfl
theorem Txt.b_default_path (T : Txt K mg) : Binds K T.d_default_path ["path"] [] := T.F_default_path.binds fun _ _ _ _ _ _ us hl => match us, hl with | [_], _ => rfl
theorem Txt.b_s1_path_fits (T : Txt K mg) : Binds K T.d_s1_path_fits ["path", "own"] [] := T.F_s1_path_fits.binds fun _ _ _ _ _ _ us hl => match us, hl with | [_, _], _ => rfl
theorem Txt.b_path_fits (T : Txt K mg) : Binds K T.d_path_fits ["path", "own"] [] := T.F_path_fits.binds fun _ _ _ _ _ _ us hl => match us, hl with | [_, _], _ => rfl
theorem Txt.b__law_mixed (T : Txt K mg) : Binds K T.d__law_mixed ["_law_cell", "_law_k"] [] := T.F__law_mixed.binds fun _ _ _ _ _ _ us hl => match us, hl with | [_, _], _ => rfl
theorem Txt.b__law_draw (T : Txt K mg) : Binds K T.d__law_draw ["_law_cell", "_law_k"] [] := T.F__law_draw.binds fun _ _ _ _ _ _ us hl => match us, hl with | [_, _], _ => rfl
theorem Txt.b__law_digit (T : Txt K mg) : Binds K T.d__law_digit ["_law_draw_here", "_law_span"] [] := T.F__law_digit.binds fun _ _ _ _ _ _ us hl => match us, hl with | [_, _], _ => rfl
theorem Txt.b__law_path (T : Txt K mg) : Binds K T.d__law_path ["_law_draw_here"] [] := T.F__law_path.binds fun _ _ _ _ _ _ us hl => match us, hl with | [_], _ => rfl
theorem Txt.b__law_pair (T : Txt K mg) : Binds K T.d__law_pair ["_law_draw_here"] [] := T.F__law_pair.binds fun _ _ _ _ _ _ us hl => match us, hl with | [_], _ => rfl
theorem Txt.b__law_due (T : Txt K mg) : Binds K T.d__law_due ["_law_path_here", "_law_own"] [] := T.F__law_due.binds fun _ _ _ _ _ _ us hl => match us, hl with | [_, _], _ => rfl
theorem Txt.b_law (T : Txt K mg) : Binds K T.d_law ["_law_script"] [] := T.F_law.binds fun _ _ _ _ _ _ us hl => match us, hl with | [_], _ => rfl
end
/-! ### prelude -/
/-- all that was tracked but d is as it was -/
def Sx (d : Addr) (H H' : Hp) : Prop := ∀ b o, b ≠ d → H b = some o → H' b = some o
theorem Sx.refl (d : Addr) (H : Hp) : Sx d H H := fun _ _ _ h => h
theorem Sx.trans {d : Addr} {H H1 H2 : Hp} (a : Sx d H H1) (b : Sx d H1 H2) : Sx d H H2 := fun c o n h => b c o n (a c o n h)
theorem Sx.of {d : Addr} {H H' : Hp} (a : Same H H') : Sx d H H' := fun b o _ h => a b o h
theorem Sx.seq {K : PySem.W.Frag} {d : Addr} {H H' : Hp} {a : Addr} {xs : List V} (e : Sx d H H') (n : a ≠ d) (h : SqL K H a xs) : SqL K H' a xs := by
  rcases h with (h | ⟨o, h⟩) | h
  · exact .inl (.inl (e _ _ n h))
  · exact .inl (.inr ⟨o, e _ _ n h⟩)
  · exact .inr h
theorem same_upd {H : Hp} {p : Addr} {o : HO} (h : H p = none) : Same H (upd H p o) := fun b x e => by
  rw [upd_ne (ne_of_none e h)]
  exact e
theorem same_back {H H' : Hp} {p : Addr} (e : Same H H') (h : H' p = none) : H p = none := e.free h
/-- the source of drawn numbers stands at d, having turned n times at most -/
def Dr (d : Addr) (n : Nat) (H : Hp) : Prop := ∃ left cell turns : Int,
  H d = some (.dK [(.inr ("left" : Str), .int left), (.inr ("cell" : Str), .int cell), (.inr ("turns" : Str), .int turns)]) ∧ 0 ≤ turns ∧ turns ≤ n
theorem Dr.mono {d : Addr} {n m : Nat} {H : Hp} (h : Dr d n H) (e : n ≤ m) : Dr d m H := by
  obtain ⟨a, b, c, h1, h2, h3⟩ := h
  exact ⟨a, b, c, h1, h2, by omega⟩
theorem Dr.same {d : Addr} {n : Nat} {H H' : Hp} (h : Dr d n H) (e : Same H H') : Dr d n H' := by
  obtain ⟨a, b, c, h1, h2, h3⟩ := h
  exact ⟨a, b, c, e _ _ h1, h2, h3⟩
theorem Dr.ne {d p : Addr} {n : Nat} {H : Hp} (h : Dr d n H) (e : H p = none) : p ≠ d := by
  obtain ⟨a, b, c, h1, _⟩ := h
  exact (ne_of_none h1 e).symm

/-! ### prelude2 -/
open SX (S S_len S_cat S_inj)
theorem ifT {c : Bool} {A B : Prop} (hc : c = true) (h : A) : if c = true then A else B := by
  rw [if_pos hc]
  exact h
theorem ifF {c : Bool} {A B : Prop} (hc : c = false) (h : B) : if c = true then A else B := by
  rw [hc, if_neg Bool.false_ne_true]
  exact h
theorem if2 {c : Bool} {A B : Prop} (h1 : c = true → A) (h2 : c = false → B) : if c = true then A else B := by
  cases c with
  | true => exact ifT rfl (h1 rfl)
  | false => exact ifF rfl (h2 rfl)
theorem dS (a b : List Nat) : decide (V.str (S a) = V.str (S b)) = decide (a = b) := by
  by_cases e : a = b
  · subst e
    rw [decide_eq_true rfl, decide_eq_true rfl]
  · rw [decide_eq_false e, decide_eq_false fun z => e (S_inj (V.str.inj z))]
theorem dI (a b : Int) : decide (V.int a = V.int b) = decide (a = b) := by
  by_cases e : a = b
  · subst e
    rw [decide_eq_true rfl, decide_eq_true rfl]
  · rw [decide_eq_false e, decide_eq_false fun z => e (V.int.inj z)]
theorem dB (a b : Bool) : decide (V.bl a = V.bl b) = (a == b) := by
  cases a <;> cases b <;> rfl
theorem ndB (a : Bool) : (!decide (V.bl a = V.bl a)) = false := by
  rw [decide_eq_true rfl]
  rfl
/-- sizes -/
theorem szS {l : List Nat} (h : l.length ≤ 100000) : (S l).length ≤ sizeLine := by
  rw [S_len]
  exact Nat.le_trans h (by decide)
theorem sz {n : Nat} (h : n ≤ 100000) : n ≤ sizeLine := Nat.le_trans h (by decide)
theorem szlt {n : Nat} (h : n ≤ 100000) : n < sizeLine := Nat.lt_of_le_of_lt h (by decide)
theorem szadd {a b : List Nat} (h : a.length + b.length ≤ 100000) : (S a).length + (S b).length ≤ sizeLine := by
  rw [S_len, S_len]
  exact Nat.le_trans h (by decide)
/-! texts as lists of signs -/
theorem at_S {a b : List Nat} {i : Nat} (hb : b ≠ []) : StrLaws.At (S a) (S b) (S a).length i ↔ TL.pre b (a.drop i) = true := TL.at_iff (x := S a) (y := S b) hb i
theorem startswith_S (a b : List Nat) : Txt.startswith (S a) (S b) = b.isPrefixOf a := by
  have e : Txt.startswith (S a) (S b) = (decide (0 + b.length ≤ a.length) && (a.toArray.extract 0 (0 + b.length) == b.toArray)) := by
    have h1 : Txt.startswith (S a) (S b) = (decide (0 + (S b).length ≤ (S a).length) && ((S a).cps.extract 0 (0 + (S b).length) == (S b).cps)) := rfl
    rw [h1, S_len, S_len]
  rw [e]
  apply Bool.eq_iff_iff.mpr
  rw [List.isPrefixOf_iff_prefix, Bool.and_eq_true, decide_eq_true_eq, beq_iff_eq, Nat.zero_add]
  constructor
  · rintro ⟨h1, h2⟩
    have h3 : (a.toArray.extract 0 b.length).toList = b := by rw [h2]
    rw [Array.toList_extract] at h3
    have h4 : a.take b.length = b := by simpa [List.extract_eq_take_drop] using h3
    have h5 := List.take_append_drop b.length a
    rw [h4] at h5
    exact ⟨_, h5⟩
  · rintro ⟨t, rfl⟩
    refine ⟨by simp, ?_⟩
    apply Array.toList_inj.mp
    rw [Array.toList_extract]
    simp [List.extract_eq_take_drop]
theorem endswith_S (a b : List Nat) : Txt.endswith (S a) (S b) = b.isSuffixOf a := by
  have e : Txt.endswith (S a) (S b) = (decide (0 + b.length ≤ a.length) && (a.toArray.extract (a.length - b.length) (a.length - b.length + b.length) == b.toArray)) := by
    have h1 : Txt.endswith (S a) (S b) = (decide (0 + (S b).length ≤ (S a).length) && ((S a).cps.extract ((S a).length - (S b).length) ((S a).length - (S b).length + (S b).length) == (S b).cps)) := rfl
    rw [h1, S_len, S_len]
  rw [e]
  apply Bool.eq_iff_iff.mpr
  rw [List.isSuffixOf_iff_suffix, Bool.and_eq_true, decide_eq_true_eq, beq_iff_eq, Nat.zero_add]
  constructor
  · rintro ⟨h1, h2⟩
    have h3 : (a.toArray.extract (a.length - b.length) (a.length - b.length + b.length)).toList = b := by rw [h2]
    rw [Array.toList_extract] at h3
    have h4 : a.drop (a.length - b.length) = b := by
      have h5 : (a.drop (a.length - b.length)).take b.length = b := by simpa [List.extract_eq_take_drop] using h3
      rw [List.take_of_length_le (by rw [List.length_drop]; omega)] at h5
      exact h5
    have h5 := List.take_append_drop (a.length - b.length) a
    rw [h4] at h5
    exact ⟨_, h5⟩
  · rintro ⟨t, rfl⟩
    refine ⟨by simp, ?_⟩
    apply Array.toList_inj.mp
    rw [Array.toList_extract]
    have e2 : (t ++ b).length - b.length = t.length := by simp
    rw [e2]
    simp [List.extract_eq_take_drop]
/-- the cut of a list -/
def cut {α : Type} (l : List α) (lo hi : Option Int) : List α := (l.drop (HT.sIx l.length 0 lo)).take (HT.sIx l.length l.length hi - HT.sIx l.length 0 lo)
theorem cutS_S (l : List Nat) (lo hi : Option Int) : cutS (S l) lo hi = S (cut l lo hi) := by
  unfold cutS cut
  rw [S_len]
theorem cutV_map {α : Type} (l : List α) (f : α → V) (lo hi : Option Int) : cutV (l.map f) lo hi = (cut l lo hi).map f := by
  unfold cutV cut
  rw [List.length_map, List.map_take, List.map_drop]
theorem cut_len {α : Type} (l : List α) (lo hi : Option Int) : (cut l lo hi).length ≤ l.length := by
  unfold cut
  rw [List.length_take, List.length_drop]
  omega
/-- [:k] -/
theorem cut_to {α : Type} (l : List α) (k : Nat) : cut l none (some (k : Int)) = l.take k := by
  unfold cut
  rw [HT.sIx_none, HT.sIx_nat, List.drop_zero, Nat.sub_zero]
  by_cases h : k ≤ l.length
  · rw [Nat.min_eq_left h]
  · rw [Nat.min_eq_right (by omega), List.take_of_length_le (Nat.le_refl _), List.take_of_length_le (by omega)]
/-- [k:] -/
theorem cut_from {α : Type} (l : List α) (k : Nat) : cut l (some (k : Int)) none = l.drop k := by
  unfold cut
  rw [HT.sIx_none, HT.sIx_nat]
  by_cases h : k ≤ l.length
  · rw [Nat.min_eq_left h, List.take_of_length_le (by rw [List.length_drop]; exact Nat.le_refl _)]
  · rw [Nat.min_eq_right (by omega), List.drop_of_length_le (Nat.le_refl _), List.drop_of_length_le (by omega), List.take_nil]
/-- [:-1] -/
theorem cut_init {α : Type} (l : List α) : cut l none (some (-1)) = l.dropLast := by
  unfold cut
  rw [HT.sIx_none]
  have e : HT.sIx l.length l.length (some (-1)) = l.length - 1 := by
    have h1 : HT.sIx l.length l.length (some (-1)) = (if (-1 : Int) < 0 then ((-1 : Int) + (l.length : Int)).toNat else min (-1 : Int).toNat l.length) := rfl
    rw [h1, if_pos (by decide)]
    omega
  rw [e, List.drop_zero, Nat.sub_zero, List.dropLast_eq_take]
theorem atI_neg1 {α : Type} {l : List α} {v : α} (h : l.getLast? = some v) : atI l (-1) = some v := by
  have hne : l ≠ [] := fun z => by
    rw [z] at h
    cases h
  have e : l = l.dropLast ++ [v] := by
    have h1 := List.dropLast_concat_getLast hne
    have h2 : l.getLast hne = v := Option.some.inj ((List.getLast?_eq_some_getLast hne).symm.trans h)
    rw [h2] at h1
    exact h1.symm
  rw [e]
  exact atI_last _ v
theorem cut_t1 {α : Type} (l : List α) : cut l none (some 1) = l.take 1 := cut_to l 1
theorem cut_f1 {α : Type} (l : List α) : cut l (some 1) none = l.drop 1 := cut_from l 1

/-! ### prelude3 -/
/-- a comprehension over a text's signs, one value each -/
theorem lc_str {z : List Nat} {f : Nat → V} {j : Nat} {te : TE} {vs : List Nat} {σ : L2.St} {H1 : Hp} {D : Addr} {Qd : Hp → Prop} (hD : H1 D = none) (hz : z.length ≤ 100000)
    (hw : ∀ x, wipe ((wipe σ vs).set j (some x)) vs = wipe σ vs)
    (hs : ∀ c ∈ z, ∀ H', Same H1 H' → ∀ Q : VK, (∀ H'', Same H' H'' → Q (f c) H'') → te ((wipe σ vs).set j (some (.str (S [c])))) H' Q)
    (hd : ∀ H', Same H1 H' → H' D = some (.lst (z.map f)) → Qd H') :
    ∃ W : Nat → Nat → Hp → Prop, (∃ m, W 0 m (upd H1 D (.lst []))) ∧ ∀ i m H, W i m H →
      ((Its (S z)).stop i H ∧ Qd H) ∨ ((Its (S z)).go i H ∧ ∃ Nx : Hp → Prop, (∀ H', Nx H' → ∃ m', m' < m ∧ W (i + 1) m' H') ∧ ∀ x H', (Its (S z)).yld i H x H' → gName j x (wipe σ vs) H' fun σ2 H2 => wipe σ2 vs = wipe σ vs ∧ tYes σ2 H2 fun b H3 =>
        if b = true then te σ2 H3 fun y H4 => ∃ acc, H4 D = some (.lst acc) ∧ acc.length < sizeLine ∧ Nx (upd H4 D (.lst (acc ++ [y]))) else Nx H3) := by
  have size : (S z).cps.size = z.length := by simp [S]
  refine lc_it (n := (S z).cps.size) walk_str (fun i H' => Same H1 H' ∧ H' D = some (.lst ((z.take i).map f))) ⟨same_upd hD, by rw [upd_same]; rfl⟩ (fun _ _ _ _ => trivial) (fun i x H H' hi hP hY => ?_) (fun H' hP => ?_)
  · obtain ⟨rfl, c, hc, rfl⟩ := hY
    have hc' : z[i]? = some c := by
      have : (S z).cps[i]? = z[i]? := by simp [S]
      rw [← this]
      exact hc
    refine ⟨hw _, ?_⟩
    refine hs c (List.mem_of_getElem? hc') _ hP.1 _ fun H'' s'' => ⟨_, s'' _ _ hP.2, szlt ?_, ?_, ?_⟩
    · rw [List.length_map, List.length_take]
      omega
    · intro b o e
      have nb : b ≠ D := ne_of_none e hD
      rw [upd_ne nb]
      exact s'' _ _ (hP.1 _ _ e)
    · rw [upd_same, List.take_add_one, hc', List.map_append]
      rfl
  · refine hd H' hP.1 ?_
    rw [hP.2, size, List.take_length]
/-- .. over a list, one value each -/
theorem lc_lst {K : PySem.W.Frag} {a : Addr} {xs : List V} {f : V → V} {j : Nat} {te : TE} {vs : List Nat} {σ : L2.St} {H1 : Hp} {D : Addr} {Qd : Hp → Prop} (hD : H1 D = none) (hz : xs.length ≤ 100000) (hx : SqL K H1 a xs)
    (hw : ∀ x, wipe ((wipe σ vs).set j (some x)) vs = wipe σ vs)
    (hs : ∀ c ∈ xs, ∀ H', Same H1 H' → ∀ Q : VK, (∀ H'', Same H' H'' → Q (f c) H'') → te ((wipe σ vs).set j (some c)) H' Q)
    (hd : ∀ H', Same H1 H' → H' D = some (.lst (xs.map f)) → Qd H') :
    ∃ W : Nat → Nat → Hp → Prop, (∃ m, W 0 m (upd H1 D (.lst []))) ∧ ∀ i m H, W i m H →
      ((Itl K a).stop i H ∧ Qd H) ∨ ((Itl K a).go i H ∧ ∃ Nx : Hp → Prop, (∀ H', Nx H' → ∃ m', m' < m ∧ W (i + 1) m' H') ∧ ∀ x H', (Itl K a).yld i H x H' → gName j x (wipe σ vs) H' fun σ2 H2 => wipe σ2 vs = wipe σ vs ∧ tYes σ2 H2 fun b H3 =>
        if b = true then te σ2 H3 fun y H4 => ∃ acc, H4 D = some (.lst acc) ∧ acc.length < sizeLine ∧ Nx (upd H4 D (.lst (acc ++ [y]))) else Nx H3) := by
  refine lc_it (n := xs.length) walk_list (fun i H' => Same H1 H' ∧ H' D = some (.lst ((xs.take i).map f))) ⟨same_upd hD, by rw [upd_same]; rfl⟩ (fun _ _ _ hP => hP.1.seq hx) (fun i x H H' hi hP hY => ?_) (fun H' hP => ?_)
  · obtain ⟨rfl, hc⟩ := hY
    refine ⟨hw _, ?_⟩
    refine hs x (List.mem_of_getElem? hc) _ hP.1 _ fun H'' s'' => ⟨_, s'' _ _ hP.2, szlt ?_, ?_, ?_⟩
    · rw [List.length_map, List.length_take]
      omega
    · intro b o e
      have nb : b ≠ D := ne_of_none e hD
      rw [upd_ne nb]
      exact s'' _ _ (hP.1 _ _ e)
    · rw [upd_same, List.take_add_one, hc, List.map_append]
      rfl
  · refine hd H' hP.1 ?_
    rw [hP.2, List.take_length]
theorem map_bl {α : Type} (l : List α) (p : α → Bool) : l.map (fun c => V.bl (p c)) = (l.map p).map V.bl := by
  rw [List.map_map]
  rfl
theorem all_map {α : Type} (l : List α) (p : α → Bool) : (l.map p).all id = l.all p := by
  rw [List.all_map]
  rfl
/-- isinstance(x, str) of a text -/
theorem isi_str {K : PySem.W.Frag} {x : Str} {H : Hp} {Q : VK} (q : Q (.bl true) H) : rIsi K [.str x, .ty "str"] H Q :=
  ⟨.str x, .ty "str", .type "str", .type "str", true, rfl, .ty _, .base (.str _), kit_ty (by decide +kernel), q⟩
/-- an item of a written list at a drawn place -/
theorem at_some {xs : List V} {i : Int} (h0 : 0 ≤ i) (h1 : i < xs.length) : ∃ v, atI xs i = some v ∧ v ∈ xs := by
  have h2 : i.toNat < xs.length := by omega
  refine ⟨xs[i.toNat], ?_, List.getElem_mem h2⟩
  exact at_of (by omega) (List.getElem?_eq_getElem h2)
theorem qb {Q : VK} {H : Hp} {a b : Bool} (e : a = b) (q : Q (.bl a) H) : Q (.bl b) H := e ▸ q
theorem qs {Q : VK} {H : Hp} {a b : List Nat} (e : a = b) (q : Q (.str (S a)) H) : Q (.str (S b)) H := e ▸ q

/-! ### prelude4 -/
/-! lists of texts, compared -/
abbrev vS (l : List Nat) : V := .str (S l)
def dS1 (l : List Nat) : PyData := .str (S l)
def dL (ws : List (List Nat)) : PyData := .list (ws.map dS1)
theorem dpAll_S {K : PySem.W.Frag} {H : Hp} : ∀ ws : List (List Nat), DpAll K H (ws.map vS) (ws.map dS1)
  | [] => .nil
  | _ :: r => .cons (.str _) (dpAll_S r)
theorem dp_L {K : PySem.W.Frag} {H : Hp} {a : Addr} {ws : List (List Nat)} (h : SqL K H a (ws.map vS)) : Dp K H (.ref a) (dL ws) := .lst h (dpAll_S ws)
def Asc (l : List Nat) : Prop := ∀ c ∈ l, c < 128
theorem asc_ok {l : List Nat} (h : Asc l) : PyData.strOk (S l) = true := by
  show (l.toArray.all (· < 0x110000)) = true
  rw [← Array.all_toList, List.all_eq_true]
  exact fun c hc => decide_eq_true (Nat.lt_trans (h c hc) (by decide))
theorem canLay_S : ∀ ws : List (List Nat), (∀ w ∈ ws, Asc w) → PyData.canLayAll0 (ws.map dS1) = true
  | [], _ => rfl
  | w :: r, h => by
    rw [List.map_cons, PyData.canLayAll0, canLay_S r fun x hx => h x (List.mem_cons_of_mem _ hx)]
    have h1 : PyData.canLay0 (dS1 w) = true := by
      show PyData.canLay0 (.str (S w)) = true
      rw [PyData.canLay0]
      exact asc_ok (h w List.mem_cons_self)
    rw [h1]
    rfl
theorem depth_S : ∀ ws : List (List Nat), PyData.depthAll (ws.map dS1) ≤ 1
  | [] => by
    show 0 ≤ 1
    decide
  | w :: r => by
    rw [List.map_cons, PyData.depthAll]
    have h1 := depth_S r
    have h2 : PyData.depth (dS1 w) ≤ 1 := by
      show PyData.depth (.str (S w)) ≤ 1
      rw [PyData.depth]
      decide
    omega
theorem shaped_L {ws : List (List Nat)} (h : ∀ w ∈ ws, Asc w) : SeqAt.shaped (dL ws) = true := by
  unfold SeqAt.shaped dL
  rw [PyData.canLay0, canLay_S ws h, PyData.depth, decide_eq_true]
  · rfl
  · have := depth_S ws
    omega
theorem eqvAll_S : ∀ a b : List (List Nat), PyData.eqvAll (a.map dS1) (b.map dS1) = decide (a = b)
  | [], [] => rfl
  | [], _ :: _ => rfl
  | _ :: _, [] => rfl
  | x :: a, y :: b => by
    rw [List.map_cons, List.map_cons, PyData.eqvAll, eqvAll_S a b]
    have h1 : PyData.eqv (dS1 x) (dS1 y) = decide (x = y) := by
      show PyData.eqv (.str (S x)) (.str (S y)) = _
      rw [PyData.eqv]
      exact SX.S_beq_eq
    rw [h1]
    apply Bool.eq_iff_iff.mpr
    rw [Bool.and_eq_true, decide_eq_true_eq, decide_eq_true_eq, decide_eq_true_eq, List.cons.injEq]
theorem eqv_L (a b : List (List Nat)) : PyData.eqv (dL a) (dL b) = decide (a = b) := by
  unfold dL
  rw [PyData.eqv]
  exact eqvAll_S a b
/-- the parts of a text between single signs -/
def parts (c : Nat) (l : List Nat) : List (List Nat) := TL.spl [c] 0 [] l
theorem split_S {c : Nat} (hc : c < 256) (l : List Nat) : (Txt.split (S l) (S [c])).map V.str = (parts c l).map vS := by
  rw [SX.split_S (a := l) (b := [c]) (by simp) (by simpa using hc), List.map_map]
  rfl
theorem spl_acc (c : Nat) : ∀ (l acc : List Nat), ∃ p r, TL.spl [c] 0 acc l = (acc ++ p) :: r ∧ TL.spl [c] 0 [] l = p :: r
  | [], acc => ⟨[], [], by rw [TL.spl_nil, List.append_nil], by rw [TL.spl_nil]⟩
  | x :: l, acc => by
    by_cases h : TL.pre [c] (x :: l) = true
    · exact ⟨[], TL.spl [c] ([c].length - 1) [] l, by rw [TL.spl_hit h, List.append_nil], by rw [TL.spl_hit h]⟩
    · have h' : TL.pre [c] (x :: l) = false := by simpa using h
      obtain ⟨p, r, e1, e2⟩ := spl_acc c l (acc ++ [x])
      obtain ⟨p', r', e3, e4⟩ := spl_acc c l ([] ++ [x])
      rw [e2] at e4
      cases e4
      exact ⟨x :: p, r, by rw [TL.spl_miss h', e1]; simp, by rw [TL.spl_miss h', e3]; simp⟩
theorem parts_nil (c : Nat) : parts c [] = [[]] := TL.spl_nil _ _ _
theorem parts_hit (c : Nat) (l : List Nat) : parts c (c :: l) = [] :: parts c l := by
  unfold parts
  rw [TL.spl_hit (by simp [TL.pre])]
  rfl
theorem parts_miss {c x : Nat} (h : x ≠ c) (l : List Nat) : ∃ p r, parts c l = p :: r ∧ parts c (x :: l) = (x :: p) :: r := by
  obtain ⟨p, r, e1, e2⟩ := spl_acc c l ([] ++ [x])
  refine ⟨p, r, e2, ?_⟩
  unfold parts
  rw [TL.spl_miss (by simp [TL.pre, h]), e1]
  rfl
theorem parts_ne (c : Nat) (l : List Nat) : parts c l ≠ [] := by
  obtain ⟨p, r, _, e⟩ := spl_acc c l []
  unfold parts
  rw [e]
  exact List.cons_ne_nil _ _
theorem parts_len (c : Nat) : ∀ l : List Nat, (parts c l).length ≤ l.length + 1
  | [] => by rw [parts_nil]; simp
  | x :: l => by
    have ih := parts_len c l
    by_cases h : x = c
    · subst h
      rw [parts_hit]
      simp only [List.length_cons]
      omega
    · obtain ⟨p, r, e1, e2⟩ := parts_miss h l
      rw [e1] at ih
      rw [e2]
      simp only [List.length_cons] at ih ⊢
      omega
theorem parts_cut (c : Nat) : ∀ a b : List Nat, parts c (a ++ c :: b) = parts c a ++ parts c b
  | [], b => by
    rw [List.nil_append, parts_hit, parts_nil]
    rfl
  | x :: a, b => by
    rw [List.cons_append]
    by_cases h : x = c
    · subst h
      rw [parts_hit, parts_hit, parts_cut]
      rfl
    · obtain ⟨p, r, e1, e2⟩ := parts_miss h a
      obtain ⟨p', r', e3, e4⟩ := parts_miss h (a ++ c :: b)
      rw [parts_cut, e1] at e3
      rw [e4, e2]
      cases e3
      rfl
theorem parts_one {c : Nat} : ∀ {l : List Nat}, c ∉ l → parts c l = [l]
  | [], _ => parts_nil c
  | x :: l, h => by
    rw [List.mem_cons, not_or] at h
    obtain ⟨p, r, e1, e2⟩ := parts_miss (fun z => h.1 z.symm) l
    rw [parts_one h.2] at e1
    cases e1
    exact e2
/-- glued again -/
theorem join_parts (c : Nat) : ∀ l : List Nat, TL.joinL [c] (parts c l) = l
  | [] => by
    rw [parts_nil]
    rfl
  | x :: l => by
    have ih := join_parts c l
    by_cases h : x = c
    · subst h
      rw [parts_hit]
      obtain ⟨p, r, e⟩ : ∃ p r, parts x l = p :: r := by
        cases e : parts x l with
        | nil => exact absurd e (parts_ne x l)
        | cons p r => exact ⟨p, r, rfl⟩
      rw [e] at ih ⊢
      show [] ++ ([x] ++ TL.joinL [x] (p :: r)) = x :: l
      rw [ih]
      rfl
    · obtain ⟨p, r, e1, e2⟩ := parts_miss h l
      rw [e1] at ih
      rw [e2]
      cases r with
      | nil =>
        have ih : p = l := ih
        rw [← ih]
        rfl
      | cons q r =>
        have ih : p ++ ([c] ++ TL.joinL [c] (q :: r)) = l := ih
        rw [← ih]
        rfl
theorem join_S (y : List Nat) (ws : List (List Nat)) : Txt.join (S y) (ws.map S) = S (TL.joinL y ws) := by
  rw [TL.join_eq]
  refine TL.ext_tl ?_
  rw [TL.tl_join, SX.map_S_tl]
theorem parts_asc (c : Nat) : ∀ {l : List Nat}, Asc l → ∀ w ∈ parts c l, Asc w
  | [], h, w, hw => by
    rw [parts_nil] at hw
    rcases List.mem_cons.mp hw with rfl | hw
    · exact h
    · cases hw
  | x :: l, h, w, hw => by
    have hl : Asc l := fun c hc => h c (List.mem_cons_of_mem _ hc)
    by_cases e : x = c
    · subst e
      rw [parts_hit] at hw
      rcases List.mem_cons.mp hw with rfl | hw
      · exact fun _ z => nomatch z
      · exact parts_asc x hl w hw
    · obtain ⟨p, r, e1, e2⟩ := parts_miss e l
      have ih := parts_asc c hl
      rw [e1] at ih
      rw [e2] at hw
      rcases List.mem_cons.mp hw with rfl | hw
      · intro z hz
        rcases List.mem_cons.mp hz with rfl | hz
        · exact h _ List.mem_cons_self
        · exact ih p List.mem_cons_self z hz
      · exact ih w (List.mem_cons_of_mem _ hw)
theorem empty_S : ("" : Str) = S [] := by decide +kernel
theorem join_size (c : Nat) : ∀ ws : List (List Nat), (ws.map (·.length)).sum + ws.length ≤ (TL.joinL [c] ws).length + 1
  | [] => by simp
  | [x] => by
    show [x.length].sum + 1 ≤ x.length + 1
    simp
  | x :: y :: r => by
    have ih := join_size c (y :: r)
    show (x.length :: (y :: r).map (·.length)).sum + ((y :: r).length + 1) ≤ (x ++ ([c] ++ TL.joinL [c] (y :: r))).length + 1
    rw [List.sum_cons, List.length_append, List.length_append, List.length_singleton]
    omega
theorem size_join {c : Nat} {ws : List (List Nat)} (h : (TL.joinL [c] ws).length ≤ 1000000) : ((ws.map S).map (·.length)).sum + (ws.map S).length * (S [c]).length ≤ 16777216 := by
  have := join_size c ws
  rw [SX.lens, List.length_map, S_len, List.length_singleton, Nat.mul_one]
  omega

section
variable {P : Program} {w : World} {K : PySem.W.Frag} {mg : Str → Option Value} {base : Heap}
/-! ### s1_is_path_sign -/

def pathSign (c : Nat) : Bool := decide (c ∈ cs_PATH_SIGNS.cps.toList)
def sp_s1_is_path_sign (K : PySem.W.Frag) : Sp := fun vs H Q _ => ∃ c : Nat, vs = [.str ⟨#[c]⟩] ∧ Q (.bl (pathSign c)) H
theorem ok_s1_is_path_sign (T : Txt K mg) : FnOk P w K mg base CX0 1 T.f_s1_is_path_sign T.d_s1_is_path_sign ["sign"] (sp_s1_is_path_sign K) := by
  refine T.F_s1_is_path_sign.ok sc_s1_is_path_sign (fun vs H Q E h => ?_) (fun cdv A outer s H vs Q E hr h => ?_)
  · obtain ⟨c, rfl, _⟩ := h
    rfl
  · obtain ⟨c, rfl, q⟩ := h
    refine ⟨_, (pss_one (ps_ret (pe_cmpR op_in_sign (pv 0) (pe_glob (v := .str cs_PATH_SIGNS) (by rfl) T.c_PATH_SIGNS.choose_spec ⟨_, rfl⟩) (by rfl)))), ?_⟩
    exact ⟨_, rfl, c, _, rfl, rfl, q⟩

/-! ### is_path -/
def isPath (l : List Nat) : Bool := decide (1 ≤ l.length ∧ l.length ≤ 200) && (l.head? == some 47) && l.all pathSign
def sp_is_path (K : PySem.W.Frag) : Sp := fun vs H Q _ => ∃ l : List Nat, vs = [.str (S l)] ∧ l.length ≤ 100000 ∧ ∀ H', Same H H' → Q (.bl (isPath l)) H'
theorem slash : ("/" : Str) = S [47] := by decide +kernel
theorem ok_is_path (T : Txt K mg) : FnOk P w K mg base CX0 2 T.f_is_path T.d_is_path ["value"] (sp_is_path K) := by
  refine T.F_is_path.ok sc_is_path (fun vs H Q E h => ?_) (fun cdv A outer s H vs Q E hr h => ?_)
  · obtain ⟨l, rfl, _⟩ := h
    rfl
  · obtain ⟨l, rfl, hl, q⟩ := h
    refine ⟨_, (pss_cons (ps_if (PW.pt (pw_or (pt_not (pt_val (pe_callB call_isi (by rfl) T.n_isinstance (by decide +kernel) (pa_cons (pv 0) (pa_cons (pe_bltn (v := .ty "str") (by rfl) T.n_str (by decide +kernel) rfl) pa_nil))))) (pw_or (pt_not (pt_chain op_le op_le pe_int (pe_callB call_len_str (by rfl) T.n_len (by decide +kernel) (pa_cons (pv 0) pa_nil)) (pe_glob (v := .int (200)) (by rfl) T.c_MOST_PATH.choose_spec ⟨_, rfl⟩))) (pw_or1 (pt_cmpR op_ne (pe_ix ix_str (pv 0) pe_int (fun _ _ => rfl)) pe_str (nomark _))))))
      (pss_one (ps_ret pe_bl))
      pss_nil)
      (pss_one (ps_ret (pe_callB (cr_all rfl) (by rfl) T.n_all (by decide +kernel) (pa_cons (pe_lc (own := [("sign", 1)]) (g := gName 1) (tt := tYes) (by rfl) sc_is_path.nd (pi_str (pv 0)) (blkOk_by (own := [("sign", 1)]) (N := N_is_path) (sc := defScope S_is_path) (by decide +kernel)) (fun _ _ _ _ _ => (pg_name (i := 1) sc_is_path.nd rfl (.inl rfl))) (fun _ _ _ _ _ => pts_nil) (fun _ _ _ _ _ => (pe_call (ok_s1_is_path_sign T) (hr.mono (by decide)) (by rfl) T.g_s1_is_path_sign T.F_s1_is_path_sign.kp T.b_s1_is_path_sign .nil pass0 (pa_cons (pv 1) pa_nil)))) pa_nil))))), ?_⟩
    refine ⟨_, rfl, .str (S l), .ty "str", .type "str", .type "str", true, rfl, .ty _, .base (.str _), kit_ty (by decide +kernel), true, rfl, ?_⟩
    refine ⟨_, rfl, S l, rfl, szS hl, 1, _, rfl, rfl, _, rfl, ?_⟩
    refine if2 (fun h1 => ?_) (fun h1 => ?_)
    · refine ⟨_, _, rfl, rfl, _, rfl, ?_⟩
      rw [S_len] at h1
      refine if2 (fun h2 => ?_) (fun h2 => ?_)
      · rw [S_len] at h2
        have e : isPath l = false := by
          unfold isPath
          rw [decide_eq_false (by simp at h2; omega)]
          rfl
        exact qb e (q H (Same.refl H))
      · rw [S_len] at h2
        obtain ⟨c, r, rfl⟩ : ∃ c r, l = c :: r := by
          cases l with
          | nil => simp at h1
          | cons c r => exact ⟨c, r, rfl⟩
        have h3 : 1 ≤ (c :: r).length ∧ (c :: r).length ≤ 200 := by simp at h1 h2 ⊢; omega
        refine ⟨_, rfl, S (c :: r), 0, c, rfl, rfl, szS hl, atI_nat (j := 0) rfl, rfl, _, rfl, ?_⟩
        rw [slash, dS]
        refine if2 (fun h4 => ?_) (fun h4 => ?_)
        · have e : isPath (c :: r) = false := by
            unfold isPath
            rw [decide_eq_true h3]
            have : c ≠ 47 := by simpa using h4
            simp [this]
          exact qb e (q H (Same.refl H))
        · have e4 : c = 47 := by simpa using h4
          subst e4
          refine ⟨_, rfl, S (47 :: r), rfl, fun D hD => ?_⟩
          refine lc_str (f := fun c => .bl (pathSign c)) hD hl (fun _ => rfl) (fun c hc H' s' Q' q' => ?_) (fun H' s' hL => ?_)
          · exact ⟨_, rfl, c, rfl, q' H' (Same.refl H')⟩
          · refine ⟨D, (47 :: r).map pathSign, rfl, ?_, ?_⟩
            · rw [← map_bl]
              exact SqL.of hL
            · rw [all_map]
              have e : isPath (47 :: r) = (47 :: r).all pathSign := by
                unfold isPath
                rw [decide_eq_true h3]
                rfl
              exact qb e (q H' s')
    · rw [S_len] at h1
      have e : isPath l = false := by
        unfold isPath
        rw [decide_eq_false (by simp at h1; omega)]
        rfl
      exact ⟨false, rfl, qb e (q H (Same.refl H))⟩

/-! ### need_path -/
def sp_need_path (K : PySem.W.Frag) : Sp := fun vs H Q _ => ∃ l : List Nat, vs = [.str (S l)] ∧ isPath l = true ∧ ∀ H', Same H H' → Q .non H'
theorem isPath_len {l : List Nat} (h : isPath l = true) : 1 ≤ l.length ∧ l.length ≤ 200 := by
  unfold isPath at h
  rw [Bool.and_eq_true, Bool.and_eq_true] at h
  exact of_decide_eq_true h.1.1
theorem isPath_head {l : List Nat} (h : isPath l = true) : l.head? = some 47 := by
  unfold isPath at h
  rw [Bool.and_eq_true, Bool.and_eq_true] at h
  exact eq_of_beq h.1.2
theorem ok_need_path (T : Txt K mg) : FnOk P w K mg base CX0 3 T.f_need_path T.d_need_path ["value"] (sp_need_path K) := by
  refine T.F_need_path.ok sc_need_path (fun vs H Q E h => ?_) (fun cdv A outer s H vs Q E hr h => ?_)
  · obtain ⟨l, rfl, _⟩ := h
    rfl
  · obtain ⟨l, rfl, hl, q⟩ := h
    refine ⟨_, (pss_one (ps_if (pt_not (pt_val (pe_call (ok_is_path T) (hr.mono (by decide)) (by rfl) T.g_is_path T.F_is_path.kp T.b_is_path .nil pass0 (pa_cons (pv 0) pa_nil))))
      (pss_one ps_never)
      pss_nil)), ?_⟩
    refine ⟨_, rfl, l, rfl, by have := isPath_len hl; omega, fun H' s' => ?_⟩
    rw [hl]
    exact ⟨true, rfl, q H' s'⟩

/-! ### default_path -/
/-- what stands in front of the last slash -/
def dirOf (l : List Nat) : List Nat := (l.reverse.dropWhile fun c => c != 47).tail.reverse
def defaultPath (l : List Nat) : List Nat := if dirOf l = [] then [47] else dirOf l
theorem dropWhile_no {p : Nat → Bool} : ∀ {a b : List Nat}, (∀ c ∈ a, p c = true) → (a ++ b).dropWhile p = b.dropWhile p
  | [], _, _ => rfl
  | x :: a, b, h => by
    rw [List.cons_append, List.dropWhile_cons_of_pos (h x List.mem_cons_self)]
    exact dropWhile_no fun c hc => h c (List.mem_cons_of_mem _ hc)
theorem dirOf_at {p q : List Nat} (h : 47 ∉ q) : dirOf (p ++ 47 :: q) = p := by
  unfold dirOf
  rw [List.reverse_append, List.reverse_cons, List.append_assoc, dropWhile_no fun c hc => ?_]
  · show (([47] ++ p.reverse).dropWhile _).tail.reverse = p
    rw [List.singleton_append, List.dropWhile_cons_of_neg (by decide), List.tail_cons, List.reverse_reverse]
  · have : c ≠ 47 := fun z => h (by rw [← z]; exact List.mem_reverse.mp hc)
    simpa using this
theorem last_split {c : Nat} : ∀ {l : List Nat}, c ∈ l → ∃ p q, l = p ++ c :: q ∧ c ∉ q
  | [], h => by simp at h
  | x :: l, h => by
    by_cases m : c ∈ l
    · obtain ⟨p, q, e, n⟩ := last_split m
      exact ⟨x :: p, q, by rw [e]; rfl, n⟩
    · have e : c = x := (List.mem_cons.mp h).resolve_right m
      exact ⟨[], l, by rw [e]; rfl, m⟩
theorem pre_one {c : Nat} {l : List Nat} : TL.pre [c] l = true ↔ l.head? = some c := by
  cases l with
  | nil => simp [TL.pre]
  | cons x l => simp [TL.pre]
theorem rindex_S {p q : List Nat} {c : Nat} (h : c ∉ q) : Txt.rindex0 (S (p ++ c :: q)) (S [c]) = some p.length := by
  have at1 : StrLaws.At (S (p ++ c :: q)) (S [c]) (S (p ++ c :: q)).length p.length := (at_S (by simp)).mpr (pre_one.mpr (by rw [List.drop_left']; rfl; rfl))
  rcases StrLaws.last_spec (S (p ++ c :: q)) (S [c]) with ⟨h1, h2⟩ | ⟨i, h1, h2, h3⟩
  · exact absurd at1 (h2 _)
  · have hi : i = p.length := by
      rcases Nat.lt_trichotomy i p.length with g | g | g
      · exact absurd at1 (h3 _ g)
      · exact g
      · exfalso
        have h4 := pre_one.mp ((at_S (by simp)).mp h2)
        have h5 : (p ++ c :: q)[i]? = some c := by rw [← h4, List.head?_drop]
        rw [List.getElem?_append_right (by omega)] at h5
        obtain ⟨k, hk⟩ : ∃ k, i - p.length = k + 1 := ⟨i - p.length - 1, by omega⟩
        rw [hk, List.getElem?_cons_succ] at h5
        exact h (List.mem_of_getElem? h5)
    rw [← hi]
    exact h1
def sp_default_path (K : PySem.W.Frag) : Sp := fun vs H Q _ => ∃ l : List Nat, vs = [.str (S l)] ∧ isPath l = true ∧ ∀ H', Same H H' → Q (.str (S (defaultPath l))) H'
theorem isPath_mem {l : List Nat} (h : isPath l = true) : 47 ∈ l := List.mem_of_head? (isPath_head h)
theorem ok_default_path (T : Txt K mg) : FnOk P w K mg base CX0 4 T.f_default_path T.d_default_path ["path"] (sp_default_path K) := by
  refine T.F_default_path.ok sc_default_path (fun vs H Q E h => ?_) (fun cdv A outer s H vs Q E hr h => ?_)
  · obtain ⟨l, rfl, _⟩ := h
    rfl
  · obtain ⟨l, rfl, hl, q⟩ := h
    have hlen := isPath_len hl
    obtain ⟨u, v, e, n⟩ := last_split (isPath_mem hl)
    have hd : dirOf l = u := by rw [e]; exact dirOf_at n
    refine ⟨_, (pss_cons (ps_expr (pe_call (ok_need_path T) (hr.mono (by decide)) (by rfl) T.g_need_path T.F_need_path.kp T.b_need_path .nil pass0 (pa_cons (pv 0) pa_nil)))
      (pss_one (ps_ret (pe_orT (pe_slice sl_str (pv 0) po_none (po_some (pe_bmS PySem.F.plainAttrs_str PySem.F.slot_str_rindex PySem.F.type_str_rindex (mt_rindexX rfl takes0) (pv 0) (pa_cons pe_str pa_nil)))) (pe_one pe_str))))), ?_⟩
    refine ⟨_, rfl, l, rfl, hl, fun H' s' => ?_⟩
    refine ⟨_, rfl, _, rfl, rfl, S l, S [47], rfl, congrArg (fun x => [V.str x]) slash, fun k hk => ?_, fun hk => ?_⟩
    · have hk2 : k = u.length := by
        rw [e, rindex_S n] at hk
        exact (Option.some.inj hk).symm
      subst hk2
      refine ⟨_, rfl, S l, rfl, szS (by omega), ?_⟩
      rw [cutS_S, cut_to]
      have ht : l.take u.length = u := by rw [e, List.take_left']; rfl
      rw [ht]
      have hu : u.length ≤ 100000 := by
        have := congrArg List.length e
        rw [List.length_append] at this
        omega
      refine ⟨((S u).length : Int) != 0, ⟨szS hu, rfl⟩, ?_⟩
      rw [S_len]
      have q1 := q H' s'
      unfold defaultPath at q1
      rw [hd] at q1
      cases u with
      | nil =>
        show Q (.str ("/" : Str)) H'
        rw [slash]
        exact q1
      | cons c r => exact q1
    · rw [e, rindex_S n] at hk
      cases hk

/-! ### s1_path_fits -/
def pathFits (p o : List Nat) : Bool := decide (p = o) || (o.isPrefixOf p && (o.getLast? == some 47 || decide ((p.drop o.length).take 1 = [47])))
def sp_s1_path_fits (K : PySem.W.Frag) : Sp := fun vs H Q _ => ∃ p o : List Nat, vs = [.str (S p), .str (S o)] ∧ p.length ≤ 100000 ∧ o.length ≤ 100000 ∧ o ≠ [] ∧ Q (.bl (pathFits p o)) H
theorem ok_s1_path_fits (T : Txt K mg) : FnOk P w K mg base CX0 1 T.f_s1_path_fits T.d_s1_path_fits ["path", "own"] (sp_s1_path_fits K) := by
  refine T.F_s1_path_fits.ok sc_s1_path_fits (fun vs H Q E h => ?_) (fun cdv A outer s H vs Q E hr h => ?_)
  · obtain ⟨p, o, rfl, _⟩ := h
    rfl
  · obtain ⟨p, o, rfl, hp, ho, hne, q⟩ := h
    refine ⟨_, (pss_one (ps_ret (pe_or (pe_cmpR op_eq (pv 0) (pv 1) (nomark _)) (pe_one (pe_and (pe_m1 PySem.F.slot_str_startswith PySem.F.type_str_startswith mt_startswith (pv 0) (pv 1)) (pe_one (pe_or (pe_cmpR op_eq (pe_ix ix_str (pv 1) (pe_un un_neg pe_int) (fun _ _ => rfl)) pe_str (nomark _)) (pe_one (pe_cmpR op_eq (pe_slice sl_str (pe_slice sl_str (pv 0) (po_some (pe_callB call_len_str (by rfl) T.n_len (by decide +kernel) (pa_cons (pv 1) pa_nil))) po_none) po_none (po_some pe_int)) pe_str (nomark _)))))))))), ?_⟩
    unfold pathFits at q
    refine ⟨_, rfl, _, rfl, rfl, _, rfl, ?_⟩
    rw [dS]
    refine if2 (fun h1 => ?_) (fun h1 => ?_)
    · rw [h1] at q
      exact q
    · rw [h1, Bool.false_or] at q
      refine ⟨_, rfl, ⟨_, rfl⟩, _, rfl, S p, S o, rfl, rfl, _, rfl, ?_⟩
      rw [startswith_S]
      refine if2 (fun h2 => ?_) (fun h2 => ?_)
      · rw [h2, Bool.true_and] at q
        have hl : o.getLast? = some (o.getLast hne) := List.getLast?_eq_some_getLast hne
        refine ⟨_, rfl, 1, rfl, S o, -1, o.getLast hne, rfl, rfl, szS ho, atI_neg1 hl, rfl, _, rfl, ?_⟩
        rw [slash, dS]
        rw [hl] at q
        refine if2 (fun h3 => ?_) (fun h3 => ?_)
        · have e3 : o.getLast hne = 47 := by simpa using h3
          rw [e3] at q
          exact q
        · have e3 : ¬ o.getLast hne = 47 := by simpa using h3
          have e4 : (some (o.getLast hne) == some 47) = false := by simpa using e3
          rw [e4, Bool.false_or] at q
          have e5 : cutS (S p) (some ((S o).length : Int)) none = S (p.drop o.length) := by rw [S_len, cutS_S, cut_from]
          refine ⟨_, rfl, _, rfl, S o, rfl, szS ho, _, rfl, S p, rfl, szS hp, 1, rfl, _, rfl, ?_, ?_⟩
          · rw [e5]
            exact szS (by rw [List.length_drop]; omega)
          · rw [e5, cutS_S, cut_t1]
            refine ⟨rfl, ?_⟩
            rw [dS]
            exact q
      · rw [h2, Bool.false_and] at q
        exact q

/-! ### path_fits -/
def sp_path_fits (K : PySem.W.Frag) : Sp := fun vs H Q _ => ∃ p o : List Nat, vs = [.str (S p), .str (S o)] ∧ isPath p = true ∧ isPath o = true ∧ ∀ H', Same H H' → Q (.bl (pathFits p o)) H'
theorem ok_path_fits (T : Txt K mg) : FnOk P w K mg base CX0 4 T.f_path_fits T.d_path_fits ["path", "own"] (sp_path_fits K) := by
  refine T.F_path_fits.ok sc_path_fits (fun vs H Q E h => ?_) (fun cdv A outer s H vs Q E hr h => ?_)
  · obtain ⟨p, o, rfl, _⟩ := h
    rfl
  · obtain ⟨p, o, rfl, hp, ho, q⟩ := h
    have lp := isPath_len hp
    have lo := isPath_len ho
    refine ⟨_, (pss_cons (ps_expr (pe_call (ok_need_path T) (hr.mono (by decide)) (by rfl) T.g_need_path T.F_need_path.kp T.b_need_path .nil pass0 (pa_cons (pv 0) pa_nil)))
      (pss_cons (ps_expr (pe_call (ok_need_path T) (hr.mono (by decide)) (by rfl) T.g_need_path T.F_need_path.kp T.b_need_path .nil pass0 (pa_cons (pv 1) pa_nil)))
      (pss_one (ps_ret (pe_call (ok_s1_path_fits T) (hr.mono (by decide)) (by rfl) T.g_s1_path_fits T.F_s1_path_fits.kp T.b_s1_path_fits .nil pass0 (pa_cons (pv 0) (pa_cons (pv 1) pa_nil))))))), ?_⟩
    refine ⟨_, rfl, p, rfl, hp, fun H1 s1 => ?_⟩
    refine ⟨_, rfl, o, rfl, ho, fun H2 s2 => ?_⟩
    exact ⟨_, rfl, _, rfl, p, o, rfl, by omega, by omega, fun z => by rw [z] at lo; exact absurd lo.1 (by decide), q H2 (s1.trans s2)⟩

/-! ### _law_mixed -/
def sp__law_mixed (K : PySem.W.Frag) : Sp := fun vs H Q _ => ∃ c k : Int, vs = [.int c, .int k] ∧ 0 ≤ k ∧ k ≤ 1000000000000 ∧ ∀ H' i, Same H H' → Q (.int i) H'
theorem ok__law_mixed (T : Txt K mg) : FnOk P w K mg base CX0 1 T.f__law_mixed T.d__law_mixed ["_law_cell", "_law_k"] (sp__law_mixed K) := by
  refine T.F__law_mixed.ok sc__law_mixed (fun vs H Q E h => ?_) (fun cdv A outer s H vs Q E hr h => ?_)
  · obtain ⟨c, k, rfl, _⟩ := h
    rfl
  · obtain ⟨c, k, rfl, h0, h1, q⟩ := h
    refine ⟨_, (pss_cons (ps_set (i := 2) sc__law_mixed.nd rfl (.inl rfl) (pe_op op_add (pe_op op_add (pe_op op_modN (pe_callTy call_int1 (by rfl) T.n_int (by decide +kernel) (pa_cons (pv 0) pa_nil)) (pe_ix ix_list (pe_lst (pa_cons pe_int (pa_cons pe_int (pa_cons pe_int (pa_cons pe_int pa_nil))))) (pe_op op_modN (pe_callTy call_int1 (by rfl) T.n_int (by decide +kernel) (pa_cons (pv 1) pa_nil)) pe_int) (fun _ _ => rfl))) (pe_op op_mul pe_int (pv 1))) pe_int))
      (pss_one (ps_ret (pe_op op_modN (pe_callTy call_int1 (by rfl) T.n_int (by decide +kernel) (pa_cons (pe_op op_mul (pe_op op_modN (pe_callTy call_int1 (by rfl) T.n_int (by decide +kernel) (pa_cons (pe_op op_mul (pv 2) (pv 2)) pa_nil)) pe_int) pe_int) pa_nil)) pe_int)))), ?_⟩
    refine ⟨_, rfl, .inl ⟨c, rfl, ?_⟩⟩
    refine ⟨by show 4 ≤ sizeLine; decide, fun p hp => ?_⟩
    refine ⟨_, rfl, .inl ⟨k, rfl, k, 4, rfl, rfl, (by show (4 : Int) ≠ 0; decide), ?_⟩⟩
    have m0 : 0 ≤ k.fmod 4 := Int.fmod_nonneg_of_pos k (by decide)
    have m1 : k.fmod 4 < 4 := Int.fmod_lt_of_pos k (by decide)
    obtain ⟨v, hv, mv⟩ := at_some (xs := [V.int 1000000007, .int 998244353, .int 2147483629, .int 1000000009]) m0 m1
    obtain ⟨m, rfl, hm0, hm1⟩ : ∃ m : Int, v = .int m ∧ 0 < m ∧ m ≤ 2147483629 := by
      rcases List.mem_cons.mp mv with rfl | mv
      · exact ⟨_, rfl, by decide, by decide⟩
      rcases List.mem_cons.mp mv with rfl | mv
      · exact ⟨_, rfl, by decide, by decide⟩
      rcases List.mem_cons.mp mv with rfl | mv
      · exact ⟨_, rfl, by decide, by decide⟩
      rcases List.mem_cons.mp mv with rfl | mv
      · exact ⟨_, rfl, by decide, by decide⟩
      cases mv
    refine ⟨p, _, _, _, rfl, rfl, SqL.of upd_same, hv, c, m, rfl, rfl, by omega, ?_⟩
    have r0 : 0 ≤ c.fmod m := Int.fmod_nonneg_of_pos c hm0
    have r1 : c.fmod m < m := Int.fmod_lt_of_pos c hm0
    refine ⟨_, rfl, 7919, k, rfl, rfl, .inl ⟨by decide, by decide⟩, _, _, rfl, rfl, _, _, rfl, rfl, ?_⟩
    refine ⟨_, rfl, _, rfl, _, _, rfl, rfl, .inl ⟨by omega, by omega⟩, .inl ⟨_, rfl, _, 2147483647, rfl, rfl, (by show (2147483647 : Int) ≠ 0; decide), ?_⟩⟩
    refine ⟨_, 48271, rfl, rfl, .inr ⟨by decide, by decide⟩, .inl ⟨_, rfl, _, 2147483647, rfl, rfl, (by show (2147483647 : Int) ≠ 0; decide), ?_⟩⟩
    exact q _ _ (same_upd hp)

/-! ### _law_draw -/
def drK (l c t : Int) : List (Key × V) := [(.inr ("left" : Str), .int l), (.inr ("cell" : Str), .int c), (.inr ("turns" : Str), .int t)]
theorem get_left (l c t : Int) : valV (drK l c t) (.inr ("left" : Str)) = some (.int l) := valV_pos rfl
theorem lc_ne : ¬ (Sum.inr ("left" : Str) : Key) = .inr ("cell" : Str) := by decide +kernel
theorem lt_ne : ¬ (Sum.inr ("left" : Str) : Key) = .inr ("turns" : Str) := by decide +kernel
theorem ct_ne : ¬ (Sum.inr ("cell" : Str) : Key) = .inr ("turns" : Str) := by decide +kernel
theorem get_cell (l c t : Int) : valV (drK l c t) (.inr ("cell" : Str)) = some (.int c) := by
  unfold drK
  rw [valV_neg lc_ne, valV_pos rfl]
theorem get_turns (l c t : Int) : valV (drK l c t) (.inr ("turns" : Str)) = some (.int t) := by
  unfold drK
  rw [valV_neg lt_ne, valV_neg ct_ne, valV_pos rfl]
theorem put_map {kvs : List (Key × V)} {k : Key} {y : V} (v : V) (h : valV kvs k = some y) : putK kvs k v = kvs.map (fun kv => if kv.1 = k then (kv.1, v) else kv) := by
  unfold putK
  rw [valV_any, h]
  exact if_pos rfl
theorem put_left (l c t x : Int) : putK (drK l c t) (.inr ("left" : Str)) (.int x) = drK x c t := by
  have h1 : ¬ (Sum.inr ("cell" : Str) : Key) = .inr ("left" : Str) := fun z => lc_ne z.symm
  have h2 : ¬ (Sum.inr ("turns" : Str) : Key) = .inr ("left" : Str) := fun z => lt_ne z.symm
  rw [put_map _ (get_left l c t)]
  unfold drK
  rw [List.map_cons, List.map_cons, List.map_cons, if_pos rfl, if_neg h1, if_neg h2]
  rfl
theorem put_turns (l c t x : Int) : putK (drK l c t) (.inr ("turns" : Str)) (.int x) = drK l c x := by
  rw [put_map _ (get_turns l c t)]
  unfold drK
  rw [List.map_cons, List.map_cons, List.map_cons, if_neg lt_ne, if_neg ct_ne, if_pos rfl]
  rfl
theorem valV_out {k : Key} : ∀ {kvs : List (Key × V)}, k ∉ kvs.map (·.1) → valV kvs k = none
  | [], _ => rfl
  | p :: r, h => by
    rw [List.map_cons, List.mem_cons, not_or] at h
    rw [valV_neg fun z => h.1 z.symm]
    exact valV_out h.2
theorem merge_new : ∀ {kvs acc : List (Key × V)}, ((acc ++ kvs).map (·.1)).Nodup → mergeK acc kvs = acc ++ kvs
  | [], acc, _ => (List.append_nil acc).symm
  | p :: r, acc, h => by
    show mergeK (putK acc p.1 p.2) r = _
    have h1 : p.1 ∉ acc.map (·.1) := fun m => by
      rw [List.map_append, List.nodup_append] at h
      exact h.2.2 _ m _ (by simp) rfl
    rw [putK_new p.2 (valV_out h1)]
    have h2 : acc ++ p :: r = (acc ++ [p]) ++ r := by simp
    rw [h2] at h ⊢
    exact merge_new h
theorem Dr.mk {d : Addr} {n : Nat} {H : Hp} {l c t : Int} (h : H d = some (.dK (drK l c t))) (h0 : 0 ≤ t) (h1 : t ≤ n) : Dr d n H := ⟨l, c, t, h, h0, h1⟩
def sp__law_draw (K : PySem.W.Frag) : Sp := fun vs H Q _ => ∃ c k : Int, vs = [.int c, .int k] ∧ 0 ≤ k ∧ k ≤ 100 ∧ ∀ H' d, Same H H' → H d = none → Dr d 100000 H' → Q (.ref d) H'
theorem merge_dr (l c t : Int) : mergeK [] (drK l c t) = drK l c t := by
  refine merge_new (acc := []) ?_
  show ([Sum.inr ("left" : Str), .inr ("cell" : Str), .inr ("turns" : Str)] : List Key).Nodup
  decide +kernel
theorem ok__law_draw (T : Txt K mg) : FnOk P w K mg base CX0 1 T.f__law_draw T.d__law_draw ["_law_cell", "_law_k"] (sp__law_draw K) := by
  refine T.F__law_draw.ok sc__law_draw (fun vs H Q E h => ?_) (fun cdv A outer s H vs Q E hr h => ?_)
  · obtain ⟨c, k, rfl, _⟩ := h
    rfl
  · obtain ⟨c, k, rfl, h0, h1, q⟩ := h
    refine ⟨_, (pss_one (ps_ret (pe_disp (pps_cons pe_str (pe_ifExp (pt_cmpR op_ge (pv 0) (pe_op op_pow pe_int pe_int) (nomark _)) (pv 0) pe_int) (pps_cons pe_str (pv 0) (pps_cons pe_str (pe_op op_mul pe_int (pv 1)) pps_nil))) (by rfl) (by rfl) (fun z => by cases z) (by decide)))), ?_⟩
    refine fun p hp => ?_
    have fin : ∀ l : Int, Q (.ref p) (upd (upd H p (.dK [])) p (.dK (mergeK [] (drK l c (1000 * k))))) := fun l => by
      rw [merge_dr, upd_upd]
      exact q _ p (same_upd hp) hp (Dr.mk upd_same (by omega) (by omega))
    refine ⟨_, rfl, 10, 18, rfl, rfl, ⟨by decide, by decide, by decide⟩, c, _, rfl, rfl, _, rfl, ?_⟩
    refine if2 (fun _ => ?_) (fun _ => ?_)
    · exact ⟨_, rfl, _, rfl, _, rfl, 1000, k, rfl, rfl, .inl ⟨by decide, by decide⟩, upd_same, drK c c (1000 * k), rfl, (by show 3 ≤ 15; decide), fin c⟩
    · exact ⟨_, rfl, _, rfl, 1000, k, rfl, rfl, .inl ⟨by decide, by decide⟩, upd_same, drK 0 c (1000 * k), rfl, (by show 3 ≤ 15; decide), fin 0⟩

/-! ### _law_digit -/
theorem dgetD {H : Hp} {a : Addr} {kvs : List (Key × V)} {k : Key} {v : V} (e : H a = some (.dK kvs)) (g : valV kvs k = some v) : DGet H a (kV k) (some v) := g ▸ DGet.k e
theorem dr_len (l c t : Int) : (drK l c t).length < sizeLine := by show 3 < sizeLine; decide
theorem Sx.upd {d : Addr} {H H' : Hp} {o : HO} (e : Sx d H H') : Sx d H (upd H' d o) := fun b x n h => by
  rw [upd_ne n]
  exact e b x n h
def sp__law_digit (K : PySem.W.Frag) : Sp := fun vs H Q _ => ∃ (d : Addr) (n : Nat) (m : Int), vs = [.ref d, .int m] ∧ 0 < m ∧ m < 1000000000 ∧ n ≤ 100000000 ∧ Dr d n H ∧ ∀ H' i, Sx d H H' → Dr d (n + 4) H' → 0 ≤ i → i < m → Q (.int i) H'
theorem ok__law_digit (T : Txt K mg) : FnOk P w K mg base CX0 2 T.f__law_digit T.d__law_digit ["_law_draw_here", "_law_span"] (sp__law_digit K) := by
  refine T.F__law_digit.ok sc__law_digit (fun vs H Q E h => ?_) (fun cdv A outer s H vs Q E hr h => ?_)
  · obtain ⟨d, n, m, rfl, _⟩ := h
    rfl
  · obtain ⟨d, n, m, rfl, hm, hm2, hn, ⟨l0, c0, t0, hd0, ht0, ht1⟩, q⟩ := h
    have hd0 : H d = some (.dK (drK l0 c0 t0)) := hd0
    refine ⟨_, (C8.pss_cut (ps_if (pt_cmpR op_eq (pe_dget (hu_of hr) (pv 0) pe_str (fun _ _ => rfl)) pe_int (nomark _))
      (pss_one (ps_for PassesOwn.never rfl (pi_range1 (by rfl) T.n_range (pa_cons pe_int pa_nil)) (pg_name (i := 2) sc__law_digit.nd rfl (.inl rfl))
      (pss_cons (ps_dput (hu_of hr) (pv 0) pe_str (pe_op op_add (pe_dget (hu_of hr) (pv 0) pe_str (fun _ _ => rfl)) pe_int) rfl)
      (pss_one (ps_dput (hu_of hr) (pv 0) pe_str (pe_op op_add (pe_op op_mul (pe_dget (hu_of hr) (pv 0) pe_str (fun _ _ => rfl)) pe_int) (pe_call (ok__law_mixed T) (hr.mono (by decide)) (by rfl) T.g__law_mixed T.F__law_mixed.kp T.b__law_mixed .nil pass0 (pa_cons (pe_dget (hu_of hr) (pv 0) pe_str (fun _ _ => rfl)) (pa_cons (pe_dget (hu_of hr) (pv 0) pe_str (fun _ _ => rfl)) pa_nil)))) rfl)))))
      pss_nil)
      (pss_cons (ps_set (i := 3) sc__law_digit.nd rfl (.inl rfl) (pe_op op_modN (pe_callTy call_int1 (by rfl) T.n_int (by decide +kernel) (pa_cons (pe_dget (hu_of hr) (pv 0) pe_str (fun _ _ => rfl)) pa_nil)) (pv 1)))
      (pss_cons (ps_dput (hu_of hr) (pv 0) pe_str (pe_op op_fdivN (pe_callTy call_int1 (by rfl) T.n_int (by decide +kernel) (pa_cons (pe_dget (hu_of hr) (pv 0) pe_str (fun _ _ => rfl)) pa_nil)) (pv 1)) rfl)
      (pss_one (ps_ret (pv 3)))))), ?_⟩
    refine ⟨fun σ H' => ∃ y2 l t, σ = [some (.ref d), some (.int m), y2, none] ∧ Sx d H H' ∧ H' d = some (.dK (drK l c0 t)) ∧ 0 ≤ t ∧ t ≤ (n + 4 : Nat), ?_, ?_⟩
    · refine ⟨_, rfl, d, _, rfl, dgetD hd0 (get_left l0 c0 t0), rfl, _, rfl, ?_⟩
      refine if2 (fun _ => ?_) (fun _ => ?_)
      · refine ⟨4, rfl, by decide, by decide, for_range (lo := 0) (n := 4) (fun i σ H' => ∃ y2 l t, σ = [some (.ref d), some (.int m), y2, none] ∧ Sx d H H' ∧ H' d = some (.dK (drK l c0 t)) ∧ 0 ≤ t ∧ t ≤ (n + i : Nat)) ?_ ?_ ?_⟩
        · exact ⟨none, l0, t0, rfl, Sx.refl d H, hd0, ht0, by omega⟩
        · rintro i σ H1 hi ⟨y2, l, t, rfl, s1, hd1, h0, h1⟩
          -- turns + 1
          refine ⟨_, rfl, d, _, rfl, dgetD hd1 (get_turns l c0 t), _, _, rfl, rfl, _, rfl, d, _, rfl, DPut.k (k := .inr ("turns" : Str)) hd1 (dr_len _ _ _), ?_⟩
          rw [put_turns]
          have hd2 : upd H1 d (.dK (drK l c0 (t + 1))) d = some (.dK (drK l c0 (t + 1))) := upd_same
          refine ⟨_, rfl, d, _, rfl, dgetD hd2 (get_left _ _ _), _, _, rfl, rfl, .inr ⟨by decide, by decide⟩, ?_⟩
          refine ⟨_, rfl, d, _, rfl, dgetD hd2 (get_cell _ _ _), _, rfl, d, _, rfl, dgetD hd2 (get_turns _ _ _), c0, t + 1, rfl, by omega, by omega, fun H3 i3 s3 => ?_⟩
          have hd3 := s3 _ _ hd2
          refine ⟨_, _, rfl, rfl, _, rfl, d, _, rfl, DPut.k (k := .inr ("left" : Str)) hd3 (dr_len _ _ _), ?_⟩
          rw [put_left]
          exact ⟨_, _, t + 1, rfl, ((s1.upd).trans (Sx.of s3)).upd, upd_same, by omega, by omega⟩
        · rintro σ H1 ⟨y2, l, t, rfl, s1, hd1, h0, h1⟩
          exact ⟨y2, l, t, rfl, s1, hd1, h0, h1⟩
      · exact ⟨none, l0, t0, rfl, Sx.refl d H, hd0, ht0, by omega⟩
    · rintro σ H1 ⟨y2, l, t, rfl, s1, hd1, h0, h1⟩
      have r0 : 0 ≤ l.fmod m := Int.fmod_nonneg_of_pos l hm
      have r1 : l.fmod m < m := Int.fmod_lt_of_pos l hm
      refine ⟨_, rfl, d, _, rfl, dgetD hd1 (get_left _ _ _), .inl ⟨l, rfl, _, rfl, l, m, rfl, rfl, by omega, ?_⟩⟩
      refine ⟨_, rfl, d, _, rfl, dgetD hd1 (get_left _ _ _), .inl ⟨l, rfl, _, rfl, l, m, rfl, rfl, ⟨by omega, by omega⟩, ?_⟩⟩
      refine ⟨_, rfl, d, _, rfl, DPut.k (k := .inr ("left" : Str)) hd1 (dr_len _ _ _), ?_⟩
      rw [put_left]
      exact ⟨_, rfl, q _ _ s1.upd (Dr.mk upd_same h0 (by omega)) r0 r1⟩
/-- a written text at a drawn place -/
theorem pickS {ws : List Str} {ta : TA} {m : Int} {σ : L2.St} {H : Hp} {Q : VK} {d : Addr} {n i : Nat} (hv : ∀ (σ : L2.St) (H : Hp) (Q : List V → Hp → Prop), Q (ws.map V.str) H → ta σ H Q) (hl : (ws.length : Int) = m)
    (hi : σ[i]? = some (some (.ref d))) (h0 : 0 < m) (h1 : m ≤ 1000) (hn : n ≤ 100000000) (hD : Dr d n H) (q : ∀ H' x, Sx d H H' → Dr d (n + 4) H' → x ∈ ws → Q (.str x) H') :
    tOp (rIxL K) (tLst ta) (tCall (sp__law_digit K) [] E0 (tCons (tVar i) (tCons (tC (.int m)) tNil))) σ H Q := by
  have hs : (ws.map V.str).length = ws.length := by rw [List.length_map]
  refine hv σ H _ ⟨sz (by omega), fun p hp => ?_⟩
  refine ⟨_, hi, d, n, m, rfl, h0, by omega, hn, hD.same (same_upd hp), fun H' k s' D' k0 k1 => ?_⟩
  obtain ⟨v, hv, mv⟩ := at_some (xs := ws.map V.str) k0 (by rw [hs, hl]; exact k1)
  obtain ⟨x, mx, rfl⟩ := List.mem_map.mp mv
  have np : p ≠ d := hD.ne hp
  exact ⟨p, _, k, _, rfl, rfl, SqL.of (s' _ _ np upd_same), hv, q H' x ((Sx.of (same_upd hp)).trans s') D' mx⟩

/-! ### _law_path -/
structure PathL (l : List Nat) (k : Nat) : Prop where
  hd : l.head? = some 47
  all : l.all pathSign = true
  len : l.length ≤ k
theorem PathL.ok {l : List Nat} {k : Nat} (h : PathL l k) (hk : k ≤ 200) : isPath l = true := by
  have h1 : 1 ≤ l.length := by
    cases l with
    | nil => exact absurd h.hd (by simp)
    | cons c r => simp
  unfold isPath
  rw [decide_eq_true ⟨h1, Nat.le_trans h.len hk⟩, h.all, h.hd]
  rfl
theorem PathL.more {l : List Nat} {k j : Nat} {x : Str} (h : PathL l k) (hx : (x.cps.toList.all pathSign && decide (x.cps.toList.length ≤ j)) = true) : PathL (l ++ x.cps.toList) (k + j) := by
  rw [Bool.and_eq_true, decide_eq_true_eq] at hx
  refine ⟨?_, ?_, ?_⟩
  · rw [List.head?_append, h.hd]
    rfl
  · rw [List.all_append, h.all, hx.1]
    rfl
  · rw [List.length_append]
    have := h.len
    omega
theorem w1_ok : ∀ x ∈ (["a", "ab", "b", "", "a.b"] : List Str), (x.cps.toList.all pathSign && decide (x.cps.toList.length ≤ 3)) = true := by decide +kernel
theorem w2_ok : ∀ x ∈ (["/", "/", "", "//"] : List Str), (x.cps.toList.all pathSign && decide (x.cps.toList.length ≤ 2)) = true := by decide +kernel
theorem path0 : PathL [47] 1 := ⟨rfl, by decide +kernel, by decide⟩
theorem S_app (l : List Nat) (x : Str) : S l ++ x = S (l ++ x.cps.toList) := by
  conv => lhs; rw [← SX.S_tl x]
  exact S_cat _ _
def sp__law_path (K : PySem.W.Frag) : Sp := fun vs H Q _ => ∃ (d : Addr) (n : Nat), vs = [.ref d] ∧ n ≤ 90000000 ∧ Dr d n H ∧ ∀ H' l, Sx d H H' → Dr d (n + 50) H' → PathL l 30 → Q (.str (S l)) H'
theorem ok__law_path (T : Txt K mg) : FnOk P w K mg base CX0 3 T.f__law_path T.d__law_path ["_law_draw_here"] (sp__law_path K) := by
  refine T.F__law_path.ok sc__law_path (fun vs H Q E h => ?_) (fun cdv A outer s H vs Q E hr h => ?_)
  · obtain ⟨d, n, rfl, _⟩ := h
    rfl
  · obtain ⟨d, n, rfl, hn, hD, q⟩ := h
    refine ⟨_, (pss_cons (ps_set (i := 1) sc__law_path.nd rfl (.inl rfl) pe_str)
      (pss_cons (ps_for PassesOwn.never rfl (pi_range1 (by rfl) T.n_range (pa_cons (pe_call (ok__law_digit T) (hr.mono (by decide)) (by rfl) T.g__law_digit T.F__law_digit.kp T.b__law_digit .nil pass0 (pa_cons (pv 0) (pa_cons pe_int pa_nil))) pa_nil)) (pg_name (i := 2) sc__law_path.nd rfl (.inl rfl))
      (pss_one (ps_set (i := 1) sc__law_path.nd rfl (.inl rfl) (pe_op op_add_str (pe_op op_add_str (pv 1) (pe_ix ix_list (pe_lst (pa_cons pe_str (pa_cons pe_str (pa_cons pe_str (pa_cons pe_str (pa_cons pe_str pa_nil)))))) (pe_call (ok__law_digit T) (hr.mono (by decide)) (by rfl) T.g__law_digit T.F__law_digit.kp T.b__law_digit .nil pass0 (pa_cons (pv 0) (pa_cons pe_int pa_nil))) (fun _ _ => rfl))) (pe_ix ix_list (pe_lst (pa_cons pe_str (pa_cons pe_str (pa_cons pe_str (pa_cons pe_str pa_nil))))) (pe_call (ok__law_digit T) (hr.mono (by decide)) (by rfl) T.g__law_digit T.F__law_digit.kp T.b__law_digit .nil pass0 (pa_cons (pv 0) (pa_cons pe_int pa_nil))) (fun _ _ => rfl))))))
      (pss_one (ps_ret (pv 1))))), ?_⟩
    refine ⟨_, rfl, d, n, 5, rfl, by decide, by decide, by omega, hD, fun H1 i s1 D1 i0 i1 => ?_⟩
    refine ⟨i, rfl, by omega, by omega, for_range (lo := 0) (n := i.toNat) (fun k σ H' => ∃ y2 l, σ = [some (.ref d), some (.str (S l)), y2] ∧ Sx d H H' ∧ Dr d (n + 4 + 8 * k) H' ∧ PathL l (1 + 5 * k)) ?_ ?_ ?_⟩
    · exact ⟨none, [47], by rw [← slash]; rfl, s1, D1, path0⟩
    · rintro k σ H2 hk ⟨y2, l, rfl, s2, D2, hl⟩
      have hll := hl.len
      refine ⟨_, rfl, ?_⟩
      refine pickS (ws := ["a", "ab", "b", "", "a.b"]) (fun _ _ _ q => q) rfl rfl (by decide) (by decide) (by omega) D2 (fun H3 x s3 D3 hx => ?_)
      have hx := w1_ok x hx
      have hx3 : x.cps.toList.length ≤ 3 := by
        rw [Bool.and_eq_true, decide_eq_true_eq] at hx
        exact hx.2
      have l1 := hl.more hx
      refine ⟨S l, x, rfl, rfl, ?_, ?_⟩
      · rw [S_len]
        exact sz (by rw [← SX.S_tl x, S_len]; omega)
      rw [S_app]
      refine pickS (ws := ["/", "/", "", "//"]) (fun _ _ _ q => q) rfl rfl (by decide) (by decide) (by omega) D3 (fun H4 y s4 D4 hy => ?_)
      have hy := w2_ok y hy
      have hy3 : y.cps.toList.length ≤ 2 := by
        rw [Bool.and_eq_true, decide_eq_true_eq] at hy
        exact hy.2
      refine ⟨_, y, rfl, rfl, ?_, ?_⟩
      · rw [S_len]
        have := l1.len
        exact sz (by rw [← SX.S_tl y, S_len]; omega)
      rw [S_app]
      exact ⟨_, _, rfl, (s2.trans s3).trans s4, D4.mono (by omega), by have := l1.more hy; exact ⟨this.hd, this.all, by have := this.len; omega⟩⟩
    · rintro σ H2 ⟨y2, l, rfl, s2, D2, hl⟩
      exact ⟨_, rfl, q H2 l s2 (D2.mono (by omega)) ⟨hl.hd, hl.all, by have := hl.len; omega⟩⟩

/-! ### _law_pair -/
theorem PathL.mono {l : List Nat} {k j : Nat} (h : PathL l k) (e : k ≤ j) : PathL l j := ⟨h.hd, h.all, Nat.le_trans h.len e⟩
theorem PathL.take {l : List Nat} {k : Nat} (h : PathL l k) (j : Nat) : PathL (l.take (j + 1)) k := by
  refine ⟨?_, ?_, ?_⟩
  · rw [List.head?_take, if_neg (by omega)]
    exact h.hd
  · rw [List.all_eq_true]
    intro x hx
    exact List.all_eq_true.mp h.all x (List.mem_of_mem_take hx)
  · rw [List.length_take]
    have := h.len
    omega
theorem w3_ok : ∀ x ∈ (["a", "/", "/a", "b/"] : List Str), (x.cps.toList.all pathSign && decide (x.cps.toList.length ≤ 2)) = true := by decide +kernel
def sp__law_pair (K : PySem.W.Frag) : Sp := fun vs H Q _ => ∃ (d : Addr) (n : Nat), vs = [.ref d] ∧ n ≤ 80000000 ∧ Dr d n H ∧ ∀ H' p a b, Sx d H H' → Dr d (n + 200) H' → H' p = some (.tup [vS a, vS b]) → PathL a 40 → PathL b 40 → Q (.ref p) H'
theorem ok__law_pair (T : Txt K mg) : FnOk P w K mg base CX0 4 T.f__law_pair T.d__law_pair ["_law_draw_here"] (sp__law_pair K) := by
  refine T.F__law_pair.ok sc__law_pair (fun vs H Q E h => ?_) (fun cdv A outer s H vs Q E hr h => ?_)
  · obtain ⟨d, n, rfl, _⟩ := h
    rfl
  · obtain ⟨d, n, rfl, hn, hD, q⟩ := h
    refine ⟨_, (pss_cons (ps_set (i := 1) sc__law_pair.nd rfl (.inl rfl) (pe_call (ok__law_path T) (hr.mono (by decide)) (by rfl) T.g__law_path T.F__law_path.kp T.b__law_path .nil pass0 (pa_cons (pv 0) pa_nil)))
      (pss_cons (ps_set (i := 2) sc__law_pair.nd rfl (.inl rfl) (pe_call (ok__law_digit T) (hr.mono (by decide)) (by rfl) T.g__law_digit T.F__law_digit.kp T.b__law_digit .nil pass0 (pa_cons (pv 0) (pa_cons pe_int pa_nil))))
      (pss_cons (ps_if (pt_cmpR op_eq (pv 2) pe_int (nomark _))
      (pss_one (ps_ret (pe_tup (pa_cons (pv 1) (pa_cons (pe_call (ok__law_path T) (hr.mono (by decide)) (by rfl) T.g__law_path T.F__law_path.kp T.b__law_path .nil pass0 (pa_cons (pv 0) pa_nil)) pa_nil)))))
      pss_nil)
      (pss_cons (ps_if (pt_cmpR op_eq (pv 2) pe_int (nomark _))
      (pss_one (ps_ret (pe_tup (pa_cons (pe_op op_add_str (pv 1) (pe_ix ix_list (pe_lst (pa_cons pe_str (pa_cons pe_str (pa_cons pe_str (pa_cons pe_str pa_nil))))) (pe_call (ok__law_digit T) (hr.mono (by decide)) (by rfl) T.g__law_digit T.F__law_digit.kp T.b__law_digit .nil pass0 (pa_cons (pv 0) (pa_cons pe_int pa_nil))) (fun _ _ => rfl))) (pa_cons (pv 1) pa_nil)))))
      pss_nil)
      (pss_cons (ps_if (pt_cmpR op_eq (pv 2) pe_int (nomark _))
      (pss_one (ps_ret (pe_tup (pa_cons (pv 1) (pa_cons (pv 1) pa_nil)))))
      pss_nil)
      (pss_one (ps_ret (pe_tup (pa_cons (pv 1) (pa_cons (pe_slice sl_str (pv 1) po_none (po_some (pe_op op_add pe_int (pe_call (ok__law_digit T) (hr.mono (by decide)) (by rfl) T.g__law_digit T.F__law_digit.kp T.b__law_digit .nil pass0 (pa_cons (pv 0) (pa_cons (pe_callB call_len_str (by rfl) T.n_len (by decide +kernel) (pa_cons (pv 1) pa_nil)) pa_nil)))))) pa_nil)))))))))), ?_⟩
    refine ⟨_, rfl, d, n, rfl, by omega, hD, fun H1 a s1 D1 ha => ?_⟩
    have hal := ha.len
    refine ⟨_, rfl, d, _, 5, rfl, by decide, by decide, by omega, D1, fun H2 i s2 D2 i0 i1 => ?_⟩
    have fin : ∀ H' x y, Sx d H H' → Dr d (n + 180) H' → PathL x 40 → PathL y 40 → ([vS x, vS y] : List V).length ≤ sizeLine ∧ ∀ p, H' p = none → Q (.ref p) (upd H' p (.tup [vS x, vS y])) := fun H' x y s' D' hx hy =>
      ⟨by show 2 ≤ sizeLine; decide, fun p hp => q _ p x y (s'.trans (Sx.of (same_upd hp))) ((D'.same (same_upd hp)).mono (by omega)) upd_same hx hy⟩
    refine ⟨_, rfl, rfl, _, rfl, ?_⟩
    refine if2 (fun _ => ?_) (fun _ => ?_)
    · exact ⟨_, rfl, _, rfl, d, _, rfl, by omega, D2, fun H3 b s3 D3 hb => fin H3 a b ((s1.trans s2).trans s3) (D3.mono (by omega)) (ha.mono (by decide)) (hb.mono (by decide))⟩
    refine ⟨_, rfl, rfl, _, rfl, ?_⟩
    refine if2 (fun _ => ?_) (fun _ => ?_)
    · refine ⟨_, rfl, ?_⟩
      refine pickS (ws := ["a", "/", "/a", "b/"]) (fun _ _ _ q => q) rfl rfl (by decide) (by decide) (by omega) D2 (fun H3 x s3 D3 hx => ?_)
      have hx := w3_ok x hx
      have hx3 : x.cps.toList.length ≤ 2 := by
        rw [Bool.and_eq_true, decide_eq_true_eq] at hx
        exact hx.2
      refine ⟨S a, x, rfl, rfl, ?_, ?_⟩
      · rw [S_len]
        exact sz (by rw [← SX.S_tl x, S_len]; omega)
      rw [S_app]
      exact ⟨_, rfl, fin H3 _ a ((s1.trans s2).trans s3) (D3.mono (by omega)) ((ha.more hx).mono (by decide)) (ha.mono (by decide))⟩
    refine ⟨_, rfl, rfl, _, rfl, ?_⟩
    refine if2 (fun _ => ?_) (fun _ => ?_)
    · exact ⟨_, rfl, _, rfl, fin H2 a a (s1.trans s2) (D2.mono (by omega)) (ha.mono (by decide)) (ha.mono (by decide))⟩
    have h1 : 1 ≤ a.length := (isPath_len (ha.ok (by decide))).1
    refine ⟨_, rfl, _, rfl, _, rfl, _, rfl, S a, rfl, szS (by omega), d, _, _, rfl, by rw [S_len]; omega, by rw [S_len]; omega, by omega, D2, fun H3 j s3 D3 j0 j1 => ?_⟩
    refine ⟨1, j, rfl, rfl, _, rfl, S a, rfl, szS (by omega), ?_⟩
    have ej : (1 : Int) + j = ((j.toNat + 1 : Nat) : Int) := by omega
    rw [ej, cutS_S, cut_to]
    exact fin H3 a _ ((s1.trans s2).trans s3) (D3.mono (by omega)) (ha.mono (by decide)) ((ha.take _).mono (by decide))

/-! ### _law_due -/
theorem pathSign_asc {c : Nat} (h : pathSign c = true) : c < 128 := by
  have h1 : ∀ c ∈ cs_PATH_SIGNS.cps.toList, c < 128 := by decide +kernel
  exact h1 c (of_decide_eq_true h)
theorem isPath_asc {l : List Nat} (h : isPath l = true) : Asc l := fun c hc => by
  unfold isPath at h
  rw [Bool.and_eq_true, Bool.and_eq_true] at h
  exact pathSign_asc (List.all_eq_true.mp h.2 c hc)
def lawDue (p o : List Nat) : Bool :=
  if p = o then true else
  if o.getLast? = some 47 then decide ((parts 47 p).length ≥ (parts 47 o).length) && decide ((parts 47 p).take ((parts 47 o).length - 1) = (parts 47 o).dropLast)
  else decide ((parts 47 p).length > (parts 47 o).length) && decide ((parts 47 p).take (parts 47 o).length = parts 47 o)
def sp__law_due (K : PySem.W.Frag) : Sp := fun vs H Q _ => ∃ p o : List Nat, vs = [vS p, vS o] ∧ isPath p = true ∧ isPath o = true ∧ ∀ H', Same H H' → Q (.bl (lawDue p o)) H'
theorem ok__law_due (T : Txt K mg) : FnOk P w K mg base CX0 1 T.f__law_due T.d__law_due ["_law_path_here", "_law_own"] (sp__law_due K) := by
  refine T.F__law_due.ok sc__law_due (fun vs H Q E h => ?_) (fun cdv A outer s H vs Q E hr h => ?_)
  · obtain ⟨p, o, rfl, _⟩ := h
    rfl
  · obtain ⟨p, o, rfl, hp, ho, q⟩ := h
    have lp := isPath_len hp
    have lo := isPath_len ho
    have ap := parts_asc 47 (isPath_asc hp)
    have ao := parts_asc 47 (isPath_asc ho)
    refine ⟨_, (pss_cons (ps_if (pt_cmpR op_eq (pv 0) (pv 1) (nomark _))
      (pss_one (ps_ret pe_bl))
      pss_nil)
      (pss_cons (ps_par (by rfl) sc__law_due.nd (i := 2) (j := 3) rfl rfl (by decide) rfl rfl (pa_cons (pe_split (pv 0) pe_str) (pa_cons (pe_split (pv 1) pe_str) pa_nil)) (by rfl))
      (pss_cons (ps_if (pt_cmpR op_eq (pe_ix ix_str (pv 1) (pe_un un_neg pe_int) (fun _ _ => rfl)) pe_str (nomark _))
      (pss_one (ps_ret (pe_and (pe_cmpR op_ge (pe_callB call_len_seq (by rfl) T.n_len (by decide +kernel) (pa_cons (pv 2) pa_nil)) (pe_callB call_len_seq (by rfl) T.n_len (by decide +kernel) (pa_cons (pv 3) pa_nil)) (nomark _)) (pe_one (pe_cmpR (op_eqD hr.units) (pe_slice sl_list (pv 2) po_none (po_some (pe_op op_sub (pe_callB call_len_seq (by rfl) T.n_len (by decide +kernel) (pa_cons (pv 3) pa_nil)) pe_int))) (pe_slice sl_list (pv 3) po_none (po_some (pe_un un_neg pe_int))) (nomark _))))))
      pss_nil)
      (pss_one (ps_ret (pe_and (pe_cmpR op_gt (pe_callB call_len_seq (by rfl) T.n_len (by decide +kernel) (pa_cons (pv 2) pa_nil)) (pe_callB call_len_seq (by rfl) T.n_len (by decide +kernel) (pa_cons (pv 3) pa_nil)) (nomark _)) (pe_one (pe_cmpR (op_eqD hr.units) (pe_slice sl_list (pv 2) po_none (po_some (pe_callB call_len_seq (by rfl) T.n_len (by decide +kernel) (pa_cons (pv 3) pa_nil)))) (pv 3) (nomark _))))))))), ?_⟩
    refine ⟨_, rfl, _, rfl, rfl, _, rfl, ?_⟩
    rw [dS]
    refine if2 (fun h1 => ?_) (fun h1 => ?_)
    · exact qb (by unfold lawDue; rw [if_pos (of_decide_eq_true h1)]) (q H (Same.refl H))
    have h1 : ¬ p = o := of_decide_eq_false h1
    have hne : o ≠ [] := fun z => by rw [z] at lo; exact absurd lo.1 (by decide)
    have hl : o.getLast? = some (o.getLast hne) := List.getLast?_eq_some_getLast hne
    refine ⟨_, rfl, ⟨_, rfl⟩, S p, S [47], rfl, by rw [slash], rfl, by rw [S_len]; exact sz (by omega), fun a na => ?_⟩
    rw [split_S (by decide)]
    refine ⟨_, rfl, ⟨_, rfl⟩, S o, S [47], rfl, by rw [slash], rfl, by rw [S_len]; exact sz (by omega), fun b nb => ?_⟩
    rw [split_S (by decide)]
    generalize hHb : upd (upd H a (.lst ((parts 47 p).map vS))) b (.lst ((parts 47 o).map vS)) = Hb
    have sb : Same H Hb := by rw [← hHb]; exact (same_upd na).trans (same_upd nb)
    have eb : Hb b = some (.lst ((parts 47 o).map vS)) := by rw [← hHb]; exact upd_same
    have nab : a ≠ b := fun z => by rw [← z, upd_same] at nb; cases nb
    have ea : Hb a = some (.lst ((parts 47 p).map vS)) := by rw [← hHb, upd_ne nab]; exact upd_same
    refine ⟨_, _, rfl, ?_⟩
    refine ⟨_, rfl, 1, rfl, S o, -1, o.getLast hne, rfl, rfl, szS (by omega), atI_neg1 hl, rfl, _, rfl, ?_⟩
    rw [slash, dS]
    refine if2 (fun h2 => ?_) (fun h2 => ?_)
    · have e2 : o.getLast? = some 47 := by rw [hl]; simpa using h2
      refine ⟨_, rfl, a, _, rfl, .inl (SqL.of ea), _, rfl, b, _, rfl, .inl (SqL.of eb), _, _, rfl, rfl, _, rfl, ?_⟩
      rw [List.length_map, List.length_map]
      have hb1 : 1 ≤ (parts 47 o).length := by
        cases e : parts 47 o with
        | nil => exact absurd e (parts_ne 47 o)
        | cons x r => simp
      refine if2 (fun h3 => ?_) (fun h3 => ?_)
      · have e3 : (parts 47 p).length ≥ (parts 47 o).length := by simpa using h3
        refine ⟨_, rfl, _, rfl, b, _, rfl, .inl (SqL.of eb), _, 1, rfl, rfl, _, rfl, a, _, rfl, SqL.of ea, fun u nu => ?_⟩
        have ei : (((parts 47 o).map vS).length : Int) - 1 = (((parts 47 o).length - 1 : Nat) : Int) := by rw [List.length_map]; omega
        rw [ei, cutV_map, cut_to]
        refine ⟨_, rfl, 1, rfl, _, rfl, b, _, rfl, (same_upd nu).seq (SqL.of eb), fun v nv => ?_⟩
        rw [cutV_map, cut_init]
        refine ⟨dL ((parts 47 p).take ((parts 47 o).length - 1)), dL (parts 47 o).dropLast, dp_L ((same_upd nv).seq (SqL.of upd_same)), dp_L (SqL.of upd_same), shaped_L fun w hw => ap w (List.mem_of_mem_take hw), shaped_L fun w hw => ao w ((List.dropLast_sublist _).subset hw), ?_⟩
        rw [eqv_L]
        refine qb ?_ (q _ (sb.trans ((same_upd nu).trans (same_upd nv))))
        unfold lawDue
        rw [if_neg h1, if_pos e2, decide_eq_true e3, Bool.true_and]
      · have e3 : ¬ (parts 47 p).length ≥ (parts 47 o).length := by simpa using h3
        refine qb ?_ (q _ sb)
        unfold lawDue
        rw [if_neg h1, if_pos e2, decide_eq_false e3, Bool.false_and]
    · have e2 : ¬ o.getLast? = some 47 := by rw [hl]; simpa using h2
      refine ⟨_, rfl, a, _, rfl, .inl (SqL.of ea), _, rfl, b, _, rfl, .inl (SqL.of eb), _, _, rfl, rfl, _, rfl, ?_⟩
      rw [List.length_map, List.length_map]
      refine if2 (fun h3 => ?_) (fun h3 => ?_)
      · have e3 : (parts 47 p).length > (parts 47 o).length := by simpa using h3
        refine ⟨_, rfl, _, rfl, b, _, rfl, .inl (SqL.of eb), _, rfl, a, _, rfl, SqL.of ea, fun u nu => ?_⟩
        rw [List.length_map, cutV_map, cut_to]
        refine ⟨_, rfl, dL ((parts 47 p).take (parts 47 o).length), dL (parts 47 o), dp_L (SqL.of upd_same), dp_L ((same_upd nu).seq (SqL.of eb)), shaped_L fun w hw => ap w (List.mem_of_mem_take hw), shaped_L ao, ?_⟩
        rw [eqv_L]
        refine qb ?_ (q _ (sb.trans (same_upd nu)))
        unfold lawDue
        rw [if_neg h1, if_neg e2, decide_eq_true e3, Bool.true_and]
      · have e3 : ¬ (parts 47 p).length > (parts 47 o).length := by simpa using h3
        refine qb ?_ (q _ sb)
        unfold lawDue
        rw [if_neg h1, if_neg e2, decide_eq_false e3, Bool.false_and]

/-! ### law -/
/-! ### the law: two readings agree -/
theorem join_app (c : Nat) : ∀ {A B : List (List Nat)}, A ≠ [] → B ≠ [] → TL.joinL [c] (A ++ B) = TL.joinL [c] A ++ c :: TL.joinL [c] B
  | [], _, h, _ => absurd rfl h
  | [x], [], _, h => absurd rfl h
  | [x], y :: B, _, _ => rfl
  | x :: y :: A, B, _, h => by
    have ih := join_app c (A := y :: A) (B := B) (List.cons_ne_nil _ _) h
    show x ++ ([c] ++ TL.joinL [c] (y :: A ++ B)) = x ++ ([c] ++ TL.joinL [c] (y :: A)) ++ c :: TL.joinL [c] B
    rw [ih]
    simp
theorem parts_cut_iff {c : Nat} (p u : List Nat) : (∃ t, p = u ++ c :: t) ↔ (parts c p).length > (parts c u).length ∧ (parts c p).take (parts c u).length = parts c u := by
  constructor
  · rintro ⟨t, rfl⟩
    rw [parts_cut, List.length_append, List.take_left']
    · have : 1 ≤ (parts c t).length := by
        cases e : parts c t with
        | nil => exact absurd e (parts_ne c t)
        | cons x r => simp
      exact ⟨by omega, rfl⟩
    · rfl
  · rintro ⟨h1, h2⟩
    have h3 : (parts c p).drop (parts c u).length ≠ [] := fun z => by
      have := congrArg List.length z
      rw [List.length_drop, List.length_nil] at this
      omega
    refine ⟨TL.joinL [c] ((parts c p).drop (parts c u).length), ?_⟩
    have h4 := join_app c (parts_ne c u) h3
    have h5 : parts c u ++ (parts c p).drop (parts c u).length = parts c p := by
      conv => rhs; rw [← List.take_append_drop (parts c u).length (parts c p)]
      rw [h2]
    rw [h5, join_parts, join_parts] at h4
    exact h4
theorem take1_iff {p o : List Nat} : (o.isPrefixOf p = true ∧ (p.drop o.length).take 1 = [47]) ↔ ∃ t, p = o ++ 47 :: t := by
  rw [List.isPrefixOf_iff_prefix]
  constructor
  · rintro ⟨⟨t, rfl⟩, h⟩
    rw [List.drop_left'] at h
    · cases t with
      | nil => cases h
      | cons x t =>
        have : x = 47 := by simpa using h
        exact ⟨t, by rw [this]⟩
    · rfl
  · rintro ⟨t, rfl⟩
    refine ⟨⟨_, rfl⟩, ?_⟩
    rw [List.drop_left']
    · rfl
    · rfl
theorem due_fits (p : List Nat) {o : List Nat} (ho : o ≠ []) : pathFits p o = lawDue p o := by
  unfold pathFits lawDue
  by_cases e : p = o
  · rw [if_pos e, decide_eq_true e, Bool.true_or]
  rw [if_neg e, decide_eq_false e, Bool.false_or]
  by_cases h : o.getLast? = some 47
  · rw [if_pos h, h]
    obtain ⟨u, rfl⟩ : ∃ u, o = u ++ [47] := by
      have h1 := List.dropLast_concat_getLast ho
      have h2 : o.getLast ho = 47 := Option.some.inj ((List.getLast?_eq_some_getLast ho).symm.trans h)
      rw [h2] at h1
      exact ⟨_, h1.symm⟩
    have e1 : parts 47 (u ++ [47]) = parts 47 u ++ [[]] := by rw [parts_cut, parts_nil]
    rw [e1, List.length_append (as := parts 47 u), List.dropLast_concat]
    apply Bool.eq_iff_iff.mpr
    rw [Bool.and_eq_true, Bool.and_eq_true, decide_eq_true_eq, decide_eq_true_eq]
    have e2 : (parts 47 u).length + ([[]] : List (List Nat)).length - 1 = (parts 47 u).length := by simp
    rw [e2]
    have k := parts_cut_iff (c := 47) p u
    constructor
    · rintro ⟨h1, _⟩
      rw [List.isPrefixOf_iff_prefix] at h1
      obtain ⟨t, rfl⟩ := h1
      have e3 : u ++ [47] ++ t = u ++ 47 :: t := by simp
      rw [e3] at k ⊢
      have := k.mp ⟨t, rfl⟩
      exact ⟨by simp; omega, this.2⟩
    · rintro ⟨h1, h2⟩
      obtain ⟨t, rfl⟩ := k.mpr ⟨by simp at h1; omega, h2⟩
      exact ⟨List.isPrefixOf_iff_prefix.mpr ⟨t, by simp⟩, by simp⟩
  · rw [if_neg h]
    have e1 : (o.getLast? == some 47) = false := by simpa using h
    rw [e1, Bool.false_or]
    apply Bool.eq_iff_iff.mpr
    rw [Bool.and_eq_true, Bool.and_eq_true, decide_eq_true_eq, decide_eq_true_eq, decide_eq_true_eq, take1_iff, parts_cut_iff]
theorem default_law {l : List Nat} (h : 47 ∈ l) : defaultPath l = if (parts 47 l).dropLast ≠ [[]] then TL.joinL [47] (parts 47 l).dropLast else [47] := by
  obtain ⟨u, v, rfl, n⟩ := last_split h
  unfold defaultPath
  rw [dirOf_at n, parts_cut, parts_one n, List.dropLast_concat, join_parts]
  by_cases e : u = []
  · subst e
    rw [if_pos rfl, parts_nil, if_neg (fun z => z rfl)]
  · rw [if_neg e, if_pos]
    intro z
    have := join_parts 47 u
    rw [z] at this
    exact e this.symm
theorem defaultPath_len {l : List Nat} (h : isPath l = true) : (defaultPath l).length ≤ 200 := by
  obtain ⟨u, v, e, n⟩ := last_split (isPath_mem h)
  have := isPath_len h
  unfold defaultPath
  rw [e, dirOf_at n]
  rw [e, List.length_append] at this
  by_cases z : u = []
  · rw [if_pos z]
    decide
  · rw [if_neg z]
    omega
theorem same_sx {d : Addr} {H0 Ha Hb Hc : Hp} (a : Same H0 Ha) (n : Ha d = none) (b : Same Ha Hb) (c : Sx d Hb Hc) : Same H0 Hc := fun x o h => c x o (ne_of_none (a x o h) n) (b x o (a x o h))

def sp_law (K : PySem.W.Frag) : Sp := fun vs H Q _ => ∃ (a : Addr) (ns : List Int), vs = [.ref a] ∧ SqL K H a (ns.map V.int) ∧ ns.length ≤ 63 ∧ ∀ H', Q (.bl true) H'
theorem ok_law (T : Txt K mg) : FnOk P w K mg base CX0 5 T.f_law T.d_law ["_law_script"] (sp_law K) := by
  refine T.F_law.ok sc_law (fun vs H Q E h => ?_) (fun cdv A outer s H vs Q E hr h => ?_)
  · obtain ⟨a, ns, rfl, _⟩ := h
    rfl
  · obtain ⟨a, ns, rfl, hS, hlen, q⟩ := h
    refine ⟨_, (pss_cons (ps_for PassesOwn.never rfl (pi_enum (by rfl) T.n_enumerate (pa_cons (pe_op op_cat (pe_slice sl_list (pv 0) po_none (po_some pe_int)) (pe_lst (pa_cons (pe_callB (cr_sum rfl) (by rfl) T.n_sum (by decide +kernel) (pa_cons (pv 0) pa_nil)) pa_nil))) pa_nil)) (pg_tup (by rfl) (pgs_cons (pg_name (i := 1) sc_law.nd rfl (.inl rfl)) (pgs_cons (pg_name (i := 2) sc_law.nd rfl (.inl rfl)) pgs_nil)))
      (pss_cons (ps_set (i := 3) sc_law.nd rfl (.inl rfl) (pe_call (ok__law_draw T) (hr.mono (by decide)) (by rfl) T.g__law_draw T.F__law_draw.kp T.b__law_draw .nil pass0 (pa_cons (pv 2) (pa_cons (pv 1) pa_nil))))
      (pss_one (ps_for PassesOwn.never rfl (pi_range1 (by rfl) T.n_range (pa_cons pe_int pa_nil)) (pg_name (i := 4) sc_law.nd rfl (.inl rfl))
      (pss_cons (ps_asg (pe_call (ok__law_pair T) (hr.mono (by decide)) (by rfl) T.g__law_pair T.F__law_pair.kp T.b__law_pair .nil pass0 (pa_cons (pv 3) pa_nil)) (pg_tup (by rfl) (pgs_cons (pg_name (i := 5) sc_law.nd rfl (.inl rfl)) (pgs_cons (pg_name (i := 6) sc_law.nd rfl (.inl rfl)) pgs_nil))))
      (pss_cons (ps_if (PW.pt (pw_or (pt_cmpR op_ne (pe_call (ok_path_fits T) (hr.mono (by decide)) (by rfl) T.g_path_fits T.F_path_fits.kp T.b_path_fits .nil pass0 (pa_cons (pv 5) (pa_cons (pv 6) pa_nil))) (pe_call (ok__law_due T) (hr.mono (by decide)) (by rfl) T.g__law_due T.F__law_due.kp T.b__law_due .nil pass0 (pa_cons (pv 5) (pa_cons (pv 6) pa_nil))) (nomark _)) (pw_or1 (pt_cmpR op_ne (pe_call (ok_path_fits T) (hr.mono (by decide)) (by rfl) T.g_path_fits T.F_path_fits.kp T.b_path_fits .nil pass0 (pa_cons (pv 6) (pa_cons (pv 5) pa_nil))) (pe_call (ok__law_due T) (hr.mono (by decide)) (by rfl) T.g__law_due T.F__law_due.kp T.b__law_due .nil pass0 (pa_cons (pv 6) (pa_cons (pv 5) pa_nil))) (nomark _)))))
      (pss_one (ps_ret pe_bl))
      pss_nil)
      (pss_one (ps_for PassesOwn.never rfl (pi_list (pe_lst (pa_cons (pv 5) (pa_cons (pv 6) pa_nil)))) (pg_name (i := 7) sc_law.nd rfl (.inl rfl))
      (pss_cons (ps_set (i := 8) sc_law.nd rfl (.inl rfl) (pe_split (pv 7) pe_str))
      (pss_one (ps_if (pt_cmpR op_ne (pe_call (ok_default_path T) (hr.mono (by decide)) (by rfl) T.g_default_path T.F_default_path.kp T.b_default_path .nil pass0 (pa_cons (pv 7) pa_nil)) (pe_ifExp (pt_cmpR (op_neD hr.units) (pe_slice sl_list (pv 8) po_none (po_some (pe_un un_neg pe_int))) (pe_lst (pa_cons pe_str pa_nil)) (nomark _)) (pe_join pe_str (pe_slice sl_list (pv 8) po_none (po_some (pe_un un_neg pe_int)))) pe_str) (nomark _))
      (pss_one (ps_ret pe_bl))
      pss_nil)))))))))))
      (pss_one (ps_ret pe_bl))), ?_⟩
    -- script[:6] + [sum(script)]
    refine ⟨_, rfl, 6, rfl, a, _, rfl, hS, fun u nu => ?_⟩
    refine ⟨_, rfl, a, ns, rfl, (same_upd nu).seq hS, by show 1 ≤ sizeLine; decide, fun v nv => ?_⟩
    have nuv : u ≠ v := fun z => by rw [← z, upd_same] at nv; cases nv
    refine ⟨u, v, _, _, rfl, rfl, by rw [upd_ne nuv]; exact upd_same, upd_same, ?_, fun c nc => ?_⟩
    · have h1 : (cutV (ns.map V.int) none (some 6)).length ≤ 63 := by
        rw [cutV_map, List.length_map]
        exact Nat.le_trans (cut_len _ _ _) hlen
      exact sz (by simp only [List.length_cons, List.length_nil]; omega)
    have es : cutV (ns.map V.int) none (some 6) ++ [V.int ns.sum] = (ns.take 6 ++ [ns.sum]).map V.int := by
      rw [cutV_map, show (6 : Int) = ((6 : Nat) : Int) from rfl, cut_to, List.map_append]
      rfl
    rw [es]
    generalize hzs : ns.take 6 ++ [ns.sum] = zs
    have hz : zs.length ≤ 7 := by rw [← hzs, List.length_append, List.length_take]; simp; omega
    generalize hH0 : upd (upd (upd H u (.lst (cutV (ns.map V.int) none (some 6)))) v (.lst [V.int ns.sum])) c (.lst (zs.map V.int)) = H0
    have hc : H0 c = some (.lst (zs.map V.int)) := by rw [← hH0]; exact upd_same
    refine ⟨c, _, rfl, SqL.of hc, for_it (n := (zs.map V.int).length) walk_enum (fun i σ H' => Same H0 H' ∧ ∃ y1 y2 y3 y4 y5 y6 y7 y8, σ = [some (.ref a), y1, y2, y3, y4, y5, y6, y7, y8])
      ⟨Same.refl H0, none, none, none, none, none, none, none, none, rfl⟩ (fun _ _ _ _ hP => hP.1.seq (SqL.of hc)) (fun i x σ H1 H2 hi hP hY => ?_) (fun σ H1 _ => q H1)⟩
    obtain ⟨s1, y1, y2, y3, y4, y5, y6, y7, y8, rfl⟩ := hP
    obtain ⟨T1, x1, x2, rfl, nT, rfl, e1, e2⟩ := hY
    cases e1
    obtain ⟨z, hz2, rfl⟩ : ∃ z, zs[i]? = some z ∧ x2 = V.int z := by
      have e2 : (zs.map V.int)[i]? = some x2 := e2
      rw [List.getElem?_map] at e2
      cases e : zs[i]? with
      | none => rw [e] at e2; cases e2
      | some z => rw [e] at e2; exact ⟨z, rfl, (Option.some.inj e2).symm⟩
    have hi7 : i < 7 := by rw [List.length_map] at hi; omega
    have s2 := s1.trans (same_upd (o := HO.tup [V.int (i : Nat), V.int z]) nT)
    refine ⟨T1, _, rfl, SqT.of upd_same, rfl, _, _, rfl, _, _, rfl, rfl, ?_⟩
    -- the source of drawn numbers
    refine ⟨_, rfl, _, rfl, z, (i : Nat), rfl, by omega, by omega, fun H3 d s3 nd D3 => ?_⟩
    refine ⟨9, rfl, by decide, by decide, for_range (lo := 0) (n := 9) (fun j σ H' => Sx d H3 H' ∧ Dr d (100000 + 200 * j) H' ∧ ∃ y4 y5 y6 y7 y8, σ = [some (.ref a), some (.int (i : Nat)), some (.int z), some (.ref d), y4, y5, y6, y7, y8])
      ⟨Sx.refl d H3, D3, _, _, _, _, _, rfl⟩ ?_ ?_⟩
    · rintro j σ H4 hj ⟨s4, D4, y4, y5, y6, y7, y8, rfl⟩
      refine ⟨_, rfl, d, _, rfl, by omega, D4, fun H5 p x y s5 D5 hp hx hy => ?_⟩
      refine ⟨p, _, rfl, SqT.of hp, rfl, _, _, rfl, _, _, rfl, rfl, ?_⟩
      have kx := hx.ok (by decide)
      have ky := hy.ok (by decide)
      have nx : x ≠ [] := fun z => by rw [z] at kx; cases kx
      have ny : y ≠ [] := fun z => by rw [z] at ky; cases ky
      refine ⟨_, rfl, _, rfl, x, y, rfl, kx, ky, fun H6 s6 => ?_⟩
      refine ⟨_, rfl, _, rfl, x, y, rfl, kx, ky, fun H7 s7 => ⟨rfl, _, rfl, ?_⟩⟩
      rw [due_fits x ny, ndB]
      refine ⟨_, rfl, _, rfl, y, x, rfl, ky, kx, fun H8 s8 => ?_⟩
      refine ⟨_, rfl, _, rfl, y, x, rfl, ky, kx, fun H9 s9 => ⟨rfl, _, rfl, ?_⟩⟩
      rw [due_fits y nx, ndB]
      have s59 := ((s6.trans s7).trans s8).trans s9
      have D9 := D5.same s59
      have s49 := (s4.trans s5).trans (Sx.of s59)
      -- the default paths
      refine ⟨_, rfl, _, rfl, by show 2 ≤ sizeLine; decide, fun r nr => ?_⟩
      refine ⟨r, rfl, ⟨_, SqL.of upd_same⟩, for_list (K := K) (a := r) (xs := [vS x, vS y]) (fun m σ H' => Same (upd H9 r (.lst [vS x, vS y])) H' ∧ ∃ y7 y8, σ = [some (.ref a), some (.int (i : Nat)), some (.int z), some (.ref d), some (.int (0 + (j : Nat))), some (vS x), some (vS y), y7, y8])
        ⟨Same.refl _, _, _, rfl⟩ (fun _ _ _ _ hP => hP.1.seq (SqL.of upd_same)) ?_ ?_⟩
      · rintro m w σ Ha hm ⟨sa, y7, y8, rfl⟩
        obtain ⟨l, rfl, kl⟩ : ∃ l, w = vS l ∧ isPath l = true := by
          have mw := List.mem_of_getElem? hm
          rcases List.mem_cons.mp mw with rfl | mw
          · exact ⟨x, rfl, kx⟩
          rcases List.mem_cons.mp mw with rfl | mw
          · exact ⟨y, rfl, ky⟩
          cases mw
        have ll := isPath_len kl
        have al := parts_asc 47 (isPath_asc kl)
        refine ⟨_, rfl, ⟨_, rfl⟩, S l, S [47], rfl, by rw [slash], rfl, by rw [S_len]; exact sz (by omega), fun b nb => ?_⟩
        rw [split_S (by decide)]
        refine ⟨_, rfl, l, rfl, kl, fun Hc sc => ?_⟩
        have hb : Hc b = some (.lst ((parts 47 l).map vS)) := sc _ _ upd_same
        refine ⟨_, rfl, 1, rfl, _, rfl, b, _, rfl, SqL.of hb, fun g ng => ?_⟩
        rw [cutV_map, cut_init]
        refine ⟨by show 1 ≤ sizeLine; decide, fun h nh => ?_⟩
        rw [empty_S]
        have sh := same_upd (o := .lst [vS []]) nh
        refine ⟨dL (parts 47 l).dropLast, dL [[]], dp_L (sh.seq (SqL.of upd_same)), dp_L (ws := [[]]) (SqL.of upd_same), shaped_L fun w hw => al w ((List.dropLast_sublist _).subset hw), shaped_L (fun w hw => by rcases List.mem_cons.mp hw with rfl | hw; exact (fun _ z => nomatch z); cases hw), _, rfl, ?_⟩
        rw [eqv_L]
        have sg := ((same_upd nb).trans sc).trans ((same_upd ng).trans sh)
        have ed := default_law (isPath_mem kl)
        refine if2 (fun h1 => ?_) (fun h1 => ?_)
        · have h2 : (parts 47 l).dropLast ≠ [[]] := by simpa using h1
          rw [if_pos h2] at ed
          refine ⟨⟨_, rfl⟩, _, rfl, 1, rfl, _, rfl, b, _, rfl, SqL.of (((same_upd ng).trans sh) _ _ hb), fun g2 ng2 => ?_⟩
          rw [cutV_map, cut_init]
          have hu : (TL.joinL [47] (parts 47 l).dropLast).length ≤ 200 := by
            rw [← ed]
            exact defaultPath_len kl
          refine ⟨S [47], g2, (parts 47 l).dropLast.map S, by rw [slash], rfl, .inl (SqL.of ?_), size_join (by omega), ?_⟩
          · rw [upd_same, List.map_map]
            rfl
          rw [join_S, ed]
          refine ⟨rfl, _, rfl, ?_⟩
          rw [decide_eq_true rfl]
          exact ⟨sa.trans (((same_upd nb).trans sc).trans (((same_upd ng).trans sh).trans (same_upd ng2))), _, _, rfl⟩
        · have h2 : (parts 47 l).dropLast = [[]] := by simpa using h1
          rw [if_neg (fun z => z h2)] at ed
          rw [slash, ed]
          refine ⟨rfl, _, rfl, ?_⟩
          rw [decide_eq_true rfl]
          exact ⟨sa.trans sg, _, _, rfl⟩
      · rintro σ Ha ⟨sa, y7, y8, rfl⟩
        have s9a := (same_upd nr).trans sa
        exact ⟨s49.trans (Sx.of s9a), (D9.same s9a).mono (by omega), _, _, _, _, _, rfl⟩
    · rintro σ H4 ⟨s4, D4, y4, y5, y6, y7, y8, rfl⟩
      exact ⟨same_sx s2 nd s3 s4, _, _, _, _, _, _, _, _, rfl⟩

end
theorem all_mk {l : PySem.W.OpenLaw} {w : World} {K : PySem.W.Frag} {h : Heap} {mg : Str → Option Value} {fa : Addr} (X : K.In h) (G : h.Ns mainGlobals mg) (hfa : mg "law" = some (.ref fa))
    {f0 : Addr} {od0 an0 : Option Addr} {sl0 : Array (Option Value)} {oc0 kV0 dc0 pm0 cd0 ct0 : Value}
    (a0 : PySem.W.nsIn K mainGlobals "s1_is_path_sign" = some (some (.ref f0))) (l0 : K.lookup f0 = some ⟨oc0, od0, .func (PySem.W.fnOf "s1_is_path_sign" "s1_is_path_sign" (defArgs S_s1_is_path_sign) (defBody S_s1_is_path_sign) (defScope S_s1_is_path_sign) .none kV0 dc0 pm0 an0 cd0 ct0), sl0⟩) (c0 : PySem.W.codeIn K cd0 "s1_is_path_sign" = true) (k0 : PySem.W.keepIn K (.ref f0) = true)
    {f1 : Addr} {od1 an1 : Option Addr} {sl1 : Array (Option Value)} {oc1 kV1 dc1 pm1 cd1 ct1 : Value}
    (a1 : PySem.W.nsIn K mainGlobals "is_path" = some (some (.ref f1))) (l1 : K.lookup f1 = some ⟨oc1, od1, .func (PySem.W.fnOf "is_path" "is_path" (defArgs S_is_path) (defBody S_is_path) (defScope S_is_path) .none kV1 dc1 pm1 an1 cd1 ct1), sl1⟩) (c1 : PySem.W.codeIn K cd1 "is_path" = true) (k1 : PySem.W.keepIn K (.ref f1) = true)
    {f2 : Addr} {od2 an2 : Option Addr} {sl2 : Array (Option Value)} {oc2 kV2 dc2 pm2 cd2 ct2 : Value}
    (a2 : PySem.W.nsIn K mainGlobals "need_path" = some (some (.ref f2))) (l2 : K.lookup f2 = some ⟨oc2, od2, .func (PySem.W.fnOf "need_path" "need_path" (defArgs S_need_path) (defBody S_need_path) (defScope S_need_path) .none kV2 dc2 pm2 an2 cd2 ct2), sl2⟩) (c2 : PySem.W.codeIn K cd2 "need_path" = true) (k2 : PySem.W.keepIn K (.ref f2) = true)
    {f3 : Addr} {od3 an3 : Option Addr} {sl3 : Array (Option Value)} {oc3 kV3 dc3 pm3 cd3 ct3 : Value}
    (a3 : PySem.W.nsIn K mainGlobals "default_path" = some (some (.ref f3))) (l3 : K.lookup f3 = some ⟨oc3, od3, .func (PySem.W.fnOf "default_path" "default_path" (defArgs S_default_path) (defBody S_default_path) (defScope S_default_path) .none kV3 dc3 pm3 an3 cd3 ct3), sl3⟩) (c3 : PySem.W.codeIn K cd3 "default_path" = true) (k3 : PySem.W.keepIn K (.ref f3) = true)
    {f4 : Addr} {od4 an4 : Option Addr} {sl4 : Array (Option Value)} {oc4 kV4 dc4 pm4 cd4 ct4 : Value}
    (a4 : PySem.W.nsIn K mainGlobals "s1_path_fits" = some (some (.ref f4))) (l4 : K.lookup f4 = some ⟨oc4, od4, .func (PySem.W.fnOf "s1_path_fits" "s1_path_fits" (defArgs S_s1_path_fits) (defBody S_s1_path_fits) (defScope S_s1_path_fits) .none kV4 dc4 pm4 an4 cd4 ct4), sl4⟩) (c4 : PySem.W.codeIn K cd4 "s1_path_fits" = true) (k4 : PySem.W.keepIn K (.ref f4) = true)
    {f5 : Addr} {od5 an5 : Option Addr} {sl5 : Array (Option Value)} {oc5 kV5 dc5 pm5 cd5 ct5 : Value}
    (a5 : PySem.W.nsIn K mainGlobals "path_fits" = some (some (.ref f5))) (l5 : K.lookup f5 = some ⟨oc5, od5, .func (PySem.W.fnOf "path_fits" "path_fits" (defArgs S_path_fits) (defBody S_path_fits) (defScope S_path_fits) .none kV5 dc5 pm5 an5 cd5 ct5), sl5⟩) (c5 : PySem.W.codeIn K cd5 "path_fits" = true) (k5 : PySem.W.keepIn K (.ref f5) = true)
    {f6 : Addr} {od6 an6 : Option Addr} {sl6 : Array (Option Value)} {oc6 kV6 dc6 pm6 cd6 ct6 : Value}
    (a6 : PySem.W.nsIn K mainGlobals "_law_mixed" = some (some (.ref f6))) (l6 : K.lookup f6 = some ⟨oc6, od6, .func (PySem.W.fnOf "_law_mixed" "_law_mixed" (defArgs S__law_mixed) (defBody S__law_mixed) (defScope S__law_mixed) .none kV6 dc6 pm6 an6 cd6 ct6), sl6⟩) (c6 : PySem.W.codeIn K cd6 "_law_mixed" = true) (k6 : PySem.W.keepIn K (.ref f6) = true)
    {f7 : Addr} {od7 an7 : Option Addr} {sl7 : Array (Option Value)} {oc7 kV7 dc7 pm7 cd7 ct7 : Value}
    (a7 : PySem.W.nsIn K mainGlobals "_law_draw" = some (some (.ref f7))) (l7 : K.lookup f7 = some ⟨oc7, od7, .func (PySem.W.fnOf "_law_draw" "_law_draw" (defArgs S__law_draw) (defBody S__law_draw) (defScope S__law_draw) .none kV7 dc7 pm7 an7 cd7 ct7), sl7⟩) (c7 : PySem.W.codeIn K cd7 "_law_draw" = true) (k7 : PySem.W.keepIn K (.ref f7) = true)
    {f8 : Addr} {od8 an8 : Option Addr} {sl8 : Array (Option Value)} {oc8 kV8 dc8 pm8 cd8 ct8 : Value}
    (a8 : PySem.W.nsIn K mainGlobals "_law_digit" = some (some (.ref f8))) (l8 : K.lookup f8 = some ⟨oc8, od8, .func (PySem.W.fnOf "_law_digit" "_law_digit" (defArgs S__law_digit) (defBody S__law_digit) (defScope S__law_digit) .none kV8 dc8 pm8 an8 cd8 ct8), sl8⟩) (c8 : PySem.W.codeIn K cd8 "_law_digit" = true) (k8 : PySem.W.keepIn K (.ref f8) = true)
    {f9 : Addr} {od9 an9 : Option Addr} {sl9 : Array (Option Value)} {oc9 kV9 dc9 pm9 cd9 ct9 : Value}
    (a9 : PySem.W.nsIn K mainGlobals "_law_path" = some (some (.ref f9))) (l9 : K.lookup f9 = some ⟨oc9, od9, .func (PySem.W.fnOf "_law_path" "_law_path" (defArgs S__law_path) (defBody S__law_path) (defScope S__law_path) .none kV9 dc9 pm9 an9 cd9 ct9), sl9⟩) (c9 : PySem.W.codeIn K cd9 "_law_path" = true) (k9 : PySem.W.keepIn K (.ref f9) = true)
    {f10 : Addr} {od10 an10 : Option Addr} {sl10 : Array (Option Value)} {oc10 kV10 dc10 pm10 cd10 ct10 : Value}
    (a10 : PySem.W.nsIn K mainGlobals "_law_pair" = some (some (.ref f10))) (l10 : K.lookup f10 = some ⟨oc10, od10, .func (PySem.W.fnOf "_law_pair" "_law_pair" (defArgs S__law_pair) (defBody S__law_pair) (defScope S__law_pair) .none kV10 dc10 pm10 an10 cd10 ct10), sl10⟩) (c10 : PySem.W.codeIn K cd10 "_law_pair" = true) (k10 : PySem.W.keepIn K (.ref f10) = true)
    {f11 : Addr} {od11 an11 : Option Addr} {sl11 : Array (Option Value)} {oc11 kV11 dc11 pm11 cd11 ct11 : Value}
    (a11 : PySem.W.nsIn K mainGlobals "_law_due" = some (some (.ref f11))) (l11 : K.lookup f11 = some ⟨oc11, od11, .func (PySem.W.fnOf "_law_due" "_law_due" (defArgs S__law_due) (defBody S__law_due) (defScope S__law_due) .none kV11 dc11 pm11 an11 cd11 ct11), sl11⟩) (c11 : PySem.W.codeIn K cd11 "_law_due" = true) (k11 : PySem.W.keepIn K (.ref f11) = true)
    {f12 : Addr} {od12 an12 : Option Addr} {sl12 : Array (Option Value)} {oc12 kV12 dc12 pm12 cd12 ct12 : Value}
    (a12 : PySem.W.nsIn K mainGlobals "law" = some (some (.ref f12))) (l12 : K.lookup f12 = some ⟨oc12, od12, .func (PySem.W.fnOf "law" "law" (defArgs S_law) (defBody S_law) (defScope S_law) .none kV12 dc12 pm12 an12 cd12 ct12), sl12⟩) (c12 : PySem.W.codeIn K cd12 "law" = true) (k12 : PySem.W.keepIn K (.ref f12) = true)
    {t_MOST_PATH : Tok} (v_MOST_PATH : PySem.W.nsIn K mainGlobals "MOST_PATH" = some (some (.int (200) t_MOST_PATH)))
    {t_PATH_SIGNS : Tok} (v_PATH_SIGNS : PySem.W.nsIn K mainGlobals "PATH_SIGNS" = some (some (.str cs_PATH_SIGNS t_PATH_SIGNS)))
    (z_all : PySem.W.nsIn K mainGlobals "all" = some none)
    (z_enumerate : PySem.W.nsIn K mainGlobals "enumerate" = some none)
    (z_int : PySem.W.nsIn K mainGlobals "int" = some none)
    (z_isinstance : PySem.W.nsIn K mainGlobals "isinstance" = some none)
    (z_len : PySem.W.nsIn K mainGlobals "len" = some none)
    (z_range : PySem.W.nsIn K mainGlobals "range" = some none)
    (z_str : PySem.W.nsIn K mainGlobals "str" = some none)
    (z_sum : PySem.W.nsIn K mainGlobals "sum" = some none)
    : ∃ fd : FuncData, (∀ (s : Shared) (v : Value), BindsTo s fd ⟨[v], []⟩ [("_law_script", v)]) ∧ ∀ base : Heap, K.In base → base.Ns mainGlobals mg → FnOk l.prog w K mg base CX0 5 fa fd ["_law_script"] (sp_law K) := by
  have e := hfa.symm.trans (PySem.W.mg_of X G a12)
  cases e
  let T : Txt K mg := {
    f_s1_is_path_sign := f0,
    d_s1_is_path_sign := _,
    F_s1_is_path_sign := fun_mk (st := S_s1_is_path_sign) l0 c0 k0,
    g_s1_is_path_sign := PySem.W.mg_of X G a0,
    f_is_path := f1,
    d_is_path := _,
    F_is_path := fun_mk (st := S_is_path) l1 c1 k1,
    g_is_path := PySem.W.mg_of X G a1,
    f_need_path := f2,
    d_need_path := _,
    F_need_path := fun_mk (st := S_need_path) l2 c2 k2,
    g_need_path := PySem.W.mg_of X G a2,
    f_default_path := f3,
    d_default_path := _,
    F_default_path := fun_mk (st := S_default_path) l3 c3 k3,
    g_default_path := PySem.W.mg_of X G a3,
    f_s1_path_fits := f4,
    d_s1_path_fits := _,
    F_s1_path_fits := fun_mk (st := S_s1_path_fits) l4 c4 k4,
    g_s1_path_fits := PySem.W.mg_of X G a4,
    f_path_fits := f5,
    d_path_fits := _,
    F_path_fits := fun_mk (st := S_path_fits) l5 c5 k5,
    g_path_fits := PySem.W.mg_of X G a5,
    f__law_mixed := f6,
    d__law_mixed := _,
    F__law_mixed := fun_mk (st := S__law_mixed) l6 c6 k6,
    g__law_mixed := PySem.W.mg_of X G a6,
    f__law_draw := f7,
    d__law_draw := _,
    F__law_draw := fun_mk (st := S__law_draw) l7 c7 k7,
    g__law_draw := PySem.W.mg_of X G a7,
    f__law_digit := f8,
    d__law_digit := _,
    F__law_digit := fun_mk (st := S__law_digit) l8 c8 k8,
    g__law_digit := PySem.W.mg_of X G a8,
    f__law_path := f9,
    d__law_path := _,
    F__law_path := fun_mk (st := S__law_path) l9 c9 k9,
    g__law_path := PySem.W.mg_of X G a9,
    f__law_pair := f10,
    d__law_pair := _,
    F__law_pair := fun_mk (st := S__law_pair) l10 c10 k10,
    g__law_pair := PySem.W.mg_of X G a10,
    f__law_due := f11,
    d__law_due := _,
    F__law_due := fun_mk (st := S__law_due) l11 c11 k11,
    g__law_due := PySem.W.mg_of X G a11,
    f_law := fa,
    d_law := _,
    F_law := fun_mk (st := S_law) l12 c12 k12,
    g_law := PySem.W.mg_of X G a12,
    c_MOST_PATH := ⟨_, PySem.W.mg_of X G v_MOST_PATH⟩,
    c_PATH_SIGNS := ⟨_, PySem.W.mg_of X G v_PATH_SIGNS⟩,
    n_all := PySem.W.mg_none_of X G z_all,
    n_enumerate := PySem.W.mg_none_of X G z_enumerate,
    n_int := PySem.W.mg_none_of X G z_int,
    n_isinstance := PySem.W.mg_none_of X G z_isinstance,
    n_len := PySem.W.mg_none_of X G z_len,
    n_range := PySem.W.mg_none_of X G z_range,
    n_str := PySem.W.mg_none_of X G z_str,
    n_sum := PySem.W.mg_none_of X G z_sum }
  exact ⟨PySem.W.fnOf "law" "law" (defArgs S_law) (defBody S_law) (defScope S_law) .none kV12 dc12 pm12 an12 cd12 ct12, fun s v => .of_eq rfl, fun base _ _ => ok_law T⟩
end LawK11
open PySem PySem.W PyProof.Rows
set_option maxHeartbeats 0 in
theorem PySem.Challenge.cw_crumbjar_k11_paths_that_fit_holds : PySem.Challenge.rw_crumbjar_k11_paths_that_fit.Holds := by
  w_on; o_law; k_head; (case hw => w_witness2)
  k_fill
  refine L2.walk_of (l := PySem.Challenge.rw_crumbjar_k11_paths_that_fit) (n := 63) (k := 5) (x := "_law_script") (CX := fun _ => L2.CX0) (sp := fun w => LawK11.sp_law _) rfl (by decide) rfl ⟨rfl, by decide, by decide⟩ (fun w h Y => PySem.W.kIn_of Y) ?F (fun _ _ a ns hl _ hS => ⟨a, ns, rfl, hS, hl, fun _ => rfl⟩) (fun _ _ _ _ _ h => h)
  case F =>
    intro w mg fa h KX G hmg
    refine' LawK11.all_mk KX G hmg ?a0 ?l0 ?c0 ?k0 ?a1 ?l1 ?c1 ?k1 ?a2 ?l2 ?c2 ?k2 ?a3 ?l3 ?c3 ?k3 ?a4 ?l4 ?c4 ?k4 ?a5 ?l5 ?c5 ?k5 ?a6 ?l6 ?c6 ?k6 ?a7 ?l7 ?c7 ?k7 ?a8 ?l8 ?c8 ?k8 ?a9 ?l9 ?c9 ?k9 ?a10 ?l10 ?c10 ?k10 ?a11 ?l11 ?c11 ?k11 ?a12 ?l12 ?c12 ?k12 ?v_MOST_PATH ?v_PATH_SIGNS ?z_all ?z_enumerate ?z_int ?z_isinstance ?z_len ?z_range ?z_str ?z_sum
    (case a0 => k_is); (case l0 => k_is); (case c0 => k_is); (case k0 => k_is); (case a1 => k_is); (case l1 => k_is); (case c1 => k_is); (case k1 => k_is); (case a2 => k_is); (case l2 => k_is); (case c2 => k_is); (case k2 => k_is); (case a3 => k_is); (case l3 => k_is); (case c3 => k_is); (case k3 => k_is); (case a4 => k_is); (case l4 => k_is); (case c4 => k_is); (case k4 => k_is); (case a5 => k_is); (case l5 => k_is); (case c5 => k_is); (case k5 => k_is); (case a6 => k_is); (case l6 => k_is); (case c6 => k_is); (case k6 => k_is); (case a7 => k_is); (case l7 => k_is); (case c7 => k_is); (case k7 => k_is); (case a8 => k_is); (case l8 => k_is); (case c8 => k_is); (case k8 => k_is); (case a9 => k_is); (case l9 => k_is); (case c9 => k_is); (case k9 => k_is); (case a10 => k_is); (case l10 => k_is); (case c10 => k_is); (case k10 => k_is); (case a11 => k_is); (case l11 => k_is); (case c11 => k_is); (case k11 => k_is); (case a12 => k_is); (case l12 => k_is); (case c12 => k_is); (case k12 => k_is); (case v_MOST_PATH => k_is); (case v_PATH_SIGNS => k_is); (case z_all => k_is); (case z_enumerate => k_is); (case z_int => k_is); (case z_isinstance => k_is); (case z_len => k_is); (case z_range => k_is); (case z_str => k_is); (case z_sum => k_is)
