import PyProof.Rows.All
import Wide.All
import OpenK.AllK
import Wide.FinOn
import PySem.Challenge.RW_crumbjar_k12_whole_paths_in_order
import HandS.ForMost
import HandS.Codes
import HandS.Walk
import HandS.Flow
import HandS.IsInst
import HandS.StrMore
import HandS.Style
import HandS.TupAny
import HandS.WordsExc
set_option Elab.async false
set_option linter.all false
set_option maxRecDepth 100000
set_option maxHeartbeats 4000000
set_option pp.maxSteps 1500

namespace LawK12
open PySem PySem.Spec PyProof.Rows L2
def topS (i : Nat) : Stmt := PySem.Challenge.pw_crumbjar_k12_whole_paths_in_order.main.body.getD i (.Pass ⟨0, 0, 0, 0⟩)
abbrev S_s1_is_path_sign : Stmt := topS 9
abbrev N_s1_is_path_sign : List Str := ["sign"]
theorem sc_s1_is_path_sign : FnScope N_s1_is_path_sign ["sign"] (defScope S_s1_is_path_sign) := ⟨rfl, rfl, rfl, by decide +kernel, rfl, by decide +kernel, by decide +kernel⟩
abbrev S_is_path : Stmt := topS 10
abbrev N_is_path : List Str := ["value", "sign"]
theorem sc_is_path : FnScope N_is_path ["value"] (defScope S_is_path) := ⟨rfl, rfl, rfl, by decide +kernel, rfl, by decide +kernel, by decide +kernel⟩
abbrev S_need_path : Stmt := topS 11
abbrev N_need_path : List Str := ["value"]
theorem sc_need_path : FnScope N_need_path ["value"] (defScope S_need_path) := ⟨rfl, rfl, rfl, by decide +kernel, rfl, by decide +kernel, by decide +kernel⟩
abbrev S_default_path : Stmt := topS 12
abbrev N_default_path : List Str := ["path"]
theorem sc_default_path : FnScope N_default_path ["path"] (defScope S_default_path) := ⟨rfl, rfl, rfl, by decide +kernel, rfl, by decide +kernel, by decide +kernel⟩
abbrev S_s1_path_fits : Stmt := topS 13
abbrev N_s1_path_fits : List Str := ["path", "own"]
theorem sc_s1_path_fits : FnScope N_s1_path_fits ["path", "own"] (defScope S_s1_path_fits) := ⟨rfl, rfl, rfl, by decide +kernel, rfl, by decide +kernel, by decide +kernel⟩
abbrev S_path_fits : Stmt := topS 14
abbrev N_path_fits : List Str := ["path", "own"]
theorem sc_path_fits : FnScope N_path_fits ["path", "own"] (defScope S_path_fits) := ⟨rfl, rfl, rfl, by decide +kernel, rfl, by decide +kernel, by decide +kernel⟩
abbrev S__law_mixed : Stmt := topS 16
abbrev N__law_mixed : List Str := ["_law_cell", "_law_k", "_law_one"]
theorem sc__law_mixed : FnScope N__law_mixed ["_law_cell", "_law_k"] (defScope S__law_mixed) := ⟨rfl, rfl, rfl, by decide +kernel, rfl, by decide +kernel, by decide +kernel⟩
abbrev S__law_draw : Stmt := topS 17
abbrev N__law_draw : List Str := ["_law_cell", "_law_k"]
theorem sc__law_draw : FnScope N__law_draw ["_law_cell", "_law_k"] (defScope S__law_draw) := ⟨rfl, rfl, rfl, by decide +kernel, rfl, by decide +kernel, by decide +kernel⟩
abbrev S__law_digit : Stmt := topS 18
abbrev N__law_digit : List Str := ["_law_draw_here", "_law_span", "_law_j", "_law_found"]
theorem sc__law_digit : FnScope N__law_digit ["_law_draw_here", "_law_span"] (defScope S__law_digit) := ⟨rfl, rfl, rfl, by decide +kernel, rfl, by decide +kernel, by decide +kernel⟩
abbrev S__law_paths : Stmt := topS 19
abbrev N__law_paths : List Str := ["_law_draw_here", "_law_found", "_law_j", "_law_old", "_law_more"]
theorem sc__law_paths : FnScope N__law_paths ["_law_draw_here"] (defScope S__law_paths) := ⟨rfl, rfl, rfl, by decide +kernel, rfl, by decide +kernel, by decide +kernel⟩
abbrev S__law_down : Stmt := topS 20
abbrev N__law_down : List Str := ["_law_path", "_law_found", "_law_j"]
theorem sc__law_down : FnScope N__law_down ["_law_path"] (defScope S__law_down) := ⟨rfl, rfl, rfl, by decide +kernel, rfl, by decide +kernel, by decide +kernel⟩
abbrev S_law : Stmt := topS 21
abbrev N_law : List Str := ["_law_script", "_law_k", "_law_amount", "_law_draw_here", "_law_paths_here", "_law_fits", "_law_p", "_law_q", "_law_down_here", "_law_some", "_law_one"]
theorem sc_law : FnScope N_law ["_law_script"] (defScope S_law) := ⟨rfl, rfl, rfl, by decide +kernel, rfl, by decide +kernel, by decide +kernel⟩
def cs_PATH_SIGNS : Str := ⟨#[97, 98, 99, 100, 101, 102, 103, 104, 105, 106, 107, 108, 109, 110, 111, 112, 113, 114, 115, 116, 117, 118, 119, 120, 121, 122, 65, 66, 67, 68, 69, 70, 71, 72, 73, 74, 75, 76, 77, 78, 79, 80, 81, 82, 83, 84, 85, 86, 87, 88, 89, 90, 48, 49, 50, 51, 52, 53, 54, 55, 56, 57, 33, 34, 36, 38, 39, 40, 41, 42, 43, 44, 45, 46, 47, 58, 60, 61, 62, 64, 91, 92, 93, 94, 95, 96, 123, 124, 125, 126]⟩
structure Txt (K : PySem.W.Frag) (mg : Str → Option Value) where
  f_s1_is_path_sign : Addr
  d_s1_is_path_sign : FuncData
  F_s1_is_path_sign : Fun K "s1_is_path_sign" "s1_is_path_sign" S_s1_is_path_sign f_s1_is_path_sign d_s1_is_path_sign
  g_s1_is_path_sign : mg "s1_is_path_sign" = some (.ref f_s1_is_path_sign)
  f_is_path : Addr
  d_is_path : FuncData
  F_is_path : Fun K "is_path" "is_path" S_is_path f_is_path d_is_path
  g_is_path : mg "is_path" = some (.ref f_is_path)
  f_need_path : Addr
  d_need_path : FuncData
  F_need_path : Fun K "need_path" "need_path" S_need_path f_need_path d_need_path
  g_need_path : mg "need_path" = some (.ref f_need_path)
  f_default_path : Addr
  d_default_path : FuncData
  F_default_path : Fun K "default_path" "default_path" S_default_path f_default_path d_default_path
  g_default_path : mg "default_path" = some (.ref f_default_path)
  f_s1_path_fits : Addr
  d_s1_path_fits : FuncData
  F_s1_path_fits : Fun K "s1_path_fits" "s1_path_fits" S_s1_path_fits f_s1_path_fits d_s1_path_fits
  g_s1_path_fits : mg "s1_path_fits" = some (.ref f_s1_path_fits)
  f_path_fits : Addr
  d_path_fits : FuncData
  F_path_fits : Fun K "path_fits" "path_fits" S_path_fits f_path_fits d_path_fits
  g_path_fits : mg "path_fits" = some (.ref f_path_fits)
  f__law_mixed : Addr
  d__law_mixed : FuncData
  F__law_mixed : Fun K "_law_mixed" "_law_mixed" S__law_mixed f__law_mixed d__law_mixed
  g__law_mixed : mg "_law_mixed" = some (.ref f__law_mixed)
  f__law_draw : Addr
  d__law_draw : FuncData
  F__law_draw : Fun K "_law_draw" "_law_draw" S__law_draw f__law_draw d__law_draw
  g__law_draw : mg "_law_draw" = some (.ref f__law_draw)
  f__law_digit : Addr
  d__law_digit : FuncData
  F__law_digit : Fun K "_law_digit" "_law_digit" S__law_digit f__law_digit d__law_digit
  g__law_digit : mg "_law_digit" = some (.ref f__law_digit)
  f__law_paths : Addr
  d__law_paths : FuncData
  F__law_paths : Fun K "_law_paths" "_law_paths" S__law_paths f__law_paths d__law_paths
  g__law_paths : mg "_law_paths" = some (.ref f__law_paths)
  f__law_down : Addr
  d__law_down : FuncData
  F__law_down : Fun K "_law_down" "_law_down" S__law_down f__law_down d__law_down
  g__law_down : mg "_law_down" = some (.ref f__law_down)
  f_law : Addr
  d_law : FuncData
  F_law : Fun K "law" "law" S_law f_law d_law
  g_law : mg "law" = some (.ref f_law)
  c_MOST_PATH : ∃ t, mg "MOST_PATH" = some (.int (200) t)
  c_PATH_SIGNS : ∃ t, mg "PATH_SIGNS" = some (.str cs_PATH_SIGNS t)
  n_all : mg "all" = none
  n_enumerate : mg "enumerate" = none
  n_int : mg "int" = none
  n_isinstance : mg "isinstance" = none
  n_len : mg "len" = none
  n_range : mg "range" = none
  n_str : mg "str" = none
  n_sum : mg "sum" = none
section
variable {K : PySem.W.Frag} {mg : Str → Option Value}
theorem Txt.b_s1_is_path_sign (T : Txt K mg) : Binds K T.d_s1_is_path_sign ["sign"] [] := T.F_s1_is_path_sign.binds fun _ _ _ _ _ _ us hl => match us, hl with | [_], _ => rfl
theorem Txt.b_is_path (T : Txt K mg) : Binds K T.d_is_path ["value"] [] := T.F_is_path.binds fun _ _ _ _ _ _ us hl => match us, hl with | [_], _ => rfl
theorem Txt.b_need_path (T : Txt K mg) : Binds K T.d_need_path ["value"] [] := T.F_need_path.binds fun _ _ _ _ _ _ us hl => match us, hl with | [_], _ => rfl
theorem Txt.b_default_path (T : Txt K mg) : Binds K T.d_default_path ["path"] [] := T.F_default_path.binds fun _ _ _ _ _ _ us hl => match us, hl with | [_], _ => rfl
theorem Txt.b_s1_path_fits (T : Txt K mg) : Binds K T.d_s1_path_fits ["path", "own"] [] := T.F_s1_path_fits.binds fun _ _ _ _ _ _ us hl => match us, hl with | [_, _], _ => rfl
theorem Txt.b_path_fits (T : Txt K mg) : Binds K T.d_path_fits ["path", "own"] [] := T.F_path_fits.binds fun _ _ _ _ _ _ us hl => match us, hl with | [_, _], _ => rfl
theorem Txt.b__law_mixed (T : Txt K mg) : Binds K T.d__law_mixed ["_law_cell", "_law_k"] [] := T.F__law_mixed.binds fun _ _ _ _ _ _ us hl => match us, hl with | [_, _], _ => rfl
theorem Txt.b__law_draw (T : Txt K mg) : Binds K T.d__law_draw ["_law_cell", "_law_k"] [] := T.F__law_draw.binds fun _ _ _ _ _ _ us hl => match us, hl with | [_, _], _ => rfl
theorem Txt.b__law_digit (T : Txt K mg) : Binds K T.d__law_digit ["_law_draw_here", "_law_span"] [] := T.F__law_digit.binds fun _ _ _ _ _ _ us hl => match us, hl with | [_, _], _ => rfl
theorem Txt.b__law_paths (T : Txt K mg) : Binds K T.d__law_paths ["_law_draw_here"] [] := T.F__law_paths.binds fun _ _ _ _ _ _ us hl => match us, hl with | [_], _ => rfl
theorem Txt.b__law_down (T : Txt K mg) : Binds K T.d__law_down ["_law_path"] [] := T.F__law_down.binds fun _ _ _ _ _ _ us hl => match us, hl with | [_], _ => rfl
theorem Txt.b_law (T : Txt K mg) : Binds K T.d_law ["_law_script"] [] := T.F_law.binds fun _ _ _ _ _ _ us hl => match us, hl with | [_], _ => rfl
end
/-! ### prelude -/
/-- all that was tracked but d is as it was -/
def Sx (d : Addr) (H H' : Hp) : Prop := ∀ b o, b ≠ d → H b = some o → H' b = some o
theorem Sx.refl (d : Addr) (H : Hp) : Sx d H H := fun _ _ _ h => h
theorem Sx.trans {d : Addr} {H H1 H2 : Hp} (a : Sx d H H1) (b : Sx d H1 H2) : Sx d H H2 := fun c o n h => b c o n (a c o n h)
theorem Sx.of {d : Addr} {H H' : Hp} (a : Same H H') : Sx d H H' := fun b o _ h => a b o h
theorem Sx.seq {K : PySem.W.Frag} {d : Addr} {H H' : Hp} {a : Addr} {xs : List V} (e : Sx d H H') (n : a ≠ d) (h : SqL K H a xs) : SqL K H' a xs := by
  rcases h with (h | ⟨o, h⟩) | h
  · exact .inl (.inl (e _ _ n h))
  · exact .inl (.inr ⟨o, e _ _ n h⟩)
  · exact .inr h
theorem same_upd {H : Hp} {p : Addr} {o : HO} (h : H p = none) : Same H (upd H p o) := fun b x e => by
  rw [upd_ne (ne_of_none e h)]
  exact e
theorem same_back {H H' : Hp} {p : Addr} (e : Same H H') (h : H' p = none) : H p = none := e.free h
/-- the source of drawn numbers stands at d, having turned n times at most -/
def Dr (d : Addr) (n : Nat) (H : Hp) : Prop := ∃ left cell turns : Int,
  H d = some (.dK [(.inr ("left" : Str), .int left), (.inr ("cell" : Str), .int cell), (.inr ("turns" : Str), .int turns)]) ∧ 0 ≤ turns ∧ turns ≤ n
theorem Dr.mono {d : Addr} {n m : Nat} {H : Hp} (h : Dr d n H) (e : n ≤ m) : Dr d m H := by
  obtain ⟨a, b, c, h1, h2, h3⟩ := h
  exact ⟨a, b, c, h1, h2, by omega⟩
theorem Dr.same {d : Addr} {n : Nat} {H H' : Hp} (h : Dr d n H) (e : Same H H') : Dr d n H' := by
  obtain ⟨a, b, c, h1, h2, h3⟩ := h
  exact ⟨a, b, c, e _ _ h1, h2, h3⟩
theorem Dr.ne {d p : Addr} {n : Nat} {H : Hp} (h : Dr d n H) (e : H p = none) : p ≠ d := by
  obtain ⟨a, b, c, h1, _⟩ := h
  exact (ne_of_none h1 e).symm
theorem same_sx {d : Addr} {H0 Ha Hb Hc : Hp} (a : Same H0 Ha) (n : Ha d = none) (b : Same Ha Hb) (c : Sx d Hb Hc) : Same H0 Hc := fun x o h => c x o (ne_of_none (a x o h) n) (b x o (a x o h))

/-! ### prelude2 -/
open SX (S S_len S_cat S_inj)
theorem ifT {c : Bool} {A B : Prop} (hc : c = true) (h : A) : if c = true then A else B := by
  rw [if_pos hc]
  exact h
theorem ifF {c : Bool} {A B : Prop} (hc : c = false) (h : B) : if c = true then A else B := by
  rw [hc, if_neg Bool.false_ne_true]
  exact h
theorem if2 {c : Bool} {A B : Prop} (h1 : c = true → A) (h2 : c = false → B) : if c = true then A else B := by
  cases c with
  | true => exact ifT rfl (h1 rfl)
  | false => exact ifF rfl (h2 rfl)
theorem dS (a b : List Nat) : decide (V.str (S a) = V.str (S b)) = decide (a = b) := by
  by_cases e : a = b
  · subst e
    rw [decide_eq_true rfl, decide_eq_true rfl]
  · rw [decide_eq_false e, decide_eq_false fun z => e (S_inj (V.str.inj z))]
theorem dI (a b : Int) : decide (V.int a = V.int b) = decide (a = b) := by
  by_cases e : a = b
  · subst e
    rw [decide_eq_true rfl, decide_eq_true rfl]
  · rw [decide_eq_false e, decide_eq_false fun z => e (V.int.inj z)]
theorem dB (a b : Bool) : decide (V.bl a = V.bl b) = (a == b) := by
  cases a <;> cases b <;> rfl
theorem ndB (a : Bool) : (!decide (V.bl a = V.bl a)) = false := by
  rw [decide_eq_true rfl]
  rfl
/-- sizes -/
theorem szS {l : List Nat} (h : l.length ≤ 100000) : (S l).length ≤ sizeLine := by
  rw [S_len]
  exact Nat.le_trans h (by decide)
theorem sz {n : Nat} (h : n ≤ 100000) : n ≤ sizeLine := Nat.le_trans h (by decide)
theorem szlt {n : Nat} (h : n ≤ 100000) : n < sizeLine := Nat.lt_of_le_of_lt h (by decide)
theorem szadd {a b : List Nat} (h : a.length + b.length ≤ 100000) : (S a).length + (S b).length ≤ sizeLine := by
  rw [S_len, S_len]
  exact Nat.le_trans h (by decide)
/-! texts as lists of signs -/
theorem at_S {a b : List Nat} {i : Nat} (hb : b ≠ []) : StrLaws.At (S a) (S b) (S a).length i ↔ TL.pre b (a.drop i) = true := TL.at_iff (x := S a) (y := S b) hb i
theorem startswith_S (a b : List Nat) : Txt.startswith (S a) (S b) = b.isPrefixOf a := by
  have e : Txt.startswith (S a) (S b) = (decide (0 + b.length ≤ a.length) && (a.toArray.extract 0 (0 + b.length) == b.toArray)) := by
    have h1 : Txt.startswith (S a) (S b) = (decide (0 + (S b).length ≤ (S a).length) && ((S a).cps.extract 0 (0 + (S b).length) == (S b).cps)) := rfl
    rw [h1, S_len, S_len]
  rw [e]
  apply Bool.eq_iff_iff.mpr
  rw [List.isPrefixOf_iff_prefix, Bool.and_eq_true, decide_eq_true_eq, beq_iff_eq, Nat.zero_add]
  constructor
  · rintro ⟨h1, h2⟩
    have h3 : (a.toArray.extract 0 b.length).toList = b := by rw [h2]
    rw [Array.toList_extract] at h3
    have h4 : a.take b.length = b := by simpa [List.extract_eq_take_drop] using h3
    have h5 := List.take_append_drop b.length a
    rw [h4] at h5
    exact ⟨_, h5⟩
  · rintro ⟨t, rfl⟩
    refine ⟨by simp, ?_⟩
    apply Array.toList_inj.mp
    rw [Array.toList_extract]
    simp [List.extract_eq_take_drop]
theorem endswith_S (a b : List Nat) : Txt.endswith (S a) (S b) = b.isSuffixOf a := by
  have e : Txt.endswith (S a) (S b) = (decide (0 + b.length ≤ a.length) && (a.toArray.extract (a.length - b.length) (a.length - b.length + b.length) == b.toArray)) := by
    have h1 : Txt.endswith (S a) (S b) = (decide (0 + (S b).length ≤ (S a).length) && ((S a).cps.extract ((S a).length - (S b).length) ((S a).length - (S b).length + (S b).length) == (S b).cps)) := rfl
    rw [h1, S_len, S_len]
  rw [e]
  apply Bool.eq_iff_iff.mpr
  rw [List.isSuffixOf_iff_suffix, Bool.and_eq_true, decide_eq_true_eq, beq_iff_eq, Nat.zero_add]
  constructor
  · rintro ⟨h1, h2⟩
    have h3 : (a.toArray.extract (a.length - b.length) (a.length - b.length + b.length)).toList = b := by rw [h2]
    rw [Array.toList_extract] at h3
    have h4 : a.drop (a.length - b.length) = b := by
      have h5 : (a.drop (a.length - b.length)).take b.length = b := by simpa [List.extract_eq_take_drop] using h3
      rw [List.take_of_length_le (by rw [List.length_drop]; omega)] at h5
      exact h5
    have h5 := List.take_append_drop (a.length - b.length) a
    rw [h4] at h5
    exact ⟨_, h5⟩
  · rintro ⟨t, rfl⟩
    refine ⟨by simp, ?_⟩
    apply Array.toList_inj.mp
    rw [Array.toList_extract]
    have e2 : (t ++ b).length - b.length = t.length := by simp
    rw [e2]
    simp [List.extract_eq_take_drop]
/-- the cut of a list -/
def cut {α : Type} (l : List α) (lo hi : Option Int) : List α := (l.drop (HT.sIx l.length 0 lo)).take (HT.sIx l.length l.length hi - HT.sIx l.length 0 lo)
theorem cutS_S (l : List Nat) (lo hi : Option Int) : cutS (S l) lo hi = S (cut l lo hi) := by
  unfold cutS cut
  rw [S_len]
theorem cutV_map {α : Type} (l : List α) (f : α → V) (lo hi : Option Int) : cutV (l.map f) lo hi = (cut l lo hi).map f := by
  unfold cutV cut
  rw [List.length_map, List.map_take, List.map_drop]
theorem cut_len {α : Type} (l : List α) (lo hi : Option Int) : (cut l lo hi).length ≤ l.length := by
  unfold cut
  rw [List.length_take, List.length_drop]
  omega
/-- [:k] -/
theorem cut_to {α : Type} (l : List α) (k : Nat) : cut l none (some (k : Int)) = l.take k := by
  unfold cut
  rw [HT.sIx_none, HT.sIx_nat, List.drop_zero, Nat.sub_zero]
  by_cases h : k ≤ l.length
  · rw [Nat.min_eq_left h]
  · rw [Nat.min_eq_right (by omega), List.take_of_length_le (Nat.le_refl _), List.take_of_length_le (by omega)]
/-- [k:] -/
theorem cut_from {α : Type} (l : List α) (k : Nat) : cut l (some (k : Int)) none = l.drop k := by
  unfold cut
  rw [HT.sIx_none, HT.sIx_nat]
  by_cases h : k ≤ l.length
  · rw [Nat.min_eq_left h, List.take_of_length_le (by rw [List.length_drop]; exact Nat.le_refl _)]
  · rw [Nat.min_eq_right (by omega), List.drop_of_length_le (Nat.le_refl _), List.drop_of_length_le (by omega), List.take_nil]
/-- [:-1] -/
theorem cut_init {α : Type} (l : List α) : cut l none (some (-1)) = l.dropLast := by
  unfold cut
  rw [HT.sIx_none]
  have e : HT.sIx l.length l.length (some (-1)) = l.length - 1 := by
    have h1 : HT.sIx l.length l.length (some (-1)) = (if (-1 : Int) < 0 then ((-1 : Int) + (l.length : Int)).toNat else min (-1 : Int).toNat l.length) := rfl
    rw [h1, if_pos (by decide)]
    omega
  rw [e, List.drop_zero, Nat.sub_zero, List.dropLast_eq_take]
theorem atI_neg1 {α : Type} {l : List α} {v : α} (h : l.getLast? = some v) : atI l (-1) = some v := by
  have hne : l ≠ [] := fun z => by
    rw [z] at h
    cases h
  have e : l = l.dropLast ++ [v] := by
    have h1 := List.dropLast_concat_getLast hne
    have h2 : l.getLast hne = v := Option.some.inj ((List.getLast?_eq_some_getLast hne).symm.trans h)
    rw [h2] at h1
    exact h1.symm
  rw [e]
  exact atI_last _ v
theorem cut_t1 {α : Type} (l : List α) : cut l none (some 1) = l.take 1 := cut_to l 1
theorem cut_f1 {α : Type} (l : List α) : cut l (some 1) none = l.drop 1 := cut_from l 1
theorem and_false {c : Bool} {A B : Prop} (h : c = true → B → A) (k : B) : if c = true then A else B := by
  cases c with
  | true => exact ifT rfl (h rfl k)
  | false => exact ifF rfl k

/-! ### prelude3 -/
/-- a comprehension over a text's signs, one value each -/
theorem lc_str {z : List Nat} {f : Nat → V} {j : Nat} {te : TE} {vs : List Nat} {σ : L2.St} {H1 : Hp} {D : Addr} {Qd : Hp → Prop} (hD : H1 D = none) (hz : z.length ≤ 100000)
    (hw : ∀ x, wipe ((wipe σ vs).set j (some x)) vs = wipe σ vs)
    (hs : ∀ c ∈ z, ∀ H', Same H1 H' → ∀ Q : VK, (∀ H'', Same H' H'' → Q (f c) H'') → te ((wipe σ vs).set j (some (.str (S [c])))) H' Q)
    (hd : ∀ H', Same H1 H' → H' D = some (.lst (z.map f)) → Qd H') :
    ∃ W : Nat → Nat → Hp → Prop, (∃ m, W 0 m (upd H1 D (.lst []))) ∧ ∀ i m H, W i m H →
      ((Its (S z)).stop i H ∧ Qd H) ∨ ((Its (S z)).go i H ∧ ∃ Nx : Hp → Prop, (∀ H', Nx H' → ∃ m', m' < m ∧ W (i + 1) m' H') ∧ ∀ x H', (Its (S z)).yld i H x H' → gName j x (wipe σ vs) H' fun σ2 H2 => wipe σ2 vs = wipe σ vs ∧ tYes σ2 H2 fun b H3 =>
        if b = true then te σ2 H3 fun y H4 => ∃ acc, H4 D = some (.lst acc) ∧ acc.length < sizeLine ∧ Nx (upd H4 D (.lst (acc ++ [y]))) else Nx H3) := by
  have size : (S z).cps.size = z.length := by simp [S]
  refine lc_it (n := (S z).cps.size) walk_str (fun i H' => Same H1 H' ∧ H' D = some (.lst ((z.take i).map f))) ⟨same_upd hD, by rw [upd_same]; rfl⟩ (fun _ _ _ _ => trivial) (fun i x H H' hi hP hY => ?_) (fun H' hP => ?_)
  · obtain ⟨rfl, c, hc, rfl⟩ := hY
    have hc' : z[i]? = some c := by
      have : (S z).cps[i]? = z[i]? := by simp [S]
      rw [← this]
      exact hc
    refine ⟨hw _, ?_⟩
    refine hs c (List.mem_of_getElem? hc') _ hP.1 _ fun H'' s'' => ⟨_, s'' _ _ hP.2, szlt ?_, ?_, ?_⟩
    · rw [List.length_map, List.length_take]
      omega
    · intro b o e
      have nb : b ≠ D := ne_of_none e hD
      rw [upd_ne nb]
      exact s'' _ _ (hP.1 _ _ e)
    · rw [upd_same, List.take_add_one, hc', List.map_append]
      rfl
  · refine hd H' hP.1 ?_
    rw [hP.2, size, List.take_length]
/-- .. over a list, one value each -/
theorem lc_lst {K : PySem.W.Frag} {a : Addr} {xs : List V} {f : V → V} {j : Nat} {te : TE} {vs : List Nat} {σ : L2.St} {H1 : Hp} {D : Addr} {Qd : Hp → Prop} (hD : H1 D = none) (hz : xs.length ≤ 100000) (hx : SqL K H1 a xs)
    (hw : ∀ x, wipe ((wipe σ vs).set j (some x)) vs = wipe σ vs)
    (hs : ∀ c ∈ xs, ∀ H', Same H1 H' → ∀ Q : VK, (∀ H'', Same H' H'' → Q (f c) H'') → te ((wipe σ vs).set j (some c)) H' Q)
    (hd : ∀ H', Same H1 H' → H' D = some (.lst (xs.map f)) → Qd H') :
    ∃ W : Nat → Nat → Hp → Prop, (∃ m, W 0 m (upd H1 D (.lst []))) ∧ ∀ i m H, W i m H →
      ((Itl K a).stop i H ∧ Qd H) ∨ ((Itl K a).go i H ∧ ∃ Nx : Hp → Prop, (∀ H', Nx H' → ∃ m', m' < m ∧ W (i + 1) m' H') ∧ ∀ x H', (Itl K a).yld i H x H' → gName j x (wipe σ vs) H' fun σ2 H2 => wipe σ2 vs = wipe σ vs ∧ tYes σ2 H2 fun b H3 =>
        if b = true then te σ2 H3 fun y H4 => ∃ acc, H4 D = some (.lst acc) ∧ acc.length < sizeLine ∧ Nx (upd H4 D (.lst (acc ++ [y]))) else Nx H3) := by
  refine lc_it (n := xs.length) walk_list (fun i H' => Same H1 H' ∧ H' D = some (.lst ((xs.take i).map f))) ⟨same_upd hD, by rw [upd_same]; rfl⟩ (fun _ _ _ hP => hP.1.seq hx) (fun i x H H' hi hP hY => ?_) (fun H' hP => ?_)
  · obtain ⟨rfl, hc⟩ := hY
    refine ⟨hw _, ?_⟩
    refine hs x (List.mem_of_getElem? hc) _ hP.1 _ fun H'' s'' => ⟨_, s'' _ _ hP.2, szlt ?_, ?_, ?_⟩
    · rw [List.length_map, List.length_take]
      omega
    · intro b o e
      have nb : b ≠ D := ne_of_none e hD
      rw [upd_ne nb]
      exact s'' _ _ (hP.1 _ _ e)
    · rw [upd_same, List.take_add_one, hc, List.map_append]
      rfl
  · refine hd H' hP.1 ?_
    rw [hP.2, List.take_length]
theorem map_bl {α : Type} (l : List α) (p : α → Bool) : l.map (fun c => V.bl (p c)) = (l.map p).map V.bl := by
  rw [List.map_map]
  rfl
theorem all_map {α : Type} (l : List α) (p : α → Bool) : (l.map p).all id = l.all p := by
  rw [List.all_map]
  rfl
/-- isinstance(x, str) of a text -/
theorem isi_str {K : PySem.W.Frag} {x : Str} {H : Hp} {Q : VK} (q : Q (.bl true) H) : rIsi K [.str x, .ty "str"] H Q :=
  ⟨.str x, .ty "str", .type "str", .type "str", true, rfl, .ty _, .base (.str _), kit_ty (by decide +kernel), q⟩
/-- an item of a written list at a drawn place -/
theorem at_some {xs : List V} {i : Int} (h0 : 0 ≤ i) (h1 : i < xs.length) : ∃ v, atI xs i = some v ∧ v ∈ xs := by
  have h2 : i.toNat < xs.length := by omega
  refine ⟨xs[i.toNat], ?_, List.getElem_mem h2⟩
  exact at_of (by omega) (List.getElem?_eq_getElem h2)
theorem qb {Q : VK} {H : Hp} {a b : Bool} (e : a = b) (q : Q (.bl a) H) : Q (.bl b) H := e ▸ q
theorem qs {Q : VK} {H : Hp} {a b : List Nat} (e : a = b) (q : Q (.str (S a)) H) : Q (.str (S b)) H := e ▸ q

/-! ### prelude4 -/
/-! lists of texts, compared -/
abbrev vS (l : List Nat) : V := .str (S l)
def dS1 (l : List Nat) : PyData := .str (S l)
def dL (ws : List (List Nat)) : PyData := .list (ws.map dS1)
theorem dpAll_S {K : PySem.W.Frag} {H : Hp} : ∀ ws : List (List Nat), DpAll K H (ws.map vS) (ws.map dS1)
  | [] => .nil
  | _ :: r => .cons (.str _) (dpAll_S r)
theorem dp_L {K : PySem.W.Frag} {H : Hp} {a : Addr} {ws : List (List Nat)} (h : SqL K H a (ws.map vS)) : Dp K H (.ref a) (dL ws) := .lst h (dpAll_S ws)
def Asc (l : List Nat) : Prop := ∀ c ∈ l, c < 128
theorem asc_ok {l : List Nat} (h : Asc l) : PyData.strOk (S l) = true := by
  show (l.toArray.all (· < 0x110000)) = true
  rw [← Array.all_toList, List.all_eq_true]
  exact fun c hc => decide_eq_true (Nat.lt_trans (h c hc) (by decide))
theorem canLay_S : ∀ ws : List (List Nat), (∀ w ∈ ws, Asc w) → PyData.canLayAll0 (ws.map dS1) = true
  | [], _ => rfl
  | w :: r, h => by
    rw [List.map_cons, PyData.canLayAll0, canLay_S r fun x hx => h x (List.mem_cons_of_mem _ hx)]
    have h1 : PyData.canLay0 (dS1 w) = true := by
      show PyData.canLay0 (.str (S w)) = true
      rw [PyData.canLay0]
      exact asc_ok (h w List.mem_cons_self)
    rw [h1]
    rfl
theorem depth_S : ∀ ws : List (List Nat), PyData.depthAll (ws.map dS1) ≤ 1
  | [] => by
    show 0 ≤ 1
    decide
  | w :: r => by
    rw [List.map_cons, PyData.depthAll]
    have h1 := depth_S r
    have h2 : PyData.depth (dS1 w) ≤ 1 := by
      show PyData.depth (.str (S w)) ≤ 1
      rw [PyData.depth]
      decide
    omega
theorem shaped_L {ws : List (List Nat)} (h : ∀ w ∈ ws, Asc w) : SeqAt.shaped (dL ws) = true := by
  unfold SeqAt.shaped dL
  rw [PyData.canLay0, canLay_S ws h, PyData.depth, decide_eq_true]
  · rfl
  · have := depth_S ws
    omega
theorem eqvAll_S : ∀ a b : List (List Nat), PyData.eqvAll (a.map dS1) (b.map dS1) = decide (a = b)
  | [], [] => rfl
  | [], _ :: _ => rfl
  | _ :: _, [] => rfl
  | x :: a, y :: b => by
    rw [List.map_cons, List.map_cons, PyData.eqvAll, eqvAll_S a b]
    have h1 : PyData.eqv (dS1 x) (dS1 y) = decide (x = y) := by
      show PyData.eqv (.str (S x)) (.str (S y)) = _
      rw [PyData.eqv]
      exact SX.S_beq_eq
    rw [h1]
    apply Bool.eq_iff_iff.mpr
    rw [Bool.and_eq_true, decide_eq_true_eq, decide_eq_true_eq, decide_eq_true_eq, List.cons.injEq]
theorem eqv_L (a b : List (List Nat)) : PyData.eqv (dL a) (dL b) = decide (a = b) := by
  unfold dL
  rw [PyData.eqv]
  exact eqvAll_S a b
/-- the parts of a text between single signs -/
def parts (c : Nat) (l : List Nat) : List (List Nat) := TL.spl [c] 0 [] l
theorem split_S {c : Nat} (hc : c < 256) (l : List Nat) : (Txt.split (S l) (S [c])).map V.str = (parts c l).map vS := by
  rw [SX.split_S (a := l) (b := [c]) (by simp) (by simpa using hc), List.map_map]
  rfl
theorem spl_acc (c : Nat) : ∀ (l acc : List Nat), ∃ p r, TL.spl [c] 0 acc l = (acc ++ p) :: r ∧ TL.spl [c] 0 [] l = p :: r
  | [], acc => ⟨[], [], by rw [TL.spl_nil, List.append_nil], by rw [TL.spl_nil]⟩
  | x :: l, acc => by
    by_cases h : TL.pre [c] (x :: l) = true
    · exact ⟨[], TL.spl [c] ([c].length - 1) [] l, by rw [TL.spl_hit h, List.append_nil], by rw [TL.spl_hit h]⟩
    · have h' : TL.pre [c] (x :: l) = false := by simpa using h
      obtain ⟨p, r, e1, e2⟩ := spl_acc c l (acc ++ [x])
      obtain ⟨p', r', e3, e4⟩ := spl_acc c l ([] ++ [x])
      rw [e2] at e4
      cases e4
      exact ⟨x :: p, r, by rw [TL.spl_miss h', e1]; simp, by rw [TL.spl_miss h', e3]; simp⟩
theorem parts_nil (c : Nat) : parts c [] = [[]] := TL.spl_nil _ _ _
theorem parts_hit (c : Nat) (l : List Nat) : parts c (c :: l) = [] :: parts c l := by
  unfold parts
  rw [TL.spl_hit (by simp [TL.pre])]
  rfl
theorem parts_miss {c x : Nat} (h : x ≠ c) (l : List Nat) : ∃ p r, parts c l = p :: r ∧ parts c (x :: l) = (x :: p) :: r := by
  obtain ⟨p, r, e1, e2⟩ := spl_acc c l ([] ++ [x])
  refine ⟨p, r, e2, ?_⟩
  unfold parts
  rw [TL.spl_miss (by simp [TL.pre, h]), e1]
  rfl
theorem parts_ne (c : Nat) (l : List Nat) : parts c l ≠ [] := by
  obtain ⟨p, r, _, e⟩ := spl_acc c l []
  unfold parts
  rw [e]
  exact List.cons_ne_nil _ _
theorem parts_len (c : Nat) : ∀ l : List Nat, (parts c l).length ≤ l.length + 1
  | [] => by rw [parts_nil]; simp
  | x :: l => by
    have ih := parts_len c l
    by_cases h : x = c
    · subst h
      rw [parts_hit]
      simp only [List.length_cons]
      omega
    · obtain ⟨p, r, e1, e2⟩ := parts_miss h l
      rw [e1] at ih
      rw [e2]
      simp only [List.length_cons] at ih ⊢
      omega
theorem parts_cut (c : Nat) : ∀ a b : List Nat, parts c (a ++ c :: b) = parts c a ++ parts c b
  | [], b => by
    rw [List.nil_append, parts_hit, parts_nil]
    rfl
  | x :: a, b => by
    rw [List.cons_append]
    by_cases h : x = c
    · subst h
      rw [parts_hit, parts_hit, parts_cut]
      rfl
    · obtain ⟨p, r, e1, e2⟩ := parts_miss h a
      obtain ⟨p', r', e3, e4⟩ := parts_miss h (a ++ c :: b)
      rw [parts_cut, e1] at e3
      rw [e4, e2]
      cases e3
      rfl
theorem parts_one {c : Nat} : ∀ {l : List Nat}, c ∉ l → parts c l = [l]
  | [], _ => parts_nil c
  | x :: l, h => by
    rw [List.mem_cons, not_or] at h
    obtain ⟨p, r, e1, e2⟩ := parts_miss (fun z => h.1 z.symm) l
    rw [parts_one h.2] at e1
    cases e1
    exact e2
/-- glued again -/
theorem join_parts (c : Nat) : ∀ l : List Nat, TL.joinL [c] (parts c l) = l
  | [] => by
    rw [parts_nil]
    rfl
  | x :: l => by
    have ih := join_parts c l
    by_cases h : x = c
    · subst h
      rw [parts_hit]
      obtain ⟨p, r, e⟩ : ∃ p r, parts x l = p :: r := by
        cases e : parts x l with
        | nil => exact absurd e (parts_ne x l)
        | cons p r => exact ⟨p, r, rfl⟩
      rw [e] at ih ⊢
      show [] ++ ([x] ++ TL.joinL [x] (p :: r)) = x :: l
      rw [ih]
      rfl
    · obtain ⟨p, r, e1, e2⟩ := parts_miss h l
      rw [e1] at ih
      rw [e2]
      cases r with
      | nil =>
        have ih : p = l := ih
        rw [← ih]
        rfl
      | cons q r =>
        have ih : p ++ ([c] ++ TL.joinL [c] (q :: r)) = l := ih
        rw [← ih]
        rfl
theorem join_S (y : List Nat) (ws : List (List Nat)) : Txt.join (S y) (ws.map S) = S (TL.joinL y ws) := by
  rw [TL.join_eq]
  refine TL.ext_tl ?_
  rw [TL.tl_join, SX.map_S_tl]
theorem parts_asc (c : Nat) : ∀ {l : List Nat}, Asc l → ∀ w ∈ parts c l, Asc w
  | [], h, w, hw => by
    rw [parts_nil] at hw
    rcases List.mem_cons.mp hw with rfl | hw
    · exact h
    · cases hw
  | x :: l, h, w, hw => by
    have hl : Asc l := fun c hc => h c (List.mem_cons_of_mem _ hc)
    by_cases e : x = c
    · subst e
      rw [parts_hit] at hw
      rcases List.mem_cons.mp hw with rfl | hw
      · exact fun _ z => nomatch z
      · exact parts_asc x hl w hw
    · obtain ⟨p, r, e1, e2⟩ := parts_miss e l
      have ih := parts_asc c hl
      rw [e1] at ih
      rw [e2] at hw
      rcases List.mem_cons.mp hw with rfl | hw
      · intro z hz
        rcases List.mem_cons.mp hz with rfl | hz
        · exact h _ List.mem_cons_self
        · exact ih p List.mem_cons_self z hz
      · exact ih w (List.mem_cons_of_mem _ hw)
theorem empty_S : ("" : Str) = S [] := by decide +kernel
theorem join_size (c : Nat) : ∀ ws : List (List Nat), (ws.map (·.length)).sum + ws.length ≤ (TL.joinL [c] ws).length + 1
  | [] => by simp
  | [x] => by
    show [x.length].sum + 1 ≤ x.length + 1
    simp
  | x :: y :: r => by
    have ih := join_size c (y :: r)
    show (x.length :: (y :: r).map (·.length)).sum + ((y :: r).length + 1) ≤ (x ++ ([c] ++ TL.joinL [c] (y :: r))).length + 1
    rw [List.sum_cons, List.length_append, List.length_append, List.length_singleton]
    omega
theorem size_join {c : Nat} {ws : List (List Nat)} (h : (TL.joinL [c] ws).length ≤ 1000000) : ((ws.map S).map (·.length)).sum + (ws.map S).length * (S [c]).length ≤ 16777216 := by
  have := join_size c ws
  rw [SX.lens, List.length_map, S_len, List.length_singleton, Nat.mul_one]
  omega

/-! ### prelude5 -/
/-- a comprehension over a list, with a test -/
theorem lc_fil {K : PySem.W.Frag} {a : Addr} {xs : List V} {b : V → Bool} {j : Nat} {tt : TT} {te : TE} {vs : List Nat} {σ : L2.St} {H1 : Hp} {D : Addr} {Qd : Hp → Prop} (hD : H1 D = none) (hz : xs.length ≤ 100000) (hx : SqL K H1 a xs)
    (hw : ∀ x, wipe ((wipe σ vs).set j (some x)) vs = wipe σ vs)
    (hs : ∀ c ∈ xs, ∀ H', Same H1 H' → ∀ Q : Bool → Hp → Prop, (∀ H'', Same H' H'' → Q (b c) H'') → tt ((wipe σ vs).set j (some c)) H' Q)
    (he : ∀ c ∈ xs, ∀ H', Same H1 H' → ∀ Q : VK, Q c H' → te ((wipe σ vs).set j (some c)) H' Q)
    (hd : ∀ H', Same H1 H' → H' D = some (.lst (xs.filter b)) → Qd H') :
    ∃ W : Nat → Nat → Hp → Prop, (∃ m, W 0 m (upd H1 D (.lst []))) ∧ ∀ i m H, W i m H →
      ((Itl K a).stop i H ∧ Qd H) ∨ ((Itl K a).go i H ∧ ∃ Nx : Hp → Prop, (∀ H', Nx H' → ∃ m', m' < m ∧ W (i + 1) m' H') ∧ ∀ x H', (Itl K a).yld i H x H' → gName j x (wipe σ vs) H' fun σ2 H2 => wipe σ2 vs = wipe σ vs ∧ tt σ2 H2 fun b H3 =>
        if b = true then te σ2 H3 fun y H4 => ∃ acc, H4 D = some (.lst acc) ∧ acc.length < sizeLine ∧ Nx (upd H4 D (.lst (acc ++ [y]))) else Nx H3) := by
  refine lc_it (n := xs.length) walk_list (fun i H' => Same H1 H' ∧ H' D = some (.lst ((xs.take i).filter b))) ⟨same_upd hD, by rw [upd_same]; rfl⟩ (fun _ _ _ hP => hP.1.seq hx) (fun i x H H' hi hP hY => ?_) (fun H' hP => ?_)
  · obtain ⟨rfl, hc⟩ := hY
    have mx := List.mem_of_getElem? hc
    refine ⟨hw _, ?_⟩
    refine hs x mx _ hP.1 _ fun H'' s'' => ?_
    have e1 : xs.take (i + 1) = xs.take i ++ [x] := by rw [List.take_add_one, hc]; rfl
    refine if2 (fun hb => ?_) (fun hb => ?_)
    · refine he x mx H'' (hP.1.trans s'') _ ⟨_, s'' _ _ hP.2, szlt ?_, ?_, ?_⟩
      · have := List.length_filter_le b (xs.take i)
        rw [List.length_take] at this
        omega
      · intro c o e
        rw [upd_ne (ne_of_none e hD)]
        exact s'' _ _ (hP.1 _ _ e)
      · rw [upd_same, e1, List.filter_append, List.filter_cons_of_pos hb]
        rfl
    · refine ⟨hP.1.trans s'', ?_⟩
      rw [s'' _ _ hP.2, e1, List.filter_append, List.filter_cons_of_neg (by rw [hb]; exact Bool.false_ne_true), List.filter_nil, List.append_nil]
  · refine hd H' hP.1 ?_
    rw [hP.2, List.take_length]
theorem putK_len {κ : Type} [DecidableEq κ] (kvs : List (κ × V)) (k : κ) (v : V) : (putK kvs k v).length ≤ kvs.length + 1 := by
  unfold putK
  by_cases a : (kvs.any fun kv => decide (kv.1 = k)) = true
  · rw [if_pos a, List.length_map]
    omega
  · rw [if_neg a, List.length_append]
    exact Nat.le_refl _
theorem dgetT {H : Hp} {a b : Addr} {kvs : List (List Key × V)} {k : List Key} {v : V} (e : H a = some (.dT kvs)) (eb : H b = some (.tup (k.map kV))) (g : valV kvs k = some v) : DGet H a (.ref b) (some v) := g ▸ DGet.t e eb

section
variable {P : Program} {w : World} {K : PySem.W.Frag} {mg : Str → Option Value} {base : Heap}
/-! ### s1_is_path_sign -/

def pathSign (c : Nat) : Bool := decide (c ∈ cs_PATH_SIGNS.cps.toList)
def sp_s1_is_path_sign (K : PySem.W.Frag) : Sp := fun vs H Q _ => ∃ c : Nat, vs = [.str ⟨#[c]⟩] ∧ Q (.bl (pathSign c)) H
theorem ok_s1_is_path_sign (T : Txt K mg) : FnOk P w K mg base CX0 1 T.f_s1_is_path_sign T.d_s1_is_path_sign ["sign"] (sp_s1_is_path_sign K) := by
  refine T.F_s1_is_path_sign.ok sc_s1_is_path_sign (fun vs H Q E h => ?_) (fun cdv A outer s H vs Q E hr h => ?_)
  · obtain ⟨c, rfl, _⟩ := h
    rfl
  · obtain ⟨c, rfl, q⟩ := h
    refine ⟨_, (pss_one (ps_ret (pe_cmpR op_in_sign (pv 0) (pe_glob (v := .str cs_PATH_SIGNS) (by rfl) T.c_PATH_SIGNS.choose_spec ⟨_, rfl⟩) (by rfl)))), ?_⟩
    exact ⟨_, rfl, c, _, rfl, rfl, q⟩

/-! ### is_path -/
def isPath (l : List Nat) : Bool := decide (1 ≤ l.length ∧ l.length ≤ 200) && (l.head? == some 47) && l.all pathSign
def sp_is_path (K : PySem.W.Frag) : Sp := fun vs H Q _ => ∃ l : List Nat, vs = [.str (S l)] ∧ l.length ≤ 100000 ∧ ∀ H', Same H H' → Q (.bl (isPath l)) H'
theorem slash : ("/" : Str) = S [47] := by decide +kernel
theorem ok_is_path (T : Txt K mg) : FnOk P w K mg base CX0 2 T.f_is_path T.d_is_path ["value"] (sp_is_path K) := by
  refine T.F_is_path.ok sc_is_path (fun vs H Q E h => ?_) (fun cdv A outer s H vs Q E hr h => ?_)
  · obtain ⟨l, rfl, _⟩ := h
    rfl
  · obtain ⟨l, rfl, hl, q⟩ := h
    refine ⟨_, (pss_cons (ps_if (PW.pt (pw_or (pt_not (pt_val (pe_callB call_isi (by rfl) T.n_isinstance (by decide +kernel) (pa_cons (pv 0) (pa_cons (pe_bltn (v := .ty "str") (by rfl) T.n_str (by decide +kernel) rfl) pa_nil))))) (pw_or (pt_not (pt_chain op_le op_le pe_int (pe_callB call_len_str (by rfl) T.n_len (by decide +kernel) (pa_cons (pv 0) pa_nil)) (pe_glob (v := .int (200)) (by rfl) T.c_MOST_PATH.choose_spec ⟨_, rfl⟩))) (pw_or1 (pt_cmpR op_ne (pe_ix ix_str (pv 0) pe_int (fun _ _ => rfl)) pe_str (nomark _))))))
      (pss_one (ps_ret pe_bl))
      pss_nil)
      (pss_one (ps_ret (pe_callB (cr_all rfl) (by rfl) T.n_all (by decide +kernel) (pa_cons (pe_lc (own := [("sign", 1)]) (g := gName 1) (tt := tYes) (by rfl) sc_is_path.nd (pi_str (pv 0)) (blkOk_by (own := [("sign", 1)]) (N := N_is_path) (sc := defScope S_is_path) (by decide +kernel)) (fun _ _ _ _ _ => (pg_name (i := 1) sc_is_path.nd rfl (.inl rfl))) (fun _ _ _ _ _ => pts_nil) (fun _ _ _ _ _ => (pe_call (ok_s1_is_path_sign T) (hr.mono (by decide)) (by rfl) T.g_s1_is_path_sign T.F_s1_is_path_sign.kp T.b_s1_is_path_sign .nil pass0 (pa_cons (pv 1) pa_nil)))) pa_nil))))), ?_⟩
    refine ⟨_, rfl, .str (S l), .ty "str", .type "str", .type "str", true, rfl, .ty _, .base (.str _), kit_ty (by decide +kernel), true, rfl, ?_⟩
    refine ⟨_, rfl, S l, rfl, szS hl, 1, _, rfl, rfl, _, rfl, ?_⟩
    refine if2 (fun h1 => ?_) (fun h1 => ?_)
    · refine ⟨_, _, rfl, rfl, _, rfl, ?_⟩
      rw [S_len] at h1
      refine if2 (fun h2 => ?_) (fun h2 => ?_)
      · rw [S_len] at h2
        have e : isPath l = false := by
          unfold isPath
          rw [decide_eq_false (by simp at h2; omega)]
          rfl
        exact qb e (q H (Same.refl H))
      · rw [S_len] at h2
        obtain ⟨c, r, rfl⟩ : ∃ c r, l = c :: r := by
          cases l with
          | nil => simp at h1
          | cons c r => exact ⟨c, r, rfl⟩
        have h3 : 1 ≤ (c :: r).length ∧ (c :: r).length ≤ 200 := by simp at h1 h2 ⊢; omega
        refine ⟨_, rfl, S (c :: r), 0, c, rfl, rfl, szS hl, atI_nat (j := 0) rfl, rfl, _, rfl, ?_⟩
        rw [slash, dS]
        refine if2 (fun h4 => ?_) (fun h4 => ?_)
        · have e : isPath (c :: r) = false := by
            unfold isPath
            rw [decide_eq_true h3]
            have : c ≠ 47 := by simpa using h4
            simp [this]
          exact qb e (q H (Same.refl H))
        · have e4 : c = 47 := by simpa using h4
          subst e4
          refine ⟨_, rfl, S (47 :: r), rfl, fun D hD => ?_⟩
          refine lc_str (f := fun c => .bl (pathSign c)) hD hl (fun _ => rfl) (fun c hc H' s' Q' q' => ?_) (fun H' s' hL => ?_)
          · exact ⟨_, rfl, c, rfl, q' H' (Same.refl H')⟩
          · refine ⟨D, (47 :: r).map pathSign, rfl, ?_, ?_⟩
            · rw [← map_bl]
              exact SqL.of hL
            · rw [all_map]
              have e : isPath (47 :: r) = (47 :: r).all pathSign := by
                unfold isPath
                rw [decide_eq_true h3]
                rfl
              exact qb e (q H' s')
    · rw [S_len] at h1
      have e : isPath l = false := by
        unfold isPath
        rw [decide_eq_false (by simp at h1; omega)]
        rfl
      exact ⟨false, rfl, qb e (q H (Same.refl H))⟩

/-! ### need_path -/
def sp_need_path (K : PySem.W.Frag) : Sp := fun vs H Q _ => ∃ l : List Nat, vs = [.str (S l)] ∧ isPath l = true ∧ ∀ H', Same H H' → Q .non H'
theorem isPath_len {l : List Nat} (h : isPath l = true) : 1 ≤ l.length ∧ l.length ≤ 200 := by
  unfold isPath at h
  rw [Bool.and_eq_true, Bool.and_eq_true] at h
  exact of_decide_eq_true h.1.1
theorem isPath_head {l : List Nat} (h : isPath l = true) : l.head? = some 47 := by
  unfold isPath at h
  rw [Bool.and_eq_true, Bool.and_eq_true] at h
  exact eq_of_beq h.1.2
theorem ok_need_path (T : Txt K mg) : FnOk P w K mg base CX0 3 T.f_need_path T.d_need_path ["value"] (sp_need_path K) := by
  refine T.F_need_path.ok sc_need_path (fun vs H Q E h => ?_) (fun cdv A outer s H vs Q E hr h => ?_)
  · obtain ⟨l, rfl, _⟩ := h
    rfl
  · obtain ⟨l, rfl, hl, q⟩ := h
    refine ⟨_, (pss_one (ps_if (pt_not (pt_val (pe_call (ok_is_path T) (hr.mono (by decide)) (by rfl) T.g_is_path T.F_is_path.kp T.b_is_path .nil pass0 (pa_cons (pv 0) pa_nil))))
      (pss_one ps_never)
      pss_nil)), ?_⟩
    refine ⟨_, rfl, l, rfl, by have := isPath_len hl; omega, fun H' s' => ?_⟩
    rw [hl]
    exact ⟨true, rfl, q H' s'⟩

/-! ### default_path -/
/-- what stands in front of the last slash -/
def dirOf (l : List Nat) : List Nat := (l.reverse.dropWhile fun c => c != 47).tail.reverse
def defaultPath (l : List Nat) : List Nat := if dirOf l = [] then [47] else dirOf l
theorem dropWhile_no {p : Nat → Bool} : ∀ {a b : List Nat}, (∀ c ∈ a, p c = true) → (a ++ b).dropWhile p = b.dropWhile p
  | [], _, _ => rfl
  | x :: a, b, h => by
    rw [List.cons_append, List.dropWhile_cons_of_pos (h x List.mem_cons_self)]
    exact dropWhile_no fun c hc => h c (List.mem_cons_of_mem _ hc)
theorem dirOf_at {p q : List Nat} (h : 47 ∉ q) : dirOf (p ++ 47 :: q) = p := by
  unfold dirOf
  rw [List.reverse_append, List.reverse_cons, List.append_assoc, dropWhile_no fun c hc => ?_]
  · show (([47] ++ p.reverse).dropWhile _).tail.reverse = p
    rw [List.singleton_append, List.dropWhile_cons_of_neg (by decide), List.tail_cons, List.reverse_reverse]
  · have : c ≠ 47 := fun z => h (by rw [← z]; exact List.mem_reverse.mp hc)
    simpa using this
theorem last_split {c : Nat} : ∀ {l : List Nat}, c ∈ l → ∃ p q, l = p ++ c :: q ∧ c ∉ q
  | [], h => by simp at h
  | x :: l, h => by
    by_cases m : c ∈ l
    · obtain ⟨p, q, e, n⟩ := last_split m
      exact ⟨x :: p, q, by rw [e]; rfl, n⟩
    · have e : c = x := (List.mem_cons.mp h).resolve_right m
      exact ⟨[], l, by rw [e]; rfl, m⟩
theorem pre_one {c : Nat} {l : List Nat} : TL.pre [c] l = true ↔ l.head? = some c := by
  cases l with
  | nil => simp [TL.pre]
  | cons x l => simp [TL.pre]
theorem rindex_S {p q : List Nat} {c : Nat} (h : c ∉ q) : Txt.rindex0 (S (p ++ c :: q)) (S [c]) = some p.length := by
  have at1 : StrLaws.At (S (p ++ c :: q)) (S [c]) (S (p ++ c :: q)).length p.length := (at_S (by simp)).mpr (pre_one.mpr (by rw [List.drop_left']; rfl; rfl))
  rcases StrLaws.last_spec (S (p ++ c :: q)) (S [c]) with ⟨h1, h2⟩ | ⟨i, h1, h2, h3⟩
  · exact absurd at1 (h2 _)
  · have hi : i = p.length := by
      rcases Nat.lt_trichotomy i p.length with g | g | g
      · exact absurd at1 (h3 _ g)
      · exact g
      · exfalso
        have h4 := pre_one.mp ((at_S (by simp)).mp h2)
        have h5 : (p ++ c :: q)[i]? = some c := by rw [← h4, List.head?_drop]
        rw [List.getElem?_append_right (by omega)] at h5
        obtain ⟨k, hk⟩ : ∃ k, i - p.length = k + 1 := ⟨i - p.length - 1, by omega⟩
        rw [hk, List.getElem?_cons_succ] at h5
        exact h (List.mem_of_getElem? h5)
    rw [← hi]
    exact h1
def sp_default_path (K : PySem.W.Frag) : Sp := fun vs H Q _ => ∃ l : List Nat, vs = [.str (S l)] ∧ isPath l = true ∧ ∀ H', Same H H' → Q (.str (S (defaultPath l))) H'
theorem isPath_mem {l : List Nat} (h : isPath l = true) : 47 ∈ l := List.mem_of_head? (isPath_head h)
theorem ok_default_path (T : Txt K mg) : FnOk P w K mg base CX0 4 T.f_default_path T.d_default_path ["path"] (sp_default_path K) := by
  refine T.F_default_path.ok sc_default_path (fun vs H Q E h => ?_) (fun cdv A outer s H vs Q E hr h => ?_)
  · obtain ⟨l, rfl, _⟩ := h
    rfl
  · obtain ⟨l, rfl, hl, q⟩ := h
    have hlen := isPath_len hl
    obtain ⟨u, v, e, n⟩ := last_split (isPath_mem hl)
    have hd : dirOf l = u := by rw [e]; exact dirOf_at n
    refine ⟨_, (pss_cons (ps_expr (pe_call (ok_need_path T) (hr.mono (by decide)) (by rfl) T.g_need_path T.F_need_path.kp T.b_need_path .nil pass0 (pa_cons (pv 0) pa_nil)))
      (pss_one (ps_ret (pe_orT (pe_slice sl_str (pv 0) po_none (po_some (pe_bmS PySem.F.plainAttrs_str PySem.F.slot_str_rindex PySem.F.type_str_rindex (mt_rindexX rfl takes0) (pv 0) (pa_cons pe_str pa_nil)))) (pe_one pe_str))))), ?_⟩
    refine ⟨_, rfl, l, rfl, hl, fun H' s' => ?_⟩
    refine ⟨_, rfl, _, rfl, rfl, S l, S [47], rfl, congrArg (fun x => [V.str x]) slash, fun k hk => ?_, fun hk => ?_⟩
    · have hk2 : k = u.length := by
        rw [e, rindex_S n] at hk
        exact (Option.some.inj hk).symm
      subst hk2
      refine ⟨_, rfl, S l, rfl, szS (by omega), ?_⟩
      rw [cutS_S, cut_to]
      have ht : l.take u.length = u := by rw [e, List.take_left']; rfl
      rw [ht]
      have hu : u.length ≤ 100000 := by
        have := congrArg List.length e
        rw [List.length_append] at this
        omega
      refine ⟨((S u).length : Int) != 0, ⟨szS hu, rfl⟩, ?_⟩
      rw [S_len]
      have q1 := q H' s'
      unfold defaultPath at q1
      rw [hd] at q1
      cases u with
      | nil =>
        show Q (.str ("/" : Str)) H'
        rw [slash]
        exact q1
      | cons c r => exact q1
    · rw [e, rindex_S n] at hk
      cases hk

/-! ### s1_path_fits -/
def pathFits (p o : List Nat) : Bool := decide (p = o) || (o.isPrefixOf p && (o.getLast? == some 47 || decide ((p.drop o.length).take 1 = [47])))
def sp_s1_path_fits (K : PySem.W.Frag) : Sp := fun vs H Q _ => ∃ p o : List Nat, vs = [.str (S p), .str (S o)] ∧ p.length ≤ 100000 ∧ o.length ≤ 100000 ∧ o ≠ [] ∧ Q (.bl (pathFits p o)) H
theorem ok_s1_path_fits (T : Txt K mg) : FnOk P w K mg base CX0 1 T.f_s1_path_fits T.d_s1_path_fits ["path", "own"] (sp_s1_path_fits K) := by
  refine T.F_s1_path_fits.ok sc_s1_path_fits (fun vs H Q E h => ?_) (fun cdv A outer s H vs Q E hr h => ?_)
  · obtain ⟨p, o, rfl, _⟩ := h
    rfl
  · obtain ⟨p, o, rfl, hp, ho, hne, q⟩ := h
    refine ⟨_, (pss_one (ps_ret (pe_or (pe_cmpR op_eq (pv 0) (pv 1) (nomark _)) (pe_one (pe_and (pe_m1 PySem.F.slot_str_startswith PySem.F.type_str_startswith mt_startswith (pv 0) (pv 1)) (pe_one (pe_or (pe_cmpR op_eq (pe_ix ix_str (pv 1) (pe_un un_neg pe_int) (fun _ _ => rfl)) pe_str (nomark _)) (pe_one (pe_cmpR op_eq (pe_slice sl_str (pe_slice sl_str (pv 0) (po_some (pe_callB call_len_str (by rfl) T.n_len (by decide +kernel) (pa_cons (pv 1) pa_nil))) po_none) po_none (po_some pe_int)) pe_str (nomark _)))))))))), ?_⟩
    unfold pathFits at q
    refine ⟨_, rfl, _, rfl, rfl, _, rfl, ?_⟩
    rw [dS]
    refine if2 (fun h1 => ?_) (fun h1 => ?_)
    · rw [h1] at q
      exact q
    · rw [h1, Bool.false_or] at q
      refine ⟨_, rfl, ⟨_, rfl⟩, _, rfl, S p, S o, rfl, rfl, _, rfl, ?_⟩
      rw [startswith_S]
      refine if2 (fun h2 => ?_) (fun h2 => ?_)
      · rw [h2, Bool.true_and] at q
        have hl : o.getLast? = some (o.getLast hne) := List.getLast?_eq_some_getLast hne
        refine ⟨_, rfl, 1, rfl, S o, -1, o.getLast hne, rfl, rfl, szS ho, atI_neg1 hl, rfl, _, rfl, ?_⟩
        rw [slash, dS]
        rw [hl] at q
        refine if2 (fun h3 => ?_) (fun h3 => ?_)
        · have e3 : o.getLast hne = 47 := by simpa using h3
          rw [e3] at q
          exact q
        · have e3 : ¬ o.getLast hne = 47 := by simpa using h3
          have e4 : (some (o.getLast hne) == some 47) = false := by simpa using e3
          rw [e4, Bool.false_or] at q
          have e5 : cutS (S p) (some ((S o).length : Int)) none = S (p.drop o.length) := by rw [S_len, cutS_S, cut_from]
          refine ⟨_, rfl, _, rfl, S o, rfl, szS ho, _, rfl, S p, rfl, szS hp, 1, rfl, _, rfl, ?_, ?_⟩
          · rw [e5]
            exact szS (by rw [List.length_drop]; omega)
          · rw [e5, cutS_S, cut_t1]
            refine ⟨rfl, ?_⟩
            rw [dS]
            exact q
      · rw [h2, Bool.false_and] at q
        exact q

/-! ### path_fits -/
def sp_path_fits (K : PySem.W.Frag) : Sp := fun vs H Q _ => ∃ p o : List Nat, vs = [.str (S p), .str (S o)] ∧ isPath p = true ∧ isPath o = true ∧ ∀ H', Same H H' → Q (.bl (pathFits p o)) H'
theorem ok_path_fits (T : Txt K mg) : FnOk P w K mg base CX0 4 T.f_path_fits T.d_path_fits ["path", "own"] (sp_path_fits K) := by
  refine T.F_path_fits.ok sc_path_fits (fun vs H Q E h => ?_) (fun cdv A outer s H vs Q E hr h => ?_)
  · obtain ⟨p, o, rfl, _⟩ := h
    rfl
  · obtain ⟨p, o, rfl, hp, ho, q⟩ := h
    have lp := isPath_len hp
    have lo := isPath_len ho
    refine ⟨_, (pss_cons (ps_expr (pe_call (ok_need_path T) (hr.mono (by decide)) (by rfl) T.g_need_path T.F_need_path.kp T.b_need_path .nil pass0 (pa_cons (pv 0) pa_nil)))
      (pss_cons (ps_expr (pe_call (ok_need_path T) (hr.mono (by decide)) (by rfl) T.g_need_path T.F_need_path.kp T.b_need_path .nil pass0 (pa_cons (pv 1) pa_nil)))
      (pss_one (ps_ret (pe_call (ok_s1_path_fits T) (hr.mono (by decide)) (by rfl) T.g_s1_path_fits T.F_s1_path_fits.kp T.b_s1_path_fits .nil pass0 (pa_cons (pv 0) (pa_cons (pv 1) pa_nil))))))), ?_⟩
    refine ⟨_, rfl, p, rfl, hp, fun H1 s1 => ?_⟩
    refine ⟨_, rfl, o, rfl, ho, fun H2 s2 => ?_⟩
    exact ⟨_, rfl, _, rfl, p, o, rfl, by omega, by omega, fun z => by rw [z] at lo; exact absurd lo.1 (by decide), q H2 (s1.trans s2)⟩

/-! ### _law_mixed -/
def sp__law_mixed (K : PySem.W.Frag) : Sp := fun vs H Q _ => ∃ c k : Int, vs = [.int c, .int k] ∧ 0 ≤ k ∧ k ≤ 1000000000000 ∧ ∀ H' i, Same H H' → Q (.int i) H'
theorem ok__law_mixed (T : Txt K mg) : FnOk P w K mg base CX0 1 T.f__law_mixed T.d__law_mixed ["_law_cell", "_law_k"] (sp__law_mixed K) := by
  refine T.F__law_mixed.ok sc__law_mixed (fun vs H Q E h => ?_) (fun cdv A outer s H vs Q E hr h => ?_)
  · obtain ⟨c, k, rfl, _⟩ := h
    rfl
  · obtain ⟨c, k, rfl, h0, h1, q⟩ := h
    refine ⟨_, (pss_cons (ps_set (i := 2) sc__law_mixed.nd rfl (.inl rfl) (pe_op op_add (pe_op op_add (pe_op op_modN (pe_callTy call_int1 (by rfl) T.n_int (by decide +kernel) (pa_cons (pv 0) pa_nil)) (pe_ix ix_list (pe_lst (pa_cons pe_int (pa_cons pe_int (pa_cons pe_int (pa_cons pe_int pa_nil))))) (pe_op op_modN (pe_callTy call_int1 (by rfl) T.n_int (by decide +kernel) (pa_cons (pv 1) pa_nil)) pe_int) (fun _ _ => rfl))) (pe_op op_mul pe_int (pv 1))) pe_int))
      (pss_one (ps_ret (pe_op op_modN (pe_callTy call_int1 (by rfl) T.n_int (by decide +kernel) (pa_cons (pe_op op_mul (pe_op op_modN (pe_callTy call_int1 (by rfl) T.n_int (by decide +kernel) (pa_cons (pe_op op_mul (pv 2) (pv 2)) pa_nil)) pe_int) pe_int) pa_nil)) pe_int)))), ?_⟩
    refine ⟨_, rfl, .inl ⟨c, rfl, ?_⟩⟩
    refine ⟨by show 4 ≤ sizeLine; decide, fun p hp => ?_⟩
    refine ⟨_, rfl, .inl ⟨k, rfl, k, 4, rfl, rfl, (by show (4 : Int) ≠ 0; decide), ?_⟩⟩
    have m0 : 0 ≤ k.fmod 4 := Int.fmod_nonneg_of_pos k (by decide)
    have m1 : k.fmod 4 < 4 := Int.fmod_lt_of_pos k (by decide)
    obtain ⟨v, hv, mv⟩ := at_some (xs := [V.int 1000000007, .int 998244353, .int 2147483629, .int 1000000009]) m0 m1
    obtain ⟨m, rfl, hm0, hm1⟩ : ∃ m : Int, v = .int m ∧ 0 < m ∧ m ≤ 2147483629 := by
      rcases List.mem_cons.mp mv with rfl | mv
      · exact ⟨_, rfl, by decide, by decide⟩
      rcases List.mem_cons.mp mv with rfl | mv
      · exact ⟨_, rfl, by decide, by decide⟩
      rcases List.mem_cons.mp mv with rfl | mv
      · exact ⟨_, rfl, by decide, by decide⟩
      rcases List.mem_cons.mp mv with rfl | mv
      · exact ⟨_, rfl, by decide, by decide⟩
      cases mv
    refine ⟨p, _, _, _, rfl, rfl, SqL.of upd_same, hv, c, m, rfl, rfl, by omega, ?_⟩
    have r0 : 0 ≤ c.fmod m := Int.fmod_nonneg_of_pos c hm0
    have r1 : c.fmod m < m := Int.fmod_lt_of_pos c hm0
    refine ⟨_, rfl, 7919, k, rfl, rfl, .inl ⟨by decide, by decide⟩, _, _, rfl, rfl, _, _, rfl, rfl, ?_⟩
    refine ⟨_, rfl, _, rfl, _, _, rfl, rfl, .inl ⟨by omega, by omega⟩, .inl ⟨_, rfl, _, 2147483647, rfl, rfl, (by show (2147483647 : Int) ≠ 0; decide), ?_⟩⟩
    refine ⟨_, 48271, rfl, rfl, .inr ⟨by decide, by decide⟩, .inl ⟨_, rfl, _, 2147483647, rfl, rfl, (by show (2147483647 : Int) ≠ 0; decide), ?_⟩⟩
    exact q _ _ (same_upd hp)

/-! ### _law_draw -/
def drK (l c t : Int) : List (Key × V) := [(.inr ("left" : Str), .int l), (.inr ("cell" : Str), .int c), (.inr ("turns" : Str), .int t)]
theorem get_left (l c t : Int) : valV (drK l c t) (.inr ("left" : Str)) = some (.int l) := valV_pos rfl
theorem lc_ne : ¬ (Sum.inr ("left" : Str) : Key) = .inr ("cell" : Str) := by decide +kernel
theorem lt_ne : ¬ (Sum.inr ("left" : Str) : Key) = .inr ("turns" : Str) := by decide +kernel
theorem ct_ne : ¬ (Sum.inr ("cell" : Str) : Key) = .inr ("turns" : Str) := by decide +kernel
theorem get_cell (l c t : Int) : valV (drK l c t) (.inr ("cell" : Str)) = some (.int c) := by
  unfold drK
  rw [valV_neg lc_ne, valV_pos rfl]
theorem get_turns (l c t : Int) : valV (drK l c t) (.inr ("turns" : Str)) = some (.int t) := by
  unfold drK
  rw [valV_neg lt_ne, valV_neg ct_ne, valV_pos rfl]
theorem put_map {kvs : List (Key × V)} {k : Key} {y : V} (v : V) (h : valV kvs k = some y) : putK kvs k v = kvs.map (fun kv => if kv.1 = k then (kv.1, v) else kv) := by
  unfold putK
  rw [valV_any, h]
  exact if_pos rfl
theorem put_left (l c t x : Int) : putK (drK l c t) (.inr ("left" : Str)) (.int x) = drK x c t := by
  have h1 : ¬ (Sum.inr ("cell" : Str) : Key) = .inr ("left" : Str) := fun z => lc_ne z.symm
  have h2 : ¬ (Sum.inr ("turns" : Str) : Key) = .inr ("left" : Str) := fun z => lt_ne z.symm
  rw [put_map _ (get_left l c t)]
  unfold drK
  rw [List.map_cons, List.map_cons, List.map_cons, if_pos rfl, if_neg h1, if_neg h2]
  rfl
theorem put_turns (l c t x : Int) : putK (drK l c t) (.inr ("turns" : Str)) (.int x) = drK l c x := by
  rw [put_map _ (get_turns l c t)]
  unfold drK
  rw [List.map_cons, List.map_cons, List.map_cons, if_neg lt_ne, if_neg ct_ne, if_pos rfl]
  rfl
theorem valV_out {k : Key} : ∀ {kvs : List (Key × V)}, k ∉ kvs.map (·.1) → valV kvs k = none
  | [], _ => rfl
  | p :: r, h => by
    rw [List.map_cons, List.mem_cons, not_or] at h
    rw [valV_neg fun z => h.1 z.symm]
    exact valV_out h.2
theorem merge_new : ∀ {kvs acc : List (Key × V)}, ((acc ++ kvs).map (·.1)).Nodup → mergeK acc kvs = acc ++ kvs
  | [], acc, _ => (List.append_nil acc).symm
  | p :: r, acc, h => by
    show mergeK (putK acc p.1 p.2) r = _
    have h1 : p.1 ∉ acc.map (·.1) := fun m => by
      rw [List.map_append, List.nodup_append] at h
      exact h.2.2 _ m _ (by simp) rfl
    rw [putK_new p.2 (valV_out h1)]
    have h2 : acc ++ p :: r = (acc ++ [p]) ++ r := by simp
    rw [h2] at h ⊢
    exact merge_new h
theorem Dr.mk {d : Addr} {n : Nat} {H : Hp} {l c t : Int} (h : H d = some (.dK (drK l c t))) (h0 : 0 ≤ t) (h1 : t ≤ n) : Dr d n H := ⟨l, c, t, h, h0, h1⟩
def sp__law_draw (K : PySem.W.Frag) : Sp := fun vs H Q _ => ∃ c k : Int, vs = [.int c, .int k] ∧ 0 ≤ k ∧ k ≤ 100 ∧ ∀ H' d, Same H H' → H d = none → Dr d 100000 H' → Q (.ref d) H'
theorem merge_dr (l c t : Int) : mergeK [] (drK l c t) = drK l c t := by
  refine merge_new (acc := []) ?_
  show ([Sum.inr ("left" : Str), .inr ("cell" : Str), .inr ("turns" : Str)] : List Key).Nodup
  decide +kernel
theorem ok__law_draw (T : Txt K mg) : FnOk P w K mg base CX0 1 T.f__law_draw T.d__law_draw ["_law_cell", "_law_k"] (sp__law_draw K) := by
  refine T.F__law_draw.ok sc__law_draw (fun vs H Q E h => ?_) (fun cdv A outer s H vs Q E hr h => ?_)
  · obtain ⟨c, k, rfl, _⟩ := h
    rfl
  · obtain ⟨c, k, rfl, h0, h1, q⟩ := h
    refine ⟨_, (pss_one (ps_ret (pe_disp (pps_cons pe_str (pe_ifExp (pt_cmpR op_ge (pv 0) (pe_op op_pow pe_int pe_int) (nomark _)) (pv 0) pe_int) (pps_cons pe_str (pv 0) (pps_cons pe_str (pe_op op_mul pe_int (pv 1)) pps_nil))) (by rfl) (by rfl) (fun z => by cases z) (by decide)))), ?_⟩
    refine fun p hp => ?_
    have fin : ∀ l : Int, Q (.ref p) (upd (upd H p (.dK [])) p (.dK (mergeK [] (drK l c (1000 * k))))) := fun l => by
      rw [merge_dr, upd_upd]
      exact q _ p (same_upd hp) hp (Dr.mk upd_same (by omega) (by omega))
    refine ⟨_, rfl, 10, 18, rfl, rfl, ⟨by decide, by decide, by decide⟩, c, _, rfl, rfl, _, rfl, ?_⟩
    refine if2 (fun _ => ?_) (fun _ => ?_)
    · exact ⟨_, rfl, _, rfl, _, rfl, 1000, k, rfl, rfl, .inl ⟨by decide, by decide⟩, upd_same, drK c c (1000 * k), rfl, (by show 3 ≤ 15; decide), fin c⟩
    · exact ⟨_, rfl, _, rfl, 1000, k, rfl, rfl, .inl ⟨by decide, by decide⟩, upd_same, drK 0 c (1000 * k), rfl, (by show 3 ≤ 15; decide), fin 0⟩

/-! ### _law_digit -/
theorem dgetD {H : Hp} {a : Addr} {kvs : List (Key × V)} {k : Key} {v : V} (e : H a = some (.dK kvs)) (g : valV kvs k = some v) : DGet H a (kV k) (some v) := g ▸ DGet.k e
theorem dr_len (l c t : Int) : (drK l c t).length < sizeLine := by show 3 < sizeLine; decide
theorem Sx.upd {d : Addr} {H H' : Hp} {o : HO} (e : Sx d H H') : Sx d H (upd H' d o) := fun b x n h => by
  rw [upd_ne n]
  exact e b x n h
def sp__law_digit (K : PySem.W.Frag) : Sp := fun vs H Q _ => ∃ (d : Addr) (n : Nat) (m : Int), vs = [.ref d, .int m] ∧ 0 < m ∧ m < 1000000000 ∧ n ≤ 100000000 ∧ Dr d n H ∧ ∀ H' i, Sx d H H' → Dr d (n + 4) H' → 0 ≤ i → i < m → Q (.int i) H'
theorem ok__law_digit (T : Txt K mg) : FnOk P w K mg base CX0 2 T.f__law_digit T.d__law_digit ["_law_draw_here", "_law_span"] (sp__law_digit K) := by
  refine T.F__law_digit.ok sc__law_digit (fun vs H Q E h => ?_) (fun cdv A outer s H vs Q E hr h => ?_)
  · obtain ⟨d, n, m, rfl, _⟩ := h
    rfl
  · obtain ⟨d, n, m, rfl, hm, hm2, hn, ⟨l0, c0, t0, hd0, ht0, ht1⟩, q⟩ := h
    have hd0 : H d = some (.dK (drK l0 c0 t0)) := hd0
    refine ⟨_, (C8.pss_cut (ps_if (pt_cmpR op_eq (pe_dget (hu_of hr) (pv 0) pe_str (fun _ _ => rfl)) pe_int (nomark _))
      (pss_one (ps_for PassesOwn.never rfl (pi_range1 (by rfl) T.n_range (pa_cons pe_int pa_nil)) (pg_name (i := 2) sc__law_digit.nd rfl (.inl rfl))
      (pss_cons (ps_dput (hu_of hr) (pv 0) pe_str (pe_op op_add (pe_dget (hu_of hr) (pv 0) pe_str (fun _ _ => rfl)) pe_int) rfl)
      (pss_one (ps_dput (hu_of hr) (pv 0) pe_str (pe_op op_add (pe_op op_mul (pe_dget (hu_of hr) (pv 0) pe_str (fun _ _ => rfl)) pe_int) (pe_call (ok__law_mixed T) (hr.mono (by decide)) (by rfl) T.g__law_mixed T.F__law_mixed.kp T.b__law_mixed .nil pass0 (pa_cons (pe_dget (hu_of hr) (pv 0) pe_str (fun _ _ => rfl)) (pa_cons (pe_dget (hu_of hr) (pv 0) pe_str (fun _ _ => rfl)) pa_nil)))) rfl)))))
      pss_nil)
      (pss_cons (ps_set (i := 3) sc__law_digit.nd rfl (.inl rfl) (pe_op op_modN (pe_callTy call_int1 (by rfl) T.n_int (by decide +kernel) (pa_cons (pe_dget (hu_of hr) (pv 0) pe_str (fun _ _ => rfl)) pa_nil)) (pv 1)))
      (pss_cons (ps_dput (hu_of hr) (pv 0) pe_str (pe_op op_fdivN (pe_callTy call_int1 (by rfl) T.n_int (by decide +kernel) (pa_cons (pe_dget (hu_of hr) (pv 0) pe_str (fun _ _ => rfl)) pa_nil)) (pv 1)) rfl)
      (pss_one (ps_ret (pv 3)))))), ?_⟩
    refine ⟨fun σ H' => ∃ y2 l t, σ = [some (.ref d), some (.int m), y2, none] ∧ Sx d H H' ∧ H' d = some (.dK (drK l c0 t)) ∧ 0 ≤ t ∧ t ≤ (n + 4 : Nat), ?_, ?_⟩
    · refine ⟨_, rfl, d, _, rfl, dgetD hd0 (get_left l0 c0 t0), rfl, _, rfl, ?_⟩
      refine if2 (fun _ => ?_) (fun _ => ?_)
      · refine ⟨4, rfl, by decide, by decide, for_range (lo := 0) (n := 4) (fun i σ H' => ∃ y2 l t, σ = [some (.ref d), some (.int m), y2, none] ∧ Sx d H H' ∧ H' d = some (.dK (drK l c0 t)) ∧ 0 ≤ t ∧ t ≤ (n + i : Nat)) ?_ ?_ ?_⟩
        · exact ⟨none, l0, t0, rfl, Sx.refl d H, hd0, ht0, by omega⟩
        · rintro i σ H1 hi ⟨y2, l, t, rfl, s1, hd1, h0, h1⟩
          -- turns + 1
          refine ⟨_, rfl, d, _, rfl, dgetD hd1 (get_turns l c0 t), _, _, rfl, rfl, _, rfl, d, _, rfl, DPut.k (k := .inr ("turns" : Str)) hd1 (dr_len _ _ _), ?_⟩
          rw [put_turns]
          have hd2 : upd H1 d (.dK (drK l c0 (t + 1))) d = some (.dK (drK l c0 (t + 1))) := upd_same
          refine ⟨_, rfl, d, _, rfl, dgetD hd2 (get_left _ _ _), _, _, rfl, rfl, .inr ⟨by decide, by decide⟩, ?_⟩
          refine ⟨_, rfl, d, _, rfl, dgetD hd2 (get_cell _ _ _), _, rfl, d, _, rfl, dgetD hd2 (get_turns _ _ _), c0, t + 1, rfl, by omega, by omega, fun H3 i3 s3 => ?_⟩
          have hd3 := s3 _ _ hd2
          refine ⟨_, _, rfl, rfl, _, rfl, d, _, rfl, DPut.k (k := .inr ("left" : Str)) hd3 (dr_len _ _ _), ?_⟩
          rw [put_left]
          exact ⟨_, _, t + 1, rfl, ((s1.upd).trans (Sx.of s3)).upd, upd_same, by omega, by omega⟩
        · rintro σ H1 ⟨y2, l, t, rfl, s1, hd1, h0, h1⟩
          exact ⟨y2, l, t, rfl, s1, hd1, h0, h1⟩
      · exact ⟨none, l0, t0, rfl, Sx.refl d H, hd0, ht0, by omega⟩
    · rintro σ H1 ⟨y2, l, t, rfl, s1, hd1, h0, h1⟩
      have r0 : 0 ≤ l.fmod m := Int.fmod_nonneg_of_pos l hm
      have r1 : l.fmod m < m := Int.fmod_lt_of_pos l hm
      refine ⟨_, rfl, d, _, rfl, dgetD hd1 (get_left _ _ _), .inl ⟨l, rfl, _, rfl, l, m, rfl, rfl, by omega, ?_⟩⟩
      refine ⟨_, rfl, d, _, rfl, dgetD hd1 (get_left _ _ _), .inl ⟨l, rfl, _, rfl, l, m, rfl, rfl, ⟨by omega, by omega⟩, ?_⟩⟩
      refine ⟨_, rfl, d, _, rfl, DPut.k (k := .inr ("left" : Str)) hd1 (dr_len _ _ _), ?_⟩
      rw [put_left]
      exact ⟨_, rfl, q _ _ s1.upd (Dr.mk upd_same h0 (by omega)) r0 r1⟩
/-- a written text at a drawn place -/
theorem pickS {ws : List Str} {ta : TA} {m : Int} {σ : L2.St} {H : Hp} {Q : VK} {d : Addr} {n i : Nat} (hv : ∀ (σ : L2.St) (H : Hp) (Q : List V → Hp → Prop), Q (ws.map V.str) H → ta σ H Q) (hl : (ws.length : Int) = m)
    (hi : σ[i]? = some (some (.ref d))) (h0 : 0 < m) (h1 : m ≤ 1000) (hn : n ≤ 100000000) (hD : Dr d n H) (q : ∀ H' x, Sx d H H' → Dr d (n + 4) H' → x ∈ ws → Q (.str x) H') :
    tOp (rIxL K) (tLst ta) (tCall (sp__law_digit K) [] E0 (tCons (tVar i) (tCons (tC (.int m)) tNil))) σ H Q := by
  have hs : (ws.map V.str).length = ws.length := by rw [List.length_map]
  refine hv σ H _ ⟨sz (by omega), fun p hp => ?_⟩
  refine ⟨_, hi, d, n, m, rfl, h0, by omega, hn, hD.same (same_upd hp), fun H' k s' D' k0 k1 => ?_⟩
  obtain ⟨v, hv, mv⟩ := at_some (xs := ws.map V.str) k0 (by rw [hs, hl]; exact k1)
  obtain ⟨x, mx, rfl⟩ := List.mem_map.mp mv
  have np : p ≠ d := hD.ne hp
  exact ⟨p, _, k, _, rfl, rfl, SqL.of (s' _ _ np upd_same), hv, q H' x ((Sx.of (same_upd hp)).trans s') D' mx⟩

/-! ### _law_paths -/
structure PathL (l : List Nat) (k : Nat) : Prop where
  hd : l.head? = some 47
  all : l.all pathSign = true
  len : l.length ≤ k
theorem PathL.ok {l : List Nat} {k : Nat} (h : PathL l k) (hk : k ≤ 200) : isPath l = true := by
  have h1 : 1 ≤ l.length := by
    cases l with
    | nil => exact absurd h.hd (by simp)
    | cons c r => simp
  unfold isPath
  rw [decide_eq_true ⟨h1, Nat.le_trans h.len hk⟩, h.all, h.hd]
  rfl
theorem PathL.mono {l : List Nat} {k j : Nat} (h : PathL l k) (e : k ≤ j) : PathL l j := ⟨h.hd, h.all, Nat.le_trans h.len e⟩
theorem PathL.more {l : List Nat} {k j : Nat} {x : Str} (h : PathL l k) (hx : (x.cps.toList.all pathSign && decide (x.cps.toList.length ≤ j)) = true) : PathL (l ++ x.cps.toList) (k + j) := by
  rw [Bool.and_eq_true, decide_eq_true_eq] at hx
  refine ⟨?_, ?_, ?_⟩
  · rw [List.head?_append, h.hd]
    rfl
  · rw [List.all_append, h.all, hx.1]
    rfl
  · rw [List.length_append]
    have := h.len
    omega
theorem path0 : PathL [47] 1 := ⟨rfl, by decide +kernel, by decide⟩
theorem PathL.dir {l : List Nat} {k : Nat} (h : PathL l k) (hk : 1 ≤ k) : PathL (defaultPath l) k := by
  obtain ⟨u, v, e, n⟩ := last_split (List.mem_of_head? h.hd)
  unfold defaultPath
  rw [e, dirOf_at n]
  by_cases z : u = []
  · rw [if_pos z]
    exact path0.mono hk
  · rw [if_neg z]
    have h1 := h.hd
    have h2 := h.all
    have h3 := h.len
    rw [e] at h1 h2 h3
    refine ⟨?_, ?_, ?_⟩
    · cases u with
      | nil => exact absurd rfl z
      | cons c r => exact h1
    · rw [List.all_append, Bool.and_eq_true] at h2
      exact h2.1
    · rw [List.length_append] at h3
      omega
theorem S_app (l : List Nat) (x : Str) : S l ++ x = S (l ++ x.cps.toList) := by
  conv => lhs; rw [← SX.S_tl x]
  exact S_cat _ _
theorem w1_ok : ∀ x ∈ (["a", "/", "a/", "/b", "b/a", "//"] : List Str), (x.cps.toList.all pathSign && decide (x.cps.toList.length ≤ 3)) = true := by decide +kernel
def sp__law_paths (K : PySem.W.Frag) : Sp := fun vs H Q _ => ∃ (d : Addr) (n : Nat), vs = [.ref d] ∧ n ≤ 90000000 ∧ Dr d n H ∧ ∀ (H' : Hp) (p : Addr) (ws : List (List Nat)), Sx d H H' → H p = none → H' p = some (.lst (ws.map vS)) → (∀ w ∈ ws, PathL w 30) → ws.length = 7 → ws.head? = some [47] → Q (.ref p) H'
theorem ok__law_paths (T : Txt K mg) : FnOk P w K mg base CX0 5 T.f__law_paths T.d__law_paths ["_law_draw_here"] (sp__law_paths K) := by
  refine T.F__law_paths.ok sc__law_paths (fun vs H Q E h => ?_) (fun cdv A outer s H vs Q E hr h => ?_)
  · obtain ⟨d, n, rfl, _⟩ := h
    rfl
  · obtain ⟨d, n, rfl, hn, hD, q⟩ := h
    refine ⟨_, (pss_cons (ps_set (i := 1) sc__law_paths.nd rfl (.inl rfl) (pe_lst (pa_cons pe_str pa_nil)))
      (pss_cons (ps_for PassesOwn.never rfl (pi_range1 (by rfl) T.n_range (pa_cons pe_int pa_nil)) (pg_name (i := 2) sc__law_paths.nd rfl (.inl rfl))
      (pss_cons (ps_set (i := 3) sc__law_paths.nd rfl (.inl rfl) (pe_ix ix_list (pv 1) (pe_call (ok__law_digit T) (hr.mono (by decide)) (by rfl) T.g__law_digit T.F__law_digit.kp T.b__law_digit .nil pass0 (pa_cons (pv 0) (pa_cons (pe_callB call_len_seq (by rfl) T.n_len (by decide +kernel) (pa_cons (pv 1) pa_nil)) pa_nil))) (fun _ _ => rfl)))
      (pss_cons (ps_set (i := 4) sc__law_paths.nd rfl (.inl rfl) (pe_ix ix_list (pe_lst (pa_cons pe_str (pa_cons pe_str (pa_cons pe_str (pa_cons pe_str (pa_cons pe_str (pa_cons pe_str pa_nil))))))) (pe_call (ok__law_digit T) (hr.mono (by decide)) (by rfl) T.g__law_digit T.F__law_digit.kp T.b__law_digit .nil pass0 (pa_cons (pv 0) (pa_cons pe_int pa_nil))) (fun _ _ => rfl)))
      (pss_one (ps_expr (pe_bm PySem.F.plainAttrs_list PySem.F.slot_list_append PySem.F.type_list_append mt_append (pv 1) (pa_cons (pe_ix ix_list (pe_lst (pa_cons (pe_op op_add_str (pv 3) (pv 4)) (pa_cons (pe_op op_add_str pe_str (pv 4)) (pa_cons (pe_call (ok_default_path T) (hr.mono (by decide)) (by rfl) T.g_default_path T.F_default_path.kp T.b_default_path .nil pass0 (pa_cons (pe_op op_add_str (pv 3) (pv 4)) pa_nil)) pa_nil)))) (pe_call (ok__law_digit T) (hr.mono (by decide)) (by rfl) T.g__law_digit T.F__law_digit.kp T.b__law_digit .nil pass0 (pa_cons (pv 0) (pa_cons pe_int pa_nil))) (fun _ _ => rfl)) pa_nil)))))))
      (pss_one (ps_ret (pv 1))))), ?_⟩
    refine ⟨by show 1 ≤ sizeLine; decide, fun p np => ?_⟩
    have npd : p ≠ d := hD.ne np
    refine ⟨6, rfl, by decide, by decide, for_range (lo := 0) (n := 6) (fun i σ H' => ∃ ws : List (List Nat), Sx d H H' ∧ Dr d (n + 12 * i) H' ∧ H' p = some (.lst (ws.map vS)) ∧ (∀ w ∈ ws, PathL w (1 + 4 * i)) ∧ ws.length = 1 + i ∧ ws.head? = some [47] ∧ ∃ y2 y3 y4, σ = [some (.ref d), some (.ref p), y2, y3, y4])
      ?_ ?_ ?_⟩
    · refine ⟨[[47]], Sx.of (same_upd np), hD.same (same_upd np), by rw [upd_same, slash]; rfl, fun w hw => ?_, rfl, rfl, _, _, _, rfl⟩
      rcases List.mem_cons.mp hw with rfl | hw
      · exact path0
      · cases hw
    · rintro i σ H1 hi ⟨ws, s1, D1, hp, hw, hl, hh, y2, y3, y4, rfl⟩
      refine ⟨_, rfl, _, rfl, _, rfl, p, _, rfl, .inl (SqL.of hp), d, _, _, rfl, by rw [List.length_map]; omega, by rw [List.length_map]; omega, by omega, D1, fun H2 j s2 D2 j0 j1 => ?_⟩
      obtain ⟨v, hv, mv⟩ := at_some j0 j1
      obtain ⟨w, mw, rfl⟩ := List.mem_map.mp mv
      have hp2 := s2 _ _ npd hp
      refine ⟨p, _, j, _, rfl, rfl, SqL.of hp2, hv, ?_⟩
      refine pickS (ws := ["a", "/", "a/", "/b", "b/a", "//"]) (fun _ _ _ q => q) rfl rfl (by decide) (by decide) (by omega) D2 (fun H3 x s3 D3 hx => ?_)
      have hx := w1_ok x hx
      have hx3 : x.cps.toList.length ≤ 3 := by
        rw [Bool.and_eq_true, decide_eq_true_eq] at hx
        exact hx.2
      have hp3 := s3 _ _ npd hp2
      have lw := (hw w mw).len
      have P1 : PathL (w ++ x.cps.toList) (1 + 4 * i + 3) := (hw w mw).more hx
      have P2 : PathL ([47] ++ x.cps.toList) (1 + 3) := path0.more hx
      have lx : x.length ≤ 3 := by rw [← SX.S_tl x, S_len]; exact hx3
      have eA : S w ++ x = S (w ++ x.cps.toList) := S_app w x
      have z1 : (S w).length + x.length ≤ sizeLine := by rw [S_len]; exact sz (by omega)
      have z2 : (S [47]).length + x.length ≤ sizeLine := by rw [S_len]; exact sz (by simp only [List.length_singleton]; omega)
      have eB : ("/" : Str) ++ x = S ([47] ++ x.cps.toList) := by rw [slash]; exact S_app [47] x
      have z3 : ("/" : Str).length + x.length ≤ sizeLine := by rw [slash]; exact z2
      refine ⟨_, rfl, .inl ⟨rfl, _, SqL.of hp3⟩, ?_⟩
      refine ⟨_, rfl, _, rfl, S w, x, rfl, rfl, z1, _, rfl, _, x, rfl, rfl, z3, _, rfl, _, rfl, S w, x, rfl, rfl, z1, w ++ x.cps.toList, by rw [eA]; rfl, P1.ok (by omega), fun H4 s4 => ?_⟩
      rw [eA, eB]
      refine ⟨by show 3 ≤ sizeLine; decide, fun r nr => ?_⟩
      have nrd : r ≠ d := (D3.same s4).ne nr
      refine ⟨_, rfl, d, _, 3, rfl, by decide, by decide, by omega, (D3.same s4).same (same_upd nr), fun H5 k s5 D5 k0 k1 => ?_⟩
      obtain ⟨v, hv, mv⟩ := at_some (xs := [vS (w ++ x.cps.toList), vS ([47] ++ x.cps.toList), vS (defaultPath (w ++ x.cps.toList))]) k0 k1
      obtain ⟨y, rfl, hy⟩ : ∃ y, v = vS y ∧ PathL y (1 + 4 * (i + 1)) := by
        rcases List.mem_cons.mp mv with rfl | mv
        · exact ⟨_, rfl, P1.mono (by omega)⟩
        rcases List.mem_cons.mp mv with rfl | mv
        · exact ⟨_, rfl, P2.mono (by omega)⟩
        rcases List.mem_cons.mp mv with rfl | mv
        · exact ⟨_, rfl, (P1.dir (by omega)).mono (by omega)⟩
        cases mv
      have hp5 := s5 _ _ npd ((same_upd nr) _ _ (s4 _ _ hp3))
      refine ⟨r, _, k, _, rfl, rfl, SqL.of (s5 _ _ nrd upd_same), hv, p, _, _, rfl, rfl, hp5, szlt (by rw [List.length_map]; omega), ?_⟩
      refine ⟨ws ++ [y], ?_, ?_, ?_, fun u hu => ?_, ?_, ?_, _, _, _, rfl⟩
      · have s25 := ((s2.trans s3).trans (Sx.of s4)).trans ((Sx.of (same_upd nr)).trans s5)
        intro b o nb e
        have nbp : b ≠ p := ne_of_none e np
        rw [upd_ne nbp]
        exact (s1.trans s25) b o nb e
      · obtain ⟨l, c, t, e, t0, t1⟩ := D5
        exact ⟨l, c, t, by rw [upd_ne (Ne.symm npd)]; exact e, t0, by omega⟩
      · rw [upd_same, List.map_append]
        rfl
      · rcases List.mem_append.mp hu with hu | hu
        · exact (hw u hu).mono (by omega)
        · rcases List.mem_cons.mp hu with rfl | hu
          · exact hy
          · cases hu
      · rw [List.length_append, hl]
        show 1 + i + 1 = _
        omega
      · rw [List.head?_append, hh]
        rfl
    · rintro σ H1 ⟨ws, s1, D1, hp, hw, hl, hh, y2, y3, y4, rfl⟩
      exact ⟨_, rfl, q H1 p ws s1 np hp (fun w m => (hw w m).mono (by decide)) hl hh⟩

/-! ### _law_down -/
/-- the default path, n times -/
def downN : Nat → List Nat → List Nat
  | 0, l => l
  | n + 1, l => defaultPath (downN n l)
def downs (l : List Nat) : List (List Nat) := (List.range (l.length + 1)).map fun i => downN i l
theorem downN_path {l : List Nat} {k : Nat} (h : PathL l k) (hk : 1 ≤ k) : ∀ n, PathL (downN n l) k
  | 0 => h
  | n + 1 => (downN_path h hk n).dir hk
def sp__law_down (K : PySem.W.Frag) : Sp := fun vs H Q _ => ∃ l : List Nat, vs = [vS l] ∧ PathL l 30 ∧ ∀ (H' : Hp) (p : Addr), Same H H' → H p = none → H' p = some (.lst ((downs l).map vS)) → Q (.ref p) H'
theorem ok__law_down (T : Txt K mg) : FnOk P w K mg base CX0 5 T.f__law_down T.d__law_down ["_law_path"] (sp__law_down K) := by
  refine T.F__law_down.ok sc__law_down (fun vs H Q E h => ?_) (fun cdv A outer s H vs Q E hr h => ?_)
  · obtain ⟨l, rfl, _⟩ := h
    rfl
  · obtain ⟨l, rfl, hl, q⟩ := h
    have ll := hl.len
    refine ⟨_, (pss_cons (ps_set (i := 1) sc__law_down.nd rfl (.inl rfl) (pe_lst (pa_cons (pv 0) pa_nil)))
      (pss_cons (ps_for PassesOwn.never rfl (pi_range1 (by rfl) T.n_range (pa_cons (pe_callB call_len_str (by rfl) T.n_len (by decide +kernel) (pa_cons (pv 0) pa_nil)) pa_nil)) (pg_name (i := 2) sc__law_down.nd rfl (.inl rfl))
      (pss_one (ps_expr (pe_bm PySem.F.plainAttrs_list PySem.F.slot_list_append PySem.F.type_list_append mt_append (pv 1) (pa_cons (pe_call (ok_default_path T) (hr.mono (by decide)) (by rfl) T.g_default_path T.F_default_path.kp T.b_default_path .nil pass0 (pa_cons (pe_ix ix_list (pv 1) (pe_un un_neg pe_int) (fun _ _ => rfl)) pa_nil)) pa_nil)))))
      (pss_one (ps_ret (pv 1))))), ?_⟩
    refine ⟨_, rfl, by show 1 ≤ sizeLine; decide, fun p np => ?_⟩
    refine ⟨_, rfl, S l, rfl, szS (by omega), _, rfl, by rw [S_len]; omega, by rw [S_len]; omega, for_range (lo := 0) (n := ((S l).length : Int).toNat) (fun i σ H' => Same H H' ∧ H' p = some (.lst (((List.range (i + 1)).map fun i => downN i l).map vS)) ∧ ∃ y2, σ = [some (vS l), some (.ref p), y2])
      ⟨same_upd np, by rw [upd_same]; rfl, _, rfl⟩ ?_ ?_⟩
    · rintro i σ H1 hi ⟨s1, hp, y2, rfl⟩
      rw [S_len] at hi
      have hg : (((List.range (i + 1)).map fun i => downN i l).map vS).getLast? = some (vS (downN i l)) := by
        rw [List.range_succ, List.map_append, List.map_append]
        exact List.getLast?_concat
      refine ⟨_, rfl, .inl ⟨rfl, _, SqL.of hp⟩, ?_⟩
      refine ⟨_, rfl, 1, rfl, p, _, _, _, rfl, rfl, SqL.of hp, atI_neg1 hg, downN i l, rfl, (downN_path hl (by decide) i).ok (by decide), fun H2 s2 => ?_⟩
      have hp2 := s2 _ _ hp
      refine ⟨p, _, _, rfl, rfl, hp2, szlt (by rw [List.length_map, List.length_map, List.length_range]; omega), ?_⟩
      refine ⟨fun b o e => ?_, ?_, _, rfl⟩
      · rw [upd_ne (ne_of_none e np)]
        exact s2 _ _ (s1 _ _ e)
      · rw [upd_same, List.range_succ (n := i + 1), List.map_append, List.map_append]
        rfl
    · rintro σ H1 ⟨s1, hp, y2, rfl⟩
      refine ⟨_, rfl, q H1 p s1 np ?_⟩
      rw [hp, S_len]
      rfl

/-! ### law -/
/-! ### to fit is an order -/
/-- an own path with its closing slash -/
def shut (o : List Nat) : List Nat := if o.getLast? = some 47 then o else o ++ [47]
theorem shut_pre (o : List Nat) : o <+: shut o := by
  unfold shut
  by_cases h : o.getLast? = some 47
  · rw [if_pos h]
    exact List.prefix_refl _
  · rw [if_neg h]
    exact List.prefix_append _ _
theorem fits_iff {p o : List Nat} : pathFits p o = true ↔ p = o ∨ shut o <+: p := by
  unfold pathFits shut
  rw [Bool.or_eq_true, decide_eq_true_eq, Bool.and_eq_true, Bool.or_eq_true, decide_eq_true_eq, beq_iff_eq, List.isPrefixOf_iff_prefix]
  by_cases e : o.getLast? = some 47
  · rw [if_pos e]
    constructor
    · rintro (h | ⟨h, _⟩)
      · exact .inl h
      · exact .inr h
    · rintro (h | h)
      · exact .inl h
      · exact .inr ⟨h, .inl e⟩
  · rw [if_neg e]
    constructor
    · rintro (h | ⟨⟨t, rfl⟩, h | h⟩)
      · exact .inl h
      · exact absurd h e
      · rw [List.drop_left'] at h
        · cases t with
          | nil => cases h
          | cons x t =>
            have : x = 47 := by simpa using h
            subst this
            exact .inr ⟨t, by simp⟩
        · rfl
    · rintro (h | ⟨t, rfl⟩)
      · exact .inl h
      · refine .inr ⟨⟨47 :: t, by simp⟩, .inr ?_⟩
        rw [List.append_assoc, List.drop_left']
        · rfl
        · rfl
theorem fits_refl (p : List Nat) : pathFits p p = true := fits_iff.mpr (.inl rfl)
theorem fits_root {p : List Nat} (h : p.head? = some 47) : pathFits p [47] = true := by
  refine fits_iff.mpr (.inr ?_)
  cases p with
  | nil => cases h
  | cons c r =>
    have : c = 47 := Option.some.inj h
    subst this
    exact ⟨r, rfl⟩
theorem fits_trans {p q r : List Nat} (a : pathFits p q = true) (b : pathFits q r = true) : pathFits p r = true := by
  rcases fits_iff.mp a with rfl | a
  · exact b
  rcases fits_iff.mp b with rfl | b
  · exact fits_iff.mpr (.inr a)
  exact fits_iff.mpr (.inr (b.trans ((shut_pre q).trans a)))
theorem fits_len {p q : List Nat} (a : pathFits p q = true) : q.length ≤ p.length := by
  rcases fits_iff.mp a with rfl | a
  · exact Nat.le_refl _
  · exact ((shut_pre q).trans a).length_le
theorem fits_anti {p q : List Nat} (a : pathFits p q = true) (b : pathFits q p = true) : p = q := by
  rcases fits_iff.mp a with e | a
  · exact e
  rcases fits_iff.mp b with e | b
  · exact e.symm
  have h1 := (shut_pre q).trans a
  have h2 := (shut_pre p).trans b
  exact (h1.eq_of_length (Nat.le_antisymm h1.length_le h2.length_le)).symm
theorem shut_cases (o : List Nat) : shut o = o ∨ shut o = o ++ [47] := by
  unfold shut
  by_cases h : o.getLast? = some 47
  · rw [if_pos h]
    exact .inl rfl
  · rw [if_neg h]
    exact .inr rfl
theorem fits_comp' {q r : List Nat} (h : shut q <+: shut r) : pathFits r q = true ∨ pathFits q r = true := by
  rcases shut_cases r with e | e
  · rw [e] at h
    exact .inl (fits_iff.mpr (.inr h))
  · by_cases l : (shut q).length ≤ r.length
    · refine .inl (fits_iff.mpr (.inr ?_))
      rw [e] at h
      exact List.prefix_of_prefix_length_le h (List.prefix_append _ _) l
    · have h1 := h.length_le
      rw [e, List.length_append, List.length_singleton] at h1
      have h2 : shut q = shut r := h.eq_of_length (by rw [e, List.length_append, List.length_singleton]; omega)
      rcases shut_cases q with f | f
      · rw [f] at h2
        refine .inr (fits_iff.mpr (.inr ?_))
        rw [← h2]
        exact List.prefix_refl _
      · rw [f, e] at h2
        have : q = r := List.append_cancel_right h2
        exact .inl (fits_iff.mpr (.inl this.symm))
theorem fits_comp {p q r : List Nat} (a : pathFits p q = true) (b : pathFits p r = true) : pathFits q r = true ∨ pathFits r q = true := by
  rcases fits_iff.mp a with rfl | a
  · exact .inl b
  rcases fits_iff.mp b with rfl | b
  · exact .inr (fits_iff.mpr (.inr a))
  by_cases l : (shut q).length ≤ (shut r).length
  · exact (fits_comp' (List.prefix_of_prefix_length_le a b l)).symm
  · exact fits_comp' (List.prefix_of_prefix_length_le b a (by omega))
theorem dir_fits {l : List Nat} (h : l.head? = some 47) : pathFits l (defaultPath l) = true := by
  obtain ⟨u, v, e, n⟩ := last_split (List.mem_of_head? h)
  unfold defaultPath
  rw [e, dirOf_at n]
  by_cases z : u = []
  · rw [if_pos z]
    rw [e] at h
    exact fits_root h
  · rw [if_neg z]
    refine fits_iff.mpr (.inr ?_)
    rcases shut_cases u with f | f
    · rw [f]
      exact List.prefix_append _ _
    · rw [f]
      exact ⟨v, by simp⟩
theorem down_fits {l : List Nat} {k : Nat} (h : PathL l k) (hk : 1 ≤ k) : ∀ n, pathFits l (downN n l) = true
  | 0 => fits_refl l
  | n + 1 => fits_trans (down_fits h hk n) (dir_fits (downN_path h hk n).hd)
theorem dir_short {l : List Nat} (h : l.head? = some 47) : (defaultPath l).length ≤ max 1 (l.length - 1) ∧ (l.length = 1 → defaultPath l = [47]) := by
  obtain ⟨u, v, e, n⟩ := last_split (List.mem_of_head? h)
  unfold defaultPath
  rw [e, dirOf_at n, List.length_append, List.length_cons]
  by_cases z : u = []
  · rw [if_pos z]
    exact ⟨Nat.le_max_left _ _, fun _ => rfl⟩
  · rw [if_neg z]
    have h1 : 1 ≤ u.length := by
      cases u with
      | nil => exact absurd rfl z
      | cons c r => simp
    exact ⟨by omega, fun z => by omega⟩
theorem down_len {l : List Nat} {k : Nat} (h : PathL l k) (hk : 1 ≤ k) : ∀ n, (downN n l).length ≤ max 1 (l.length - n)
  | 0 => Nat.le_max_right _ _
  | n + 1 => by
    have h1 := down_len h hk n
    have h2 := (dir_short (downN_path h hk n).hd).1
    show (defaultPath (downN n l)).length ≤ _
    omega
theorem down_end {l : List Nat} {k : Nat} (h : PathL l k) (hk : 1 ≤ k) : downN l.length l = [47] := by
  have h1 := down_len h hk l.length
  have h2 := downN_path h hk l.length
  have h3 : (downN l.length l).length ≤ 1 := by omega
  cases e : downN l.length l with
  | nil =>
    have := h2.hd
    rw [e] at this
    cases this
  | cons c r =>
    rw [e] at h3 h2
    have hr : r = [] := by
      cases r with
      | nil => rfl
      | cons x r => simp at h3
    have hc : c = 47 := Option.some.inj h2.hd
    rw [hr, hc]

def kk (a b : List Nat) : List Key := [.inr (S a), .inr (S b)]
theorem kk_inj {a b c e : List Nat} (h : kk a b = kk c e) : a = c ∧ b = e := by
  unfold kk at h
  rw [List.cons.injEq, List.cons.injEq] at h
  exact ⟨S_inj (Sum.inr.inj h.1), S_inj (Sum.inr.inj h.2.1)⟩
/-- the dict tells of a and b whether a fits b -/
def Tells (kvs : List (List Key × V)) (a b : List Nat) : Prop := valV kvs (kk a b) = some (.bl (pathFits a b))
theorem tells_put {kvs : List (List Key × V)} {a b : List Nat} (c e : List Nat) (h : Tells kvs a b) : Tells (putK kvs (kk c e) (.bl (pathFits c e))) a b := by
  unfold Tells
  rw [valV_put]
  by_cases z : kk a b = kk c e
  · obtain ⟨rfl, rfl⟩ := kk_inj z
    rw [if_pos rfl]
  · rw [if_neg z]
    exact h
theorem tells_new {kvs : List (List Key × V)} (c e : List Nat) : Tells (putK kvs (kk c e) (.bl (pathFits c e))) c e := by
  unfold Tells
  rw [valV_put, if_pos rfl]
theorem filter_S (ws : List (List Nat)) (f : List Nat → Bool) : (ws.map vS).filter (fun v => match v with | .str x => f x.cps.toList | _ => false) = (ws.filter f).map vS := by
  rw [List.filter_map]
  rfl
theorem filter_none {xs : List V} : xs.filter (fun _ => false) = [] := by
  rw [List.filter_eq_nil_iff]
  intro _ _
  exact Bool.false_ne_true
def sp_law (K : PySem.W.Frag) : Sp := fun vs H Q _ => ∃ (a : Addr) (ns : List Int), vs = [.ref a] ∧ SqL K H a (ns.map V.int) ∧ ns.length ≤ 63 ∧ ∀ H', Q (.bl true) H'
theorem ok_law (T : Txt K mg) : FnOk P w K mg base CX0 6 T.f_law T.d_law ["_law_script"] (sp_law K) := by
  refine T.F_law.ok sc_law (fun vs H Q E h => ?_) (fun cdv A outer s H vs Q E hr h => ?_)
  · obtain ⟨a, ns, rfl, _⟩ := h
    rfl
  · obtain ⟨a, ns, rfl, hS, hlen, q⟩ := h
    refine ⟨_, (pss_cons (ps_for PassesOwn.never rfl (pi_enum (by rfl) T.n_enumerate (pa_cons (pe_op op_cat (pe_slice sl_list (pv 0) po_none (po_some pe_int)) (pe_lst (pa_cons (pe_callB (cr_sum rfl) (by rfl) T.n_sum (by decide +kernel) (pa_cons (pv 0) pa_nil)) pa_nil))) pa_nil)) (pg_tup (by rfl) (pgs_cons (pg_name (i := 1) sc_law.nd rfl (.inl rfl)) (pgs_cons (pg_name (i := 2) sc_law.nd rfl (.inl rfl)) pgs_nil)))
      (pss_cons (ps_set (i := 3) sc_law.nd rfl (.inl rfl) (pe_call (ok__law_draw T) (hr.mono (by decide)) (by rfl) T.g__law_draw T.F__law_draw.kp T.b__law_draw .nil pass0 (pa_cons (pv 2) (pa_cons (pv 1) pa_nil))))
      (pss_cons (ps_asg (pe_tup (pa_cons (pe_call (ok__law_paths T) (hr.mono (by decide)) (by rfl) T.g__law_paths T.F__law_paths.kp T.b__law_paths .nil pass0 (pa_cons (pv 3) pa_nil)) (pa_cons pe_dnewT pa_nil))) (pg_tup (by rfl) (pgs_cons (pg_name (i := 4) sc_law.nd rfl (.inl rfl)) (pgs_cons (pg_name (i := 5) sc_law.nd rfl (.inr rfl)) pgs_nil))))
      (pss_cons (ps_for PassesOwn.never rfl (pi_list (pv 4)) (pg_name (i := 6) sc_law.nd rfl (.inr rfl))
      (pss_one (ps_for PassesOwn.never rfl (pi_list (pv 4)) (pg_name (i := 7) sc_law.nd rfl (.inr rfl))
      (pss_one (ps_dput (hu_of hr) (pv 5) (pe_tup (pa_cons (pv 6) (pa_cons (pv 7) pa_nil))) (pe_call (ok_path_fits T) (hr.mono (by decide)) (by rfl) T.g_path_fits T.F_path_fits.kp T.b_path_fits .nil pass0 (pa_cons (pv 6) (pa_cons (pv 7) pa_nil))) rfl)))))
      (pss_one (ps_for PassesOwn.never rfl (pi_list (pv 4)) (pg_name (i := 6) sc_law.nd rfl (.inr rfl))
      (pss_cons (ps_if (PW.pt (pw_or (pt_cmpR op_notBl (pe_dget (hu_of hr) (pv 5) (pe_tup (pa_cons (pv 6) (pa_cons (pv 6) pa_nil))) (fun _ _ => rfl)) pe_bl (nomark _)) (pw_or1 (pt_cmpR op_notBl (pe_dget (hu_of hr) (pv 5) (pe_tup (pa_cons (pv 6) (pa_cons pe_str pa_nil))) (fun _ _ => rfl)) pe_bl (nomark _)))))
      (pss_one (ps_ret pe_bl))
      pss_nil)
      (pss_cons (ps_set (i := 8) sc_law.nd rfl (.inl rfl) (pe_call (ok__law_down T) (hr.mono (by decide)) (by rfl) T.g__law_down T.F__law_down.kp T.b__law_down .nil pass0 (pa_cons (pv 6) pa_nil)))
      (pss_cons (ps_if (PW.pt (pw_or (pt_cmpR op_ne (pe_ix ix_list (pv 8) (pe_un un_neg pe_int) (fun _ _ => rfl)) pe_str (nomark _)) (pw_or1 (pt_cmpR (op_neD hr.units) (pe_lc (own := [("_law_one", 10)]) (g := gName 10) (by rfl) sc_law.nd (pi_list (pv 8)) (blkOk_by (own := [("_law_one", 10)]) (N := N_law) (sc := defScope S_law) (by decide +kernel)) (fun _ _ _ _ _ => (pg_name (i := 10) sc_law.nd rfl (.inl rfl))) (fun _ _ _ _ _ => (pts_one (pt_cmpR op_notBl (pe_call (ok_path_fits T) (hr.mono (by decide)) (by rfl) T.g_path_fits T.F_path_fits.kp T.b_path_fits .nil pass0 (pa_cons (pv 6) (pa_cons (pv 10) pa_nil))) pe_bl (nomark _)))) (fun _ _ _ _ _ => (pv 10))) (pe_lst pa_nil) (nomark _)))))
      (pss_one (ps_ret pe_bl))
      pss_nil)
      (pss_cons (ps_setLc (i := 9) (own := [("_law_q", 7)]) (g := gName 7) (by rfl) sc_law.nd rfl rfl (sw_true rfl rfl rfl (by decide +kernel)) (pi_list (pv 4)) (blkOk_by (own := [("_law_q", 7)]) (N := N_law) (sc := defScope S_law) (by decide +kernel)) (fun _ _ _ _ _ => (pg_name (i := 7) sc_law.nd rfl (.inl rfl))) (fun _ _ _ _ _ => (pts_one (pt_val (pe_dget (hu_of hr) (pv 5) (pe_tup (pa_cons (pv 6) (pa_cons (pv 7) pa_nil))) (fun _ _ => rfl))))) (fun _ _ _ _ _ => (pv 7)))
      (pss_one (ps_for PassesOwn.never rfl (pi_list (pv 9)) (pg_name (i := 7) sc_law.nd rfl (.inr rfl))
      (pss_cons (ps_if (PW.pt (pw_or (pt_cmpR op_gt (pe_callB call_len_str (by rfl) T.n_len (by decide +kernel) (pa_cons (pv 7) pa_nil)) (pe_callB call_len_str (by rfl) T.n_len (by decide +kernel) (pa_cons (pv 6) pa_nil)) (nomark _)) (pw_or1 (PW.pt (pw_and (pt_val (pe_dget (hu_of hr) (pv 5) (pe_tup (pa_cons (pv 7) (pa_cons (pv 6) pa_nil))) (fun _ _ => rfl))) (pw_and1 (pt_cmpR op_ne (pv 6) (pv 7) (nomark _))))))))
      (pss_one (ps_ret pe_bl))
      pss_nil)
      (pss_cons (ps_if (pt_cmpR (op_neD hr.units) (pe_lc (own := [("_law_one", 10)]) (g := gName 10) (by rfl) sc_law.nd (pi_list (pv 9)) (blkOk_by (own := [("_law_one", 10)]) (N := N_law) (sc := defScope S_law) (by decide +kernel)) (fun _ _ _ _ _ => (pg_name (i := 10) sc_law.nd rfl (.inl rfl))) (fun _ _ _ _ _ => (pts_one (PW.pt (pw_and (pt_not (pt_val (pe_dget (hu_of hr) (pv 5) (pe_tup (pa_cons (pv 7) (pa_cons (pv 10) pa_nil))) (fun _ _ => rfl)))) (pw_and1 (pt_not (pt_val (pe_dget (hu_of hr) (pv 5) (pe_tup (pa_cons (pv 10) (pa_cons (pv 7) pa_nil))) (fun _ _ => rfl))))))))) (fun _ _ _ _ _ => (pv 10))) (pe_lst pa_nil) (nomark _))
      (pss_one (ps_ret pe_bl))
      pss_nil)
      (pss_one (ps_if (pt_cmpR (op_neD hr.units) (pe_lc (own := [("_law_one", 10)]) (g := gName 10) (by rfl) sc_law.nd (pi_list (pv 4)) (blkOk_by (own := [("_law_one", 10)]) (N := N_law) (sc := defScope S_law) (by decide +kernel)) (fun _ _ _ _ _ => (pg_name (i := 10) sc_law.nd rfl (.inl rfl))) (fun _ _ _ _ _ => (pts_one (PW.pt (pw_and (pt_val (pe_dget (hu_of hr) (pv 5) (pe_tup (pa_cons (pv 7) (pa_cons (pv 10) pa_nil))) (fun _ _ => rfl))) (pw_and1 (pt_not (pt_val (pe_dget (hu_of hr) (pv 5) (pe_tup (pa_cons (pv 6) (pa_cons (pv 10) pa_nil))) (fun _ _ => rfl))))))))) (fun _ _ _ _ _ => (pv 10))) (pe_lst pa_nil) (nomark _))
      (pss_one (ps_ret pe_bl))
      pss_nil))))))))))))))))
      (pss_one (ps_ret pe_bl))), ?_⟩
    -- script[:5] + [sum(script)]
    refine ⟨_, rfl, 5, rfl, a, _, rfl, hS, fun u nu => ?_⟩
    refine ⟨_, rfl, a, ns, rfl, (same_upd nu).seq hS, by show 1 ≤ sizeLine; decide, fun v nv => ?_⟩
    have nuv : u ≠ v := fun z => by rw [← z, upd_same] at nv; cases nv
    refine ⟨u, v, _, _, rfl, rfl, by rw [upd_ne nuv]; exact upd_same, upd_same, ?_, fun c nc => ?_⟩
    · have h1 : (cutV (ns.map V.int) none (some 5)).length ≤ 63 := by
        rw [cutV_map, List.length_map]
        exact Nat.le_trans (cut_len _ _ _) hlen
      exact sz (by simp only [List.length_cons, List.length_nil]; omega)
    have es : cutV (ns.map V.int) none (some 5) ++ [V.int ns.sum] = (ns.take 5 ++ [ns.sum]).map V.int := by
      rw [cutV_map, show (5 : Int) = ((5 : Nat) : Int) from rfl, cut_to, List.map_append]
      rfl
    rw [es]
    generalize hzs : ns.take 5 ++ [ns.sum] = zs
    have hz : zs.length ≤ 7 := by rw [← hzs, List.length_append, List.length_take]; simp; omega
    generalize hH0 : upd (upd (upd H u (.lst (cutV (ns.map V.int) none (some 5)))) v (.lst [V.int ns.sum])) c (.lst (zs.map V.int)) = H0
    have hc : H0 c = some (.lst (zs.map V.int)) := by rw [← hH0]; exact upd_same
    refine ⟨c, _, rfl, SqL.of hc, for_it (n := (zs.map V.int).length) walk_enum (fun i σ H' => Same H0 H' ∧ ∃ y1 y2 y3 y4 y5 y6 y7 y8 y9 y10, σ = [some (.ref a), y1, y2, y3, y4, y5, y6, y7, y8, y9, y10])
      ⟨Same.refl H0, none, none, none, none, none, none, none, none, none, none, rfl⟩ (fun _ _ _ _ hP => hP.1.seq (SqL.of hc)) (fun i x σ H1 H2 hi hP hY => ?_) (fun σ H1 _ => q H1)⟩
    obtain ⟨s1, y1, y2, y3, y4, y5, y6, y7, y8, y9, y10, rfl⟩ := hP
    obtain ⟨T1, x1, x2, rfl, nT, rfl, e1, e2⟩ := hY
    cases e1
    obtain ⟨z, hz2, rfl⟩ : ∃ z, zs[i]? = some z ∧ x2 = V.int z := by
      have e2 : (zs.map V.int)[i]? = some x2 := e2
      rw [List.getElem?_map] at e2
      cases e : zs[i]? with
      | none => rw [e] at e2; cases e2
      | some z => rw [e] at e2; exact ⟨z, rfl, (Option.some.inj e2).symm⟩
    have hi7 : i < 7 := by rw [List.length_map] at hi; omega
    have s2 := s1.trans (same_upd (o := HO.tup [V.int (i : Nat), V.int z]) nT)
    refine ⟨T1, _, rfl, SqT.of upd_same, rfl, _, _, rfl, _, _, rfl, rfl, ?_⟩
    refine ⟨_, rfl, _, rfl, z, (i : Nat), rfl, by omega, by omega, fun H3 d s3 nd D3 => ?_⟩
    -- paths, and an empty dict
    refine ⟨_, rfl, d, _, rfl, by omega, D3, fun H4 p ws s4 np hp hw hl hh g ng => ?_⟩
    refine ⟨by show 2 ≤ sizeLine; decide, fun t nt => ?_⟩
    refine ⟨t, _, rfl, SqT.of upd_same, rfl, _, _, rfl, _, _, rfl, rfl, ?_⟩
    have h04 := same_sx s2 nd s3 s4
    have npg : p ≠ g := ne_of_none hp ng
    have ngt : g ≠ t := fun z => by rw [← z, upd_same] at nt; cases nt
    generalize hHB : upd (upd H4 g (.dT [])) t (.tup [.ref p, .ref g]) = HB
    have s4B : Same H4 HB := by rw [← hHB]; exact (same_upd ng).trans (same_upd nt)
    have gB : HB g = some (.dT []) := by rw [← hHB, upd_ne ngt]; exact upd_same
    have pB := s4B _ _ hp
    have hok : ∀ w ∈ ws, isPath w = true := fun w m => (hw w m).ok (by decide)
    have at_w : ∀ (i : Nat) (x : V), (ws.map vS)[i]? = some x → ∃ w, ws[i]? = some w ∧ x = vS w := fun i x e => by
      rw [List.getElem?_map] at e
      cases e2 : ws[i]? with
      | none => rw [e2] at e; cases e
      | some w => rw [e2] at e; exact ⟨w, rfl, (Option.some.inj e).symm⟩
    refine ⟨_, rfl, p, rfl, ⟨_, SqL.of pB⟩, for_list (K := K) (a := p) (xs := ws.map vS) (fun m σ H' => Sx g HB H' ∧ (∃ kvs, H' g = some (.dT kvs) ∧ kvs.length ≤ 7 * m ∧ ∀ a ∈ ws.take m, ∀ b ∈ ws, Tells kvs a b) ∧ ∃ y6 y7 y8 y9 y10, σ = [some (.ref a), some (.int (i : Nat)), some (.int z), some (.ref d), some (.ref p), some (.ref g), y6, y7, y8, y9, y10])
      ⟨Sx.refl g HB, ⟨[], gB, Nat.zero_le _, fun _ h => by cases h⟩, _, _, _, _, _, rfl⟩ (fun _ _ _ _ hP => hP.1.seq npg (SqL.of pB)) ?_ ?_⟩
    · rintro m x σ H5 hm ⟨s5, ⟨kvs, g5, l5, t5⟩, y6, y7, y8, y9, y10, rfl⟩
      obtain ⟨P, hP, rfl⟩ := at_w m x hm
      have mP := List.mem_of_getElem? hP
      have lm : m < 7 := by have := (List.getElem?_eq_some_iff.mp hP).1; omega
      refine ⟨_, rfl, p, rfl, ⟨_, s5.seq npg (SqL.of pB)⟩, for_list (K := K) (a := p) (xs := ws.map vS) (fun k σ H' => Sx g HB H' ∧ (∃ kvs, H' g = some (.dT kvs) ∧ kvs.length ≤ 7 * m + k ∧ (∀ a ∈ ws.take m, ∀ b ∈ ws, Tells kvs a b) ∧ ∀ b ∈ ws.take k, Tells kvs P b) ∧ ∃ y7 y8 y9 y10, σ = [some (.ref a), some (.int (i : Nat)), some (.int z), some (.ref d), some (.ref p), some (.ref g), some (vS P), y7, y8, y9, y10])
        ⟨s5, ⟨kvs, g5, l5, t5, fun _ h => by cases h⟩, _, _, _, _, rfl⟩ (fun _ _ _ _ hP => hP.1.seq npg (SqL.of pB)) ?_ ?_⟩
      · rintro k y σ H6 hk ⟨s6, ⟨kvs, g6, l6, t6, u6⟩, y7, y8, y9, y10, rfl⟩
        obtain ⟨R, hR, rfl⟩ := at_w k y hk
        have mR := List.mem_of_getElem? hR
        have lk : k < 7 := by have := (List.getElem?_eq_some_iff.mp hR).1; omega
        refine ⟨_, rfl, _, rfl, P, R, rfl, hok P mP, hok R mR, fun H7 s7 => ?_⟩
        have g7 := s7 _ _ g6
        refine ⟨_, rfl, _, rfl, _, rfl, by show 2 ≤ sizeLine; decide, fun t nt => ?_⟩
        have g8 := (same_upd (o := HO.tup [vS P, vS R]) nt) _ _ g7
        refine ⟨g, _, rfl, DPut.t (k := kk P R) g8 upd_same (szlt (by omega)), ?_⟩
        refine ⟨((s6.trans (Sx.of s7)).trans (Sx.of (same_upd nt))).upd, ⟨_, upd_same, Nat.le_trans (putK_len _ _ _) (by omega), fun a ha b hb => tells_put P R (t6 a ha b hb), fun b hb => ?_⟩, _, _, _, _, rfl⟩
        rw [List.take_add_one, hR] at hb
        rcases List.mem_append.mp hb with hb | hb
        · exact tells_put P R (u6 b hb)
        · rcases List.mem_cons.mp hb with rfl | hb
          · exact tells_new P _
          · cases hb
      · rintro σ H6 ⟨s6, ⟨kvs, g6, l6, t6, u6⟩, y7, y8, y9, y10, rfl⟩
        rw [List.length_map, List.take_of_length_le (Nat.le_refl _)] at u6
        rw [List.length_map, hl] at l6
        refine ⟨s6, ⟨kvs, g6, by omega, fun a ha => ?_⟩, _, _, _, _, _, rfl⟩
        rw [List.take_add_one, hP] at ha
        rcases List.mem_append.mp ha with ha | ha
        · exact t6 a ha
        · rcases List.mem_cons.mp ha with rfl | ha
          · exact u6
          · cases ha
    · rintro σ HC ⟨sC, ⟨kvs, gC, _, tC'⟩, y6, y7, y8, y9, y10, rfl⟩
      rw [List.length_map, List.take_of_length_le (Nat.le_refl _)] at tC'
      have pC := sC _ _ npg pB
      have h0C : Same H0 HC := fun b o e => sC b o (ne_of_none (h04 b o e) ng) (s4B _ _ (h04 b o e))
      have m47 : [47] ∈ ws := List.mem_of_head? hh
      -- reading the dict at a heap that extends HC
      have get : ∀ {H' : Hp} {t : Addr} {x y : List Nat}, Same HC H' → H' t = some (.tup [vS x, vS y]) → x ∈ ws → y ∈ ws → DGet H' g (.ref t) (some (.bl (pathFits x y))) := fun s' ht hx hy => dgetT (k := kk _ _) (s' _ _ gC) ht (tC' _ hx _ hy)
      refine ⟨_, rfl, p, rfl, ⟨_, SqL.of pC⟩, for_list (K := K) (a := p) (xs := ws.map vS) (fun m σ H' => Same HC H' ∧ ∃ y6 y7 y8 y9 y10, σ = [some (.ref a), some (.int (i : Nat)), some (.int z), some (.ref d), some (.ref p), some (.ref g), y6, y7, y8, y9, y10])
        ⟨Same.refl HC, _, _, _, _, _, rfl⟩ (fun _ _ _ _ hP => hP.1.seq (SqL.of pC)) ?_ ?_⟩
      · rintro m x σ H5 hm ⟨s5, y6, y7, y8, y9, y10, rfl⟩
        obtain ⟨P, hP, rfl⟩ := at_w m x hm
        have mP := List.mem_of_getElem? hP
        have wP := hw P mP
        -- fits[p, p] is not True or fits[p, "/"] is not True
        refine ⟨_, rfl, _, rfl, _, rfl, by show 2 ≤ sizeLine; decide, fun t nt => ?_⟩
        have s6 := s5.trans (same_upd (o := HO.tup [vS P, vS P]) nt)
        refine ⟨g, _, rfl, get s6 upd_same mP mP, _, true, rfl, rfl, _, rfl, ?_⟩
        rw [fits_refl]
        rw [slash]
        refine ⟨_, rfl, _, rfl, by show 2 ≤ sizeLine; decide, fun t2 nt2 => ?_⟩
        have s7 := s6.trans (same_upd (o := HO.tup [vS P, vS [47]]) nt2)
        refine ⟨g, _, rfl, get s7 upd_same mP m47, _, true, rfl, rfl, _, rfl, ?_⟩
        rw [fits_root wP.hd]
        -- the way down
        refine ⟨_, rfl, P, rfl, wP, fun H8 dn s8' ndn hdn => ?_⟩
        have s8 := s7.trans s8'
        have hg : ((downs P).map vS).getLast? = some (vS [47]) := by
          unfold downs
          rw [List.range_succ, List.map_append, List.map_append, ← down_end wP (by decide)]
          exact List.getLast?_concat
        have ldn : ((downs P).map vS).length ≤ 100 := by
          have := wP.len
          unfold downs
          rw [List.length_map, List.length_map, List.length_range]
          omega
        refine ⟨_, rfl, 1, rfl, dn, _, _, _, rfl, rfl, SqL.of hdn, atI_neg1 hg, rfl, _, rfl, ?_⟩
        rw [decide_eq_true rfl]
        refine ⟨_, rfl, dn, rfl, ⟨_, SqL.of hdn⟩, fun D nD => ?_⟩
        refine lc_fil (b := fun _ => false) nD (by omega) (SqL.of hdn) (fun _ => rfl) (fun c hc H' s' Q' q' => ?_) (fun c hc H' s' Q' q' => ⟨_, rfl, q'⟩) (fun H9 s9 hD9 => ?_)
        · obtain ⟨w, hw', rfl⟩ := List.mem_map.mp hc
          obtain ⟨k, _, rfl⟩ := List.mem_map.mp hw'
          refine ⟨_, rfl, _, rfl, P, downN k P, rfl, hok P mP, (downN_path wP (by decide) k).ok (by decide), fun H'' s'' => ⟨_, true, rfl, rfl, _, rfl, ?_⟩⟩
          rw [down_fits wP (by decide) k]
          exact q' H'' s''
        rw [filter_none] at hD9
        refine ⟨Nat.zero_le _, fun e ne => ?_⟩
        have s10 := s9.trans (same_upd (o := HO.lst []) ne)
        refine ⟨dL [], dL [], dp_L (SqL.of ((same_upd ne) _ _ hD9)), dp_L (SqL.of upd_same), shaped_L (fun w hw => nomatch hw), shaped_L (fun w hw => nomatch hw), _, rfl, ?_⟩
        rw [eqv_L, decide_eq_true rfl]
        have s11 := s8.trans s10
        -- all that p fits
        refine ⟨_, rfl, p, rfl, ⟨_, SqL.of (s11 _ _ pC)⟩, fun D2 nD2 => ?_⟩
        refine lc_fil (b := fun v => match v with | .str x => pathFits P x.cps.toList | _ => false) nD2 (by rw [List.length_map]; omega) (SqL.of (s11 _ _ pC)) (fun _ => rfl) (fun c hc H' s' Q' q' => ?_) (fun c hc H' s' Q' q' => ⟨_, rfl, q'⟩) (fun H12 s12' hD12 => ?_)
        · obtain ⟨R, mR, rfl⟩ := List.mem_map.mp hc
          exact ⟨_, rfl, _, rfl, _, rfl, by show 2 ≤ sizeLine; decide, fun t nt => ⟨g, _, rfl, get ((s11.trans s').trans (same_upd nt)) upd_same mP mR, _, rfl, q' _ (same_upd nt)⟩⟩
        rw [filter_S] at hD12
        have s12 := s11.trans s12'
        generalize hso : ws.filter (fun x => pathFits P x) = so at hD12
        have lso : so.length ≤ 7 := by rw [← hso, ← hl]; exact List.length_filter_le _ _
        have mso : ∀ R, R ∈ so → R ∈ ws ∧ pathFits P R = true := fun R h => by rw [← hso] at h; exact List.mem_filter.mp h
        refine ⟨_, rfl, D2, rfl, ⟨_, SqL.of hD12⟩, for_list (K := K) (a := D2) (xs := so.map vS) (fun k σ H' => Same H12 H' ∧ ∃ y7 y10, σ = [some (.ref a), some (.int (i : Nat)), some (.int z), some (.ref d), some (.ref p), some (.ref g), some (vS P), y7, some (.ref dn), some (.ref D2), y10])
          ⟨Same.refl H12, _, _, rfl⟩ (fun _ _ _ _ hP => hP.1.seq (SqL.of hD12)) ?_ ?_⟩
        · rintro k x σ H13 hk ⟨s13', y7, y10, rfl⟩
          obtain ⟨R, mR, rfl⟩ := List.mem_map.mp (List.mem_of_getElem? hk)
          obtain ⟨mR, fR⟩ := mso R mR
          have wR := hw R mR
          have lP := wP.len
          have lR := wR.len
          have s13 := s12.trans s13'
          have lPR := fits_len fR
          refine ⟨_, rfl, S R, rfl, szS (by omega), _, rfl, S P, rfl, szS (by omega), _, _, rfl, rfl, _, rfl, ?_⟩
          rw [S_len, S_len, decide_eq_false (by omega)]
          refine ⟨_, rfl, _, rfl, _, rfl, by show 2 ≤ sizeLine; decide, fun t nt => ?_⟩
          have s14 := s13.trans (same_upd (o := HO.tup [vS R, vS P]) nt)
          refine ⟨g, _, rfl, get s14 upd_same mR mP, _, rfl, ?_⟩
          refine and_false (fun h k => ?_) ?_
          · have e : P = R := fits_anti fR h
            refine ⟨_, rfl, _, rfl, rfl, _, rfl, ?_⟩
            have e2 : decide (vS P = vS R) = true := decide_eq_true (by rw [e])
            rw [e2]
            exact k
          -- two that p fits are comparable
          have hD14 := (s13'.trans (same_upd (o := HO.tup [vS R, vS P]) nt)) _ _ hD12
          refine ⟨_, rfl, D2, rfl, ⟨_, SqL.of hD14⟩, fun D nD => ?_⟩
          refine lc_fil (b := fun _ => false) nD (by rw [List.length_map]; omega) (SqL.of hD14) (fun _ => rfl) (fun c hc H' s' Q' q' => ?_) (fun c hc H' s' Q' q' => ⟨_, rfl, q'⟩) (fun H15 s15' hD15 => ?_)
          · obtain ⟨O, mO, rfl⟩ := List.mem_map.mp hc
            obtain ⟨mO, fO⟩ := mso O mO
            refine ⟨_, rfl, _, rfl, _, rfl, by show 2 ≤ sizeLine; decide, fun t nt => ⟨g, _, rfl, get ((s14.trans s').trans (same_upd nt)) upd_same mR mO, _, rfl, ?_⟩⟩
            refine if2 (fun h => ?_) (fun h => q' _ (same_upd nt))
            have h' : pathFits O R = true := by
              rcases fits_comp fR fO with k | k
              · rw [k] at h
                cases h
              · exact k
            refine ⟨_, rfl, _, rfl, _, rfl, by show 2 ≤ sizeLine; decide, fun t2 nt2 => ⟨g, _, rfl, get (((s14.trans s').trans (same_upd nt)).trans (same_upd nt2)) upd_same mO mR, _, rfl, ?_⟩⟩
            rw [h']
            exact q' _ ((same_upd nt).trans (same_upd nt2))
          rw [filter_none] at hD15
          refine ⟨Nat.zero_le _, fun e ne => ?_⟩
          have s16 := (s14.trans s15').trans (same_upd (o := HO.lst []) ne)
          refine ⟨dL [], dL [], dp_L (SqL.of ((same_upd ne) _ _ hD15)), dp_L (SqL.of upd_same), shaped_L (fun w hw => nomatch hw), shaped_L (fun w hw => nomatch hw), _, rfl, ?_⟩
          rw [eqv_L, decide_eq_true rfl]
          -- what fits a path that fits a third one fits this one
          refine ⟨_, rfl, p, rfl, ⟨_, SqL.of (s16 _ _ pC)⟩, fun D nD => ?_⟩
          refine lc_fil (b := fun _ => false) nD (by rw [List.length_map]; omega) (SqL.of (s16 _ _ pC)) (fun _ => rfl) (fun c hc H' s' Q' q' => ?_) (fun c hc H' s' Q' q' => ⟨_, rfl, q'⟩) (fun H17 s17' hD17 => ?_)
          · obtain ⟨O, mO, rfl⟩ := List.mem_map.mp hc
            refine ⟨_, rfl, _, rfl, _, rfl, by show 2 ≤ sizeLine; decide, fun t nt => ⟨g, _, rfl, get ((s16.trans s').trans (same_upd nt)) upd_same mR mO, _, rfl, ?_⟩⟩
            refine if2 (fun h => ?_) (fun h => q' _ (same_upd nt))
            refine ⟨_, rfl, _, rfl, _, rfl, by show 2 ≤ sizeLine; decide, fun t2 nt2 => ⟨g, _, rfl, get (((s16.trans s').trans (same_upd nt)).trans (same_upd nt2)) upd_same mP mO, _, rfl, ?_⟩⟩
            rw [fits_trans fR h]
            exact q' _ ((same_upd nt).trans (same_upd nt2))
          rw [filter_none] at hD17
          refine ⟨Nat.zero_le _, fun e2 ne2 => ?_⟩
          refine ⟨dL [], dL [], dp_L (SqL.of ((same_upd ne2) _ _ hD17)), dp_L (SqL.of upd_same), shaped_L (fun w hw => nomatch hw), shaped_L (fun w hw => nomatch hw), _, rfl, ?_⟩
          rw [eqv_L, decide_eq_true rfl]
          exact ⟨s13'.trans (((same_upd nt).trans s15').trans ((same_upd ne).trans (s17'.trans (same_upd ne2)))), _, _, rfl⟩
        · rintro σ H13 ⟨s13', y7, y10, rfl⟩
          exact ⟨s12.trans s13', _, _, _, _, _, rfl⟩
      · rintro σ H5 ⟨s5, y6, y7, y8, y9, y10, rfl⟩
        exact ⟨h0C.trans s5, _, _, _, _, _, _, _, _, _, _, rfl⟩

end
theorem all_mk {l : PySem.W.OpenLaw} {w : World} {K : PySem.W.Frag} {h : Heap} {mg : Str → Option Value} {fa : Addr} (X : K.In h) (G : h.Ns mainGlobals mg) (hfa : mg "law" = some (.ref fa))
    {f0 : Addr} {od0 an0 : Option Addr} {sl0 : Array (Option Value)} {oc0 kV0 dc0 pm0 cd0 ct0 : Value}
    (a0 : PySem.W.nsIn K mainGlobals "s1_is_path_sign" = some (some (.ref f0))) (l0 : K.lookup f0 = some ⟨oc0, od0, .func (PySem.W.fnOf "s1_is_path_sign" "s1_is_path_sign" (defArgs S_s1_is_path_sign) (defBody S_s1_is_path_sign) (defScope S_s1_is_path_sign) .none kV0 dc0 pm0 an0 cd0 ct0), sl0⟩) (c0 : PySem.W.codeIn K cd0 "s1_is_path_sign" = true) (k0 : PySem.W.keepIn K (.ref f0) = true)
    {f1 : Addr} {od1 an1 : Option Addr} {sl1 : Array (Option Value)} {oc1 kV1 dc1 pm1 cd1 ct1 : Value}
    (a1 : PySem.W.nsIn K mainGlobals "is_path" = some (some (.ref f1))) (l1 : K.lookup f1 = some ⟨oc1, od1, .func (PySem.W.fnOf "is_path" "is_path" (defArgs S_is_path) (defBody S_is_path) (defScope S_is_path) .none kV1 dc1 pm1 an1 cd1 ct1), sl1⟩) (c1 : PySem.W.codeIn K cd1 "is_path" = true) (k1 : PySem.W.keepIn K (.ref f1) = true)
    {f2 : Addr} {od2 an2 : Option Addr} {sl2 : Array (Option Value)} {oc2 kV2 dc2 pm2 cd2 ct2 : Value}
    (a2 : PySem.W.nsIn K mainGlobals "need_path" = some (some (.ref f2))) (l2 : K.lookup f2 = some ⟨oc2, od2, .func (PySem.W.fnOf "need_path" "need_path" (defArgs S_need_path) (defBody S_need_path) (defScope S_need_path) .none kV2 dc2 pm2 an2 cd2 ct2), sl2⟩) (c2 : PySem.W.codeIn K cd2 "need_path" = true) (k2 : PySem.W.keepIn K (.ref f2) = true)
    {f3 : Addr} {od3 an3 : Option Addr} {sl3 : Array (Option Value)} {oc3 kV3 dc3 pm3 cd3 ct3 : Value}
    (a3 : PySem.W.nsIn K mainGlobals "default_path" = some (some (.ref f3))) (l3 : K.lookup f3 = some ⟨oc3, od3, .func (PySem.W.fnOf "default_path" "default_path" (defArgs S_default_path) (defBody S_default_path) (defScope S_default_path) .none kV3 dc3 pm3 an3 cd3 ct3), sl3⟩) (c3 : PySem.W.codeIn K cd3 "default_path" = true) (k3 : PySem.W.keepIn K (.ref f3) = true)
    {f4 : Addr} {od4 an4 : Option Addr} {sl4 : Array (Option Value)} {oc4 kV4 dc4 pm4 cd4 ct4 : Value}
    (a4 : PySem.W.nsIn K mainGlobals "s1_path_fits" = some (some (.ref f4))) (l4 : K.lookup f4 = some ⟨oc4, od4, .func (PySem.W.fnOf "s1_path_fits" "s1_path_fits" (defArgs S_s1_path_fits) (defBody S_s1_path_fits) (defScope S_s1_path_fits) .none kV4 dc4 pm4 an4 cd4 ct4), sl4⟩) (c4 : PySem.W.codeIn K cd4 "s1_path_fits" = true) (k4 : PySem.W.keepIn K (.ref f4) = true)
    {f5 : Addr} {od5 an5 : Option Addr} {sl5 : Array (Option Value)} {oc5 kV5 dc5 pm5 cd5 ct5 : Value}
    (a5 : PySem.W.nsIn K mainGlobals "path_fits" = some (some (.ref f5))) (l5 : K.lookup f5 = some ⟨oc5, od5, .func (PySem.W.fnOf "path_fits" "path_fits" (defArgs S_path_fits) (defBody S_path_fits) (defScope S_path_fits) .none kV5 dc5 pm5 an5 cd5 ct5), sl5⟩) (c5 : PySem.W.codeIn K cd5 "path_fits" = true) (k5 : PySem.W.keepIn K (.ref f5) = true)
    {f6 : Addr} {od6 an6 : Option Addr} {sl6 : Array (Option Value)} {oc6 kV6 dc6 pm6 cd6 ct6 : Value}
    (a6 : PySem.W.nsIn K mainGlobals "_law_mixed" = some (some (.ref f6))) (l6 : K.lookup f6 = some ⟨oc6, od6, .func (PySem.W.fnOf "_law_mixed" "_law_mixed" (defArgs S__law_mixed) (defBody S__law_mixed) (defScope S__law_mixed) .none kV6 dc6 pm6 an6 cd6 ct6), sl6⟩) (c6 : PySem.W.codeIn K cd6 "_law_mixed" = true) (k6 : PySem.W.keepIn K (.ref f6) = true)
    {f7 : Addr} {od7 an7 : Option Addr} {sl7 : Array (Option Value)} {oc7 kV7 dc7 pm7 cd7 ct7 : Value}
    (a7 : PySem.W.nsIn K mainGlobals "_law_draw" = some (some (.ref f7))) (l7 : K.lookup f7 = some ⟨oc7, od7, .func (PySem.W.fnOf "_law_draw" "_law_draw" (defArgs S__law_draw) (defBody S__law_draw) (defScope S__law_draw) .none kV7 dc7 pm7 an7 cd7 ct7), sl7⟩) (c7 : PySem.W.codeIn K cd7 "_law_draw" = true) (k7 : PySem.W.keepIn K (.ref f7) = true)
    {f8 : Addr} {od8 an8 : Option Addr} {sl8 : Array (Option Value)} {oc8 kV8 dc8 pm8 cd8 ct8 : Value}
    (a8 : PySem.W.nsIn K mainGlobals "_law_digit" = some (some (.ref f8))) (l8 : K.lookup f8 = some ⟨oc8, od8, .func (PySem.W.fnOf "_law_digit" "_law_digit" (defArgs S__law_digit) (defBody S__law_digit) (defScope S__law_digit) .none kV8 dc8 pm8 an8 cd8 ct8), sl8⟩) (c8 : PySem.W.codeIn K cd8 "_law_digit" = true) (k8 : PySem.W.keepIn K (.ref f8) = true)
    {f9 : Addr} {od9 an9 : Option Addr} {sl9 : Array (Option Value)} {oc9 kV9 dc9 pm9 cd9 ct9 : Value}
    (a9 : PySem.W.nsIn K mainGlobals "_law_paths" = some (some (.ref f9))) (l9 : K.lookup f9 = some ⟨oc9, od9, .func (PySem.W.fnOf "_law_paths" "_law_paths" (defArgs S__law_paths) (defBody S__law_paths) (defScope S__law_paths) .none kV9 dc9 pm9 an9 cd9 ct9), sl9⟩) (c9 : PySem.W.codeIn K cd9 "_law_paths" = true) (k9 : PySem.W.keepIn K (.ref f9) = true)
    {f10 : Addr} {od10 an10 : Option Addr} {sl10 : Array (Option Value)} {oc10 kV10 dc10 pm10 cd10 ct10 : Value}
    (a10 : PySem.W.nsIn K mainGlobals "_law_down" = some (some (.ref f10))) (l10 : K.lookup f10 = some ⟨oc10, od10, .func (PySem.W.fnOf "_law_down" "_law_down" (defArgs S__law_down) (defBody S__law_down) (defScope S__law_down) .none kV10 dc10 pm10 an10 cd10 ct10), sl10⟩) (c10 : PySem.W.codeIn K cd10 "_law_down" = true) (k10 : PySem.W.keepIn K (.ref f10) = true)
    {f11 : Addr} {od11 an11 : Option Addr} {sl11 : Array (Option Value)} {oc11 kV11 dc11 pm11 cd11 ct11 : Value}
    (a11 : PySem.W.nsIn K mainGlobals "law" = some (some (.ref f11))) (l11 : K.lookup f11 = some ⟨oc11, od11, .func (PySem.W.fnOf "law" "law" (defArgs S_law) (defBody S_law) (defScope S_law) .none kV11 dc11 pm11 an11 cd11 ct11), sl11⟩) (c11 : PySem.W.codeIn K cd11 "law" = true) (k11 : PySem.W.keepIn K (.ref f11) = true)
    {t_MOST_PATH : Tok} (v_MOST_PATH : PySem.W.nsIn K mainGlobals "MOST_PATH" = some (some (.int (200) t_MOST_PATH)))
    {t_PATH_SIGNS : Tok} (v_PATH_SIGNS : PySem.W.nsIn K mainGlobals "PATH_SIGNS" = some (some (.str cs_PATH_SIGNS t_PATH_SIGNS)))
    (z_all : PySem.W.nsIn K mainGlobals "all" = some none)
    (z_enumerate : PySem.W.nsIn K mainGlobals "enumerate" = some none)
    (z_int : PySem.W.nsIn K mainGlobals "int" = some none)
    (z_isinstance : PySem.W.nsIn K mainGlobals "isinstance" = some none)
    (z_len : PySem.W.nsIn K mainGlobals "len" = some none)
    (z_range : PySem.W.nsIn K mainGlobals "range" = some none)
    (z_str : PySem.W.nsIn K mainGlobals "str" = some none)
    (z_sum : PySem.W.nsIn K mainGlobals "sum" = some none)
    : ∃ fd : FuncData, (∀ (s : Shared) (v : Value), BindsTo s fd ⟨[v], []⟩ [("_law_script", v)]) ∧ ∀ base : Heap, K.In base → base.Ns mainGlobals mg → FnOk l.prog w K mg base CX0 6 fa fd ["_law_script"] (sp_law K) := by
  have e := hfa.symm.trans (PySem.W.mg_of X G a11)
  cases e
  let T : Txt K mg := {
    f_s1_is_path_sign := f0,
    d_s1_is_path_sign := _,
    F_s1_is_path_sign := fun_mk (st := S_s1_is_path_sign) l0 c0 k0,
    g_s1_is_path_sign := PySem.W.mg_of X G a0,
    f_is_path := f1,
    d_is_path := _,
    F_is_path := fun_mk (st := S_is_path) l1 c1 k1,
    g_is_path := PySem.W.mg_of X G a1,
    f_need_path := f2,
    d_need_path := _,
    F_need_path := fun_mk (st := S_need_path) l2 c2 k2,
    g_need_path := PySem.W.mg_of X G a2,
    f_default_path := f3,
    d_default_path := _,
    F_default_path := fun_mk (st := S_default_path) l3 c3 k3,
    g_default_path := PySem.W.mg_of X G a3,
    f_s1_path_fits := f4,
    d_s1_path_fits := _,
    F_s1_path_fits := fun_mk (st := S_s1_path_fits) l4 c4 k4,
    g_s1_path_fits := PySem.W.mg_of X G a4,
    f_path_fits := f5,
    d_path_fits := _,
    F_path_fits := fun_mk (st := S_path_fits) l5 c5 k5,
    g_path_fits := PySem.W.mg_of X G a5,
    f__law_mixed := f6,
    d__law_mixed := _,
    F__law_mixed := fun_mk (st := S__law_mixed) l6 c6 k6,
    g__law_mixed := PySem.W.mg_of X G a6,
    f__law_draw := f7,
    d__law_draw := _,
    F__law_draw := fun_mk (st := S__law_draw) l7 c7 k7,
    g__law_draw := PySem.W.mg_of X G a7,
    f__law_digit := f8,
    d__law_digit := _,
    F__law_digit := fun_mk (st := S__law_digit) l8 c8 k8,
    g__law_digit := PySem.W.mg_of X G a8,
    f__law_paths := f9,
    d__law_paths := _,
    F__law_paths := fun_mk (st := S__law_paths) l9 c9 k9,
    g__law_paths := PySem.W.mg_of X G a9,
    f__law_down := f10,
    d__law_down := _,
    F__law_down := fun_mk (st := S__law_down) l10 c10 k10,
    g__law_down := PySem.W.mg_of X G a10,
    f_law := fa,
    d_law := _,
    F_law := fun_mk (st := S_law) l11 c11 k11,
    g_law := PySem.W.mg_of X G a11,
    c_MOST_PATH := ⟨_, PySem.W.mg_of X G v_MOST_PATH⟩,
    c_PATH_SIGNS := ⟨_, PySem.W.mg_of X G v_PATH_SIGNS⟩,
    n_all := PySem.W.mg_none_of X G z_all,
    n_enumerate := PySem.W.mg_none_of X G z_enumerate,
    n_int := PySem.W.mg_none_of X G z_int,
    n_isinstance := PySem.W.mg_none_of X G z_isinstance,
    n_len := PySem.W.mg_none_of X G z_len,
    n_range := PySem.W.mg_none_of X G z_range,
    n_str := PySem.W.mg_none_of X G z_str,
    n_sum := PySem.W.mg_none_of X G z_sum }
  exact ⟨PySem.W.fnOf "law" "law" (defArgs S_law) (defBody S_law) (defScope S_law) .none kV11 dc11 pm11 an11 cd11 ct11, fun s v => .of_eq rfl, fun base _ _ => ok_law T⟩
end LawK12
open PySem PySem.W PyProof.Rows
set_option maxHeartbeats 0 in
theorem PySem.Challenge.cw_crumbjar_k12_whole_paths_in_order_holds : PySem.Challenge.rw_crumbjar_k12_whole_paths_in_order.Holds := by
  w_on; o_law; k_head; (case hw => w_witness2)
  k_fill
  refine L2.walk_of (l := PySem.Challenge.rw_crumbjar_k12_whole_paths_in_order) (n := 63) (k := 6) (x := "_law_script") (CX := fun _ => L2.CX0) (sp := fun w => LawK12.sp_law _) rfl (by decide) rfl ⟨rfl, by decide, by decide⟩ (fun w h Y => PySem.W.kIn_of Y) ?F (fun _ _ a ns hl _ hS => ⟨a, ns, rfl, hS, hl, fun _ => rfl⟩) (fun _ _ _ _ _ h => h)
  case F =>
    intro w mg fa h KX G hmg
    refine' LawK12.all_mk KX G hmg ?a0 ?l0 ?c0 ?k0 ?a1 ?l1 ?c1 ?k1 ?a2 ?l2 ?c2 ?k2 ?a3 ?l3 ?c3 ?k3 ?a4 ?l4 ?c4 ?k4 ?a5 ?l5 ?c5 ?k5 ?a6 ?l6 ?c6 ?k6 ?a7 ?l7 ?c7 ?k7 ?a8 ?l8 ?c8 ?k8 ?a9 ?l9 ?c9 ?k9 ?a10 ?l10 ?c10 ?k10 ?a11 ?l11 ?c11 ?k11 ?v_MOST_PATH ?v_PATH_SIGNS ?z_all ?z_enumerate ?z_int ?z_isinstance ?z_len ?z_range ?z_str ?z_sum
    (case a0 => k_is); (case l0 => k_is); (case c0 => k_is); (case k0 => k_is); (case a1 => k_is); (case l1 => k_is); (case c1 => k_is); (case k1 => k_is); (case a2 => k_is); (case l2 => k_is); (case c2 => k_is); (case k2 => k_is); (case a3 => k_is); (case l3 => k_is); (case c3 => k_is); (case k3 => k_is); (case a4 => k_is); (case l4 => k_is); (case c4 => k_is); (case k4 => k_is); (case a5 => k_is); (case l5 => k_is); (case c5 => k_is); (case k5 => k_is); (case a6 => k_is); (case l6 => k_is); (case c6 => k_is); (case k6 => k_is); (case a7 => k_is); (case l7 => k_is); (case c7 => k_is); (case k7 => k_is); (case a8 => k_is); (case l8 => k_is); (case c8 => k_is); (case k8 => k_is); (case a9 => k_is); (case l9 => k_is); (case c9 => k_is); (case k9 => k_is); (case a10 => k_is); (case l10 => k_is); (case c10 => k_is); (case k10 => k_is); (case a11 => k_is); (case l11 => k_is); (case c11 => k_is); (case k11 => k_is); (case v_MOST_PATH => k_is); (case v_PATH_SIGNS => k_is); (case z_all => k_is); (case z_enumerate => k_is); (case z_int => k_is); (case z_isinstance => k_is); (case z_len => k_is); (case z_range => k_is); (case z_str => k_is); (case z_sum => k_is)
