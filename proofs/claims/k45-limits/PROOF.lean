import PyProof.Rows.All
import Wide.All
import OpenK.AllK
import Wide.FinOn
import HandS.ForMost
import HandS.Codes
import HandS.Walk
import HandS.Flow
import HandS.IsInst
import HandS.StrMore
import HandS.Style
import HandS.TupAny
import HandS.WordsExc
import HandS.Replace
import HandS.ReplaceLit
import HandS.ReplaceDef
import HandS.ReplaceList
import HandS.Star
import HandS.Strs
import HandS.More
import HandS.SortKw
import HandS.TupMul
import KE.GoesEnumKw
import KE.GoesEnum
import KE.KMinKey
import HandS.ExcSuper
import HandS.TryMany
import HandS.TupLe
import PyProof.FString5
import HandS.RaiseMore
import HandS.Wide
import PyProof.ReprRoads
import HandS.Nested
import KE.KExcSuper
import HandS.ExcInit
import HandS.ExcField
import HandS.Deep
import PyProof.StrBlock2
import KE.KIntText
import KE.GoesMore
import PyProof.StrLawsFirst
import HandS.Property
import HandS.MakeKwOnly
import HandS.Small
import PyProof.DictUpdate
import KE.KDictOf
import HandS.Sort
import HandS.Conv
import KE.KDictList
import HandS.DictEq
import KE.KExcIs
import HandS.ExcIs
import HandS.IterVal
import HandS.Lambda
import HandS.EndTab
import KE.KNestM
import KE.KDflt
import HandS.Flt
import KE.SortData
import PyProof.EqAt
import KE.OsRunLaw
import PySem.Challenge.RW_crumbjar_k45_limits
set_option Elab.async false
set_option linter.all false
set_option maxRecDepth 100000
set_option maxHeartbeats 4000000
namespace Cj
open PySem PySem.Spec PyProof.Rows L2
/-! the rules that lean on the written part, told with K (a comprehension's block has the same K) -/
section
variable {X : Cx} {K : PySem.W.Frag}
theorem kIxL (h : X.K = K) : IxR X (rIxL K) := by subst h; exact ix_list
theorem kIxT (h : X.K = K) : IxR X (rIxT K) := by subst h; exact ix_tup
theorem kSlL (h : X.K = K) : SlR X (rSlL K) := by subst h; exact sl_list
theorem kIn (h : X.K = K) : OpR X (compareOp .In) (rIn K false) := by subst h; exact op_in_seq
theorem kNi (h : X.K = K) : OpR X (compareOp .NotIn) (rIn K true) := by subst h; exact op_notIn_seq
theorem kEq (h : X.K = K) (hu : X.A.units + 64 < cLine) : OpR X (compareOp .Eq) (rEqD K) := by subst h; exact op_eqD hu
theorem kNe (h : X.K = K) (hu : X.A.units + 64 < cLine) : OpR X (compareOp .NotEq) (rNeD K) := by subst h; exact op_neD hu
def rLenQ (K : PySem.W.Frag) : List V → Hp → VK → Prop := fun xs H Q => ∃ p ys, xs = [.ref p] ∧ (SqL K H p ys ∨ SqT K H p ys) ∧ Q (.int ys.length) H
theorem kLen (h : X.K = K) : CallR X (.builtin "len") (rLenQ K) := by subst h; exact call_len_seq
theorem kAll (h : X.K = K) (hc : X.calm = true) : CallR X (.builtin "all") (rAll K) := by subst h; exact cr_all hc
theorem kAny (h : X.K = K) (hc : X.calm = true) : CallR X (.builtin "any") (rAny K) := by subst h; exact cr_any hc
theorem kMax (h : X.K = K) (hc : X.calm = true) : CallR X (.builtin "max") (rMax K) := by subst h; exact cr_max hc
theorem kIsi (h : X.K = K) : CallR X (.builtin "isinstance") (rIsi K) := by subst h; exact call_isi
def rTupQ (K : PySem.W.Frag) : List V → Hp → VK → Prop := fun xs H Q => ∃ p ys, xs = [.ref p] ∧ ((SqL K H p ys ∧ ∀ l, H l = none → Q (.ref l) (upd H l (.tup ys))) ∨ (SqT K H p ys ∧ Q (.ref p) H))
theorem kTup (h : X.K = K) : CallR X (.type "tuple") (rTupQ K) := by subst h; exact call_tuple_of
def rLstQ (K : PySem.W.Frag) : List V → Hp → VK → Prop := fun xs H Q => ∃ p ys, xs = [.ref p] ∧ (SqL K H p ys ∨ SqT K H p ys) ∧ ∀ l, H l = none → Q (.ref l) (upd H l (.lst ys))
theorem kLst (h : X.K = K) : CallR X (.type "list") (rLstQ K) := by subst h; exact call_list_of
def rJoinQ (K : PySem.W.Frag) : V → List V → Hp → VK → Prop := fun x xs H Q => ∃ a p, ∃ ys : List Str, x = .str a ∧ xs = [.ref p] ∧ (SqL K H p (ys.map V.str) ∨ SqT K H p (ys.map V.str)) ∧ (ys.map (·.length)).sum + ys.length * a.length ≤ 16777216 ∧ Q (.str (Txt.join a ys)) H
theorem kJoin (h : X.K = K) : MtR X "str.join" (rJoinQ K) := by subst h; exact mt_join
variable {tg a b e l : Expr} {ta tb tl : TE} {tas : TA} {rest : List Expr} {p pos tpos : Pos} {elts : List Expr} {kk : Nat}
theorem kpList (h : X.K = K) (hl : PE X l tl) : PI X tg l (iList K tl) := by subst h; exact pi_list hl
theorem kpTup (h : X.K = K) (hl : PE X l tl) : PI X tg l (iTup K tl) := by subst h; exact pi_tup hl
def tTruQ (K : PySem.W.Frag) (ta : TE) : TT := fun σ H Q => ta σ H fun x H' => ∃ k, TruV K x H' k ∧ Q k H'
theorem kgTup {es : List Expr} {k : Nat} {t : TGs} {n : Nat} {pos : Pos} (h : X.K = K) (hc : X.calm = true) (hp : PGs X es t) (hn : (assignEach es X.env).length = n) (hst : (assignEach es X.env).findIdx? (·.1) = none) : PG X (.Tuple es k pos) (gTup K n t) := by subst h; exact pg_tup hc hp hn hst
theorem kBm {o e : Expr} {es : List Expr} {to : TE} {t : TA} {name : Str} {apos cpos : Pos} {T id : String} {r : V → List V → Hp → VK → Prop} (h : X.K = K) (pa : PlainAttrs T) (slot : Slot T name id) (hty : typeOf (.builtin id) = pure (.type "method_descriptor")) (hm : MtR X id r) (ho : PE X o to) (ha : PA X (e :: es) t)
    (hb : attributeBase o name X.env (eval o X.env) = eval o X.env := by rfl)
    (hf : ((backTo cpos (starEach (e :: es) X.env)).all (fun x => !x.1) && (backToKw cpos (keywordEach [] X.env)).all (fun x => x.1.isSome) && decide ((e :: es).length + ([] : List Keyword).length + (if ([] : List Keyword).isEmpty then 0 else 1) < 30)) = true := by rfl)
    (hl : (apos.endLine == cpos.line) = true := by rfl) (hs : starEach (e :: es) X.env = (false, eval e X.env) :: starEach es X.env := by rfl) (hp : (backTo cpos (starEach es X.env)).any (·.1) = false := by rfl) :
    PE X (.Call (.Attribute o name apos) (e :: es) [] cpos) (tBM K T r to t) := by subst h; exact pe_bm pa slot hty hm ho ha hb hf hl hs hp
end
/-- all that was tracked but d is as it was -/
def Sx (d : Addr) (H H' : Hp) : Prop := ∀ b o, b ≠ d → H b = some o → H' b = some o
theorem Sx.refl (d : Addr) (H : Hp) : Sx d H H := fun _ _ _ h => h
theorem Sx.trans {d : Addr} {H H1 H2 : Hp} (a : Sx d H H1) (b : Sx d H1 H2) : Sx d H H2 := fun c o n h => b c o n (a c o n h)
theorem Sx.of {d : Addr} {H H' : Hp} (a : Same H H') : Sx d H H' := fun b o _ h => a b o h
theorem Sx.seq {K : PySem.W.Frag} {d : Addr} {H H' : Hp} {a : Addr} {xs : List V} (e : Sx d H H') (n : a ≠ d) (h : SqL K H a xs) : SqL K H' a xs := by
  rcases h with (h | ⟨o, h⟩) | h
  · exact .inl (.inl (e _ _ n h))
  · exact .inl (.inr ⟨o, e _ _ n h⟩)
  · exact .inr h
theorem same_upd {H : Hp} {p : Addr} {o : HO} (h : H p = none) : Same H (upd H p o) := fun b x e => by
  rw [upd_ne (ne_of_none e h)]
  exact e
/-- the source of drawn numbers stands at d, having turned n times at most -/
def Dr (d : Addr) (n : Nat) (H : Hp) : Prop := ∃ left cell turns : Int,
  H d = some (.dK [(.inr ("left" : Str), .int left), (.inr ("cell" : Str), .int cell), (.inr ("turns" : Str), .int turns)]) ∧ 0 ≤ turns ∧ turns ≤ n
theorem Dr.mono {d : Addr} {n m : Nat} {H : Hp} (h : Dr d n H) (e : n ≤ m) : Dr d m H := by
  obtain ⟨a, b, c, h1, h2, h3⟩ := h
  exact ⟨a, b, c, h1, h2, by omega⟩
theorem Dr.same {d : Addr} {n : Nat} {H H' : Hp} (h : Dr d n H) (e : Same H H') : Dr d n H' := by
  obtain ⟨a, b, c, h1, h2, h3⟩ := h
  exact ⟨a, b, c, e _ _ h1, h2, h3⟩
theorem Dr.ne {d p : Addr} {n : Nat} {H : Hp} (h : Dr d n H) (e : H p = none) : p ≠ d := by
  obtain ⟨a, b, c, h1, _⟩ := h
  exact (ne_of_none h1 e).symm
theorem Sx.upd {d : Addr} {H H' : Hp} {o : HO} (e : Sx d H H') : Sx d H (upd H' d o) := fun b x n h => by
  rw [upd_ne n]
  exact e b x n h
open SX (S S_len S_cat S_inj)
theorem ifT {c : Bool} {A B : Prop} (hc : c = true) (h : A) : if c = true then A else B := by
  rw [if_pos hc]
  exact h
theorem ifF {c : Bool} {A B : Prop} (hc : c = false) (h : B) : if c = true then A else B := by
  rw [hc, if_neg Bool.false_ne_true]
  exact h
theorem if2 {c : Bool} {A B : Prop} (h1 : c = true → A) (h2 : c = false → B) : if c = true then A else B := by
  cases c with
  | true => exact ifT rfl (h1 rfl)
  | false => exact ifF rfl (h2 rfl)
theorem dS (a b : List Nat) : decide (V.str (S a) = V.str (S b)) = decide (a = b) := by
  by_cases e : a = b
  · subst e
    rw [decide_eq_true rfl, decide_eq_true rfl]
  · rw [decide_eq_false e, decide_eq_false fun z => e (S_inj (V.str.inj z))]
theorem dI (a b : Int) : decide (V.int a = V.int b) = decide (a = b) := by
  by_cases e : a = b
  · subst e
    rw [decide_eq_true rfl, decide_eq_true rfl]
  · rw [decide_eq_false e, decide_eq_false fun z => e (V.int.inj z)]
theorem dB (a b : Bool) : decide (V.bl a = V.bl b) = (a == b) := by
  cases a <;> cases b <;> rfl
/-- sizes -/
theorem szS {l : List Nat} (h : l.length ≤ 100000) : (S l).length ≤ sizeLine := by
  rw [S_len]
  exact Nat.le_trans h (by decide)
theorem sz {n : Nat} (h : n ≤ 100000) : n ≤ sizeLine := Nat.le_trans h (by decide)
theorem szlt {n : Nat} (h : n ≤ 100000) : n < sizeLine := Nat.lt_of_le_of_lt h (by decide)
theorem szadd {a b : List Nat} (h : a.length + b.length ≤ 100000) : (S a).length + (S b).length ≤ sizeLine := by
  rw [S_len, S_len]
  exact Nat.le_trans h (by decide)
/-! texts as lists of signs -/
theorem startswith_S (a b : List Nat) : Txt.startswith (S a) (S b) = b.isPrefixOf a := by
  have e : Txt.startswith (S a) (S b) = (decide (0 + b.length ≤ a.length) && (a.toArray.extract 0 (0 + b.length) == b.toArray)) := by
    have h1 : Txt.startswith (S a) (S b) = (decide (0 + (S b).length ≤ (S a).length) && ((S a).cps.extract 0 (0 + (S b).length) == (S b).cps)) := rfl
    rw [h1, S_len, S_len]
  rw [e]
  apply Bool.eq_iff_iff.mpr
  rw [List.isPrefixOf_iff_prefix, Bool.and_eq_true, decide_eq_true_eq, beq_iff_eq, Nat.zero_add]
  constructor
  · rintro ⟨h1, h2⟩
    have h3 : (a.toArray.extract 0 b.length).toList = b := by rw [h2]
    rw [Array.toList_extract] at h3
    have h4 : a.take b.length = b := by simpa [List.extract_eq_take_drop] using h3
    have h5 := List.take_append_drop b.length a
    rw [h4] at h5
    exact ⟨_, h5⟩
  · rintro ⟨t, rfl⟩
    refine ⟨by simp, ?_⟩
    apply Array.toList_inj.mp
    rw [Array.toList_extract]
    simp [List.extract_eq_take_drop]
theorem endswith_S (a b : List Nat) : Txt.endswith (S a) (S b) = b.isSuffixOf a := by
  have e : Txt.endswith (S a) (S b) = (decide (0 + b.length ≤ a.length) && (a.toArray.extract (a.length - b.length) (a.length - b.length + b.length) == b.toArray)) := by
    have h1 : Txt.endswith (S a) (S b) = (decide (0 + (S b).length ≤ (S a).length) && ((S a).cps.extract ((S a).length - (S b).length) ((S a).length - (S b).length + (S b).length) == (S b).cps)) := rfl
    rw [h1, S_len, S_len]
  rw [e]
  apply Bool.eq_iff_iff.mpr
  rw [List.isSuffixOf_iff_suffix, Bool.and_eq_true, decide_eq_true_eq, beq_iff_eq, Nat.zero_add]
  constructor
  · rintro ⟨h1, h2⟩
    have h3 : (a.toArray.extract (a.length - b.length) (a.length - b.length + b.length)).toList = b := by rw [h2]
    rw [Array.toList_extract] at h3
    have h4 : a.drop (a.length - b.length) = b := by
      have h5 : (a.drop (a.length - b.length)).take b.length = b := by simpa [List.extract_eq_take_drop] using h3
      rw [List.take_of_length_le (by rw [List.length_drop]; omega)] at h5
      exact h5
    have h5 := List.take_append_drop (a.length - b.length) a
    rw [h4] at h5
    exact ⟨_, h5⟩
  · rintro ⟨t, rfl⟩
    refine ⟨by simp, ?_⟩
    apply Array.toList_inj.mp
    rw [Array.toList_extract]
    have e2 : (t ++ b).length - b.length = t.length := by simp
    rw [e2]
    simp [List.extract_eq_take_drop]
/-- the cut of a list -/
def cut {α : Type} (l : List α) (lo hi : Option Int) : List α := (l.drop (HT.sIx l.length 0 lo)).take (HT.sIx l.length l.length hi - HT.sIx l.length 0 lo)
theorem cutS_S (l : List Nat) (lo hi : Option Int) : cutS (S l) lo hi = S (cut l lo hi) := by
  unfold cutS cut
  rw [S_len]
theorem cut_len {α : Type} (l : List α) (lo hi : Option Int) : (cut l lo hi).length ≤ l.length := by
  unfold cut
  rw [List.length_take, List.length_drop]
  omega
/-- [:k] -/
theorem cut_to {α : Type} (l : List α) (k : Nat) : cut l none (some (k : Int)) = l.take k := by
  unfold cut
  rw [HT.sIx_none, HT.sIx_nat, List.drop_zero, Nat.sub_zero]
  by_cases h : k ≤ l.length
  · rw [Nat.min_eq_left h]
  · rw [Nat.min_eq_right (by omega), List.take_of_length_le (Nat.le_refl _), List.take_of_length_le (by omega)]
/-- [k:] -/
theorem cut_from {α : Type} (l : List α) (k : Nat) : cut l (some (k : Int)) none = l.drop k := by
  unfold cut
  rw [HT.sIx_none, HT.sIx_nat]
  by_cases h : k ≤ l.length
  · rw [Nat.min_eq_left h, List.take_of_length_le (by rw [List.length_drop]; exact Nat.le_refl _)]
  · rw [Nat.min_eq_right (by omega), List.drop_of_length_le (Nat.le_refl _), List.drop_of_length_le (by omega), List.take_nil]
/-- [:-1] -/
theorem cut_init {α : Type} (l : List α) : cut l none (some (-1)) = l.dropLast := by
  unfold cut
  rw [HT.sIx_none]
  have e : HT.sIx l.length l.length (some (-1)) = l.length - 1 := by
    have h1 : HT.sIx l.length l.length (some (-1)) = (if (-1 : Int) < 0 then ((-1 : Int) + (l.length : Int)).toNat else min (-1 : Int).toNat l.length) := rfl
    rw [h1, if_pos (by decide)]
    omega
  rw [e, List.drop_zero, Nat.sub_zero, List.dropLast_eq_take]
theorem atI_neg1 {α : Type} {l : List α} {v : α} (h : l.getLast? = some v) : atI l (-1) = some v := by
  have hne : l ≠ [] := fun z => by
    rw [z] at h
    cases h
  have e : l = l.dropLast ++ [v] := by
    have h1 := List.dropLast_concat_getLast hne
    have h2 : l.getLast hne = v := Option.some.inj ((List.getLast?_eq_some_getLast hne).symm.trans h)
    rw [h2] at h1
    exact h1.symm
  rw [e]
  exact atI_last _ v
theorem and_false {c : Bool} {A B : Prop} (h : c = true → B → A) (k : B) : if c = true then A else B := by
  cases c with
  | true => exact ifT rfl (h rfl k)
  | false => exact ifF rfl k
theorem all_map {α : Type} (l : List α) (p : α → Bool) : (l.map p).all id = l.all p := by
  rw [List.all_map]
  rfl
/-! lists of texts, compared -/
abbrev vS (l : List Nat) : V := .str (S l)
def Asc (l : List Nat) : Prop := ∀ c ∈ l, c < 128
/-- the parts of a text between single signs -/
def parts (c : Nat) (l : List Nat) : List (List Nat) := TL.spl [c] 0 [] l
theorem split_S {c : Nat} (hc : c < 256) (l : List Nat) : (Txt.split (S l) (S [c])).map V.str = (parts c l).map vS := by
  rw [SX.split_S (a := l) (b := [c]) (by simp) (by simpa using hc), List.map_map]
  rfl
theorem spl_acc (c : Nat) : ∀ (l acc : List Nat), ∃ p r, TL.spl [c] 0 acc l = (acc ++ p) :: r ∧ TL.spl [c] 0 [] l = p :: r
  | [], acc => ⟨[], [], by rw [TL.spl_nil, List.append_nil], by rw [TL.spl_nil]⟩
  | x :: l, acc => by
    by_cases h : TL.pre [c] (x :: l) = true
    · exact ⟨[], TL.spl [c] ([c].length - 1) [] l, by rw [TL.spl_hit h, List.append_nil], by rw [TL.spl_hit h]⟩
    · have h' : TL.pre [c] (x :: l) = false := by simpa using h
      obtain ⟨p, r, e1, e2⟩ := spl_acc c l (acc ++ [x])
      obtain ⟨p', r', e3, e4⟩ := spl_acc c l ([] ++ [x])
      rw [e2] at e4
      cases e4
      exact ⟨x :: p, r, by rw [TL.spl_miss h', e1]; simp, by rw [TL.spl_miss h', e3]; simp⟩
theorem parts_nil (c : Nat) : parts c [] = [[]] := TL.spl_nil _ _ _
theorem parts_hit (c : Nat) (l : List Nat) : parts c (c :: l) = [] :: parts c l := by
  unfold parts
  rw [TL.spl_hit (by simp [TL.pre])]
  rfl
theorem parts_miss {c x : Nat} (h : x ≠ c) (l : List Nat) : ∃ p r, parts c l = p :: r ∧ parts c (x :: l) = (x :: p) :: r := by
  obtain ⟨p, r, e1, e2⟩ := spl_acc c l ([] ++ [x])
  refine ⟨p, r, e2, ?_⟩
  unfold parts
  rw [TL.spl_miss (by simp [TL.pre, h]), e1]
  rfl
theorem parts_ne (c : Nat) (l : List Nat) : parts c l ≠ [] := by
  obtain ⟨p, r, _, e⟩ := spl_acc c l []
  unfold parts
  rw [e]
  exact List.cons_ne_nil _ _
theorem parts_len (c : Nat) : ∀ l : List Nat, (parts c l).length ≤ l.length + 1
  | [] => by rw [parts_nil]; simp
  | x :: l => by
    have ih := parts_len c l
    by_cases h : x = c
    · subst h
      rw [parts_hit]
      simp only [List.length_cons]
      omega
    · obtain ⟨p, r, e1, e2⟩ := parts_miss h l
      rw [e1] at ih
      rw [e2]
      simp only [List.length_cons] at ih ⊢
      omega
theorem parts_cut (c : Nat) : ∀ a b : List Nat, parts c (a ++ c :: b) = parts c a ++ parts c b
  | [], b => by
    rw [List.nil_append, parts_hit, parts_nil]
    rfl
  | x :: a, b => by
    rw [List.cons_append]
    by_cases h : x = c
    · subst h
      rw [parts_hit, parts_hit, parts_cut]
      rfl
    · obtain ⟨p, r, e1, e2⟩ := parts_miss h a
      obtain ⟨p', r', e3, e4⟩ := parts_miss h (a ++ c :: b)
      rw [parts_cut, e1] at e3
      rw [e4, e2]
      cases e3
      rfl
theorem parts_one {c : Nat} : ∀ {l : List Nat}, c ∉ l → parts c l = [l]
  | [], _ => parts_nil c
  | x :: l, h => by
    rw [List.mem_cons, not_or] at h
    obtain ⟨p, r, e1, e2⟩ := parts_miss (fun z => h.1 z.symm) l
    rw [parts_one h.2] at e1
    cases e1
    exact e2
/-- glued again -/
theorem join_parts (c : Nat) : ∀ l : List Nat, TL.joinL [c] (parts c l) = l
  | [] => by
    rw [parts_nil]
    rfl
  | x :: l => by
    have ih := join_parts c l
    by_cases h : x = c
    · subst h
      rw [parts_hit]
      obtain ⟨p, r, e⟩ : ∃ p r, parts x l = p :: r := by
        cases e : parts x l with
        | nil => exact absurd e (parts_ne x l)
        | cons p r => exact ⟨p, r, rfl⟩
      rw [e] at ih ⊢
      show [] ++ ([x] ++ TL.joinL [x] (p :: r)) = x :: l
      rw [ih]
      rfl
    · obtain ⟨p, r, e1, e2⟩ := parts_miss h l
      rw [e1] at ih
      rw [e2]
      cases r with
      | nil =>
        have ih : p = l := ih
        rw [← ih]
        rfl
      | cons q r =>
        have ih : p ++ ([c] ++ TL.joinL [c] (q :: r)) = l := ih
        rw [← ih]
        rfl
theorem join_S (y : List Nat) (ws : List (List Nat)) : Txt.join (S y) (ws.map S) = S (TL.joinL y ws) := by
  rw [TL.join_eq]
  refine TL.ext_tl ?_
  rw [TL.tl_join, SX.map_S_tl]
theorem join_app (c : Nat) : ∀ {A B : List (List Nat)}, A ≠ [] → B ≠ [] → TL.joinL [c] (A ++ B) = TL.joinL [c] A ++ c :: TL.joinL [c] B
  | [], _, h, _ => absurd rfl h
  | [x], [], _, h => absurd rfl h
  | [x], y :: B, _, _ => rfl
  | x :: y :: A, B, _, h => by
    have ih := join_app c (A := y :: A) (B := B) (List.cons_ne_nil _ _) h
    show x ++ ([c] ++ TL.joinL [c] (y :: A ++ B)) = x ++ ([c] ++ TL.joinL [c] (y :: A)) ++ c :: TL.joinL [c] B
    rw [ih]
    simp
theorem parts_each (c : Nat) : ∀ {l : List Nat}, ∀ w ∈ parts c l, w.length ≤ l.length
  | [], w, h => by
    rw [parts_nil] at h
    rcases List.mem_cons.mp h with rfl | h
    · exact Nat.le_refl _
    · cases h
  | x :: l, w, h => by
    by_cases e : x = c
    · subst e
      rw [parts_hit] at h
      rcases List.mem_cons.mp h with rfl | h
      · exact Nat.zero_le _
      · exact Nat.le_succ_of_le (parts_each x w h)
    · obtain ⟨p, r, e1, e2⟩ := parts_miss e l
      rw [e2] at h
      rcases List.mem_cons.mp h with rfl | h
      · exact Nat.succ_le_succ (parts_each c p (by rw [e1]; exact List.mem_cons_self))
      · exact Nat.le_succ_of_le (parts_each c w (by rw [e1]; exact List.mem_cons_of_mem _ h))
/-! lists of numbers -/
def zs (l : List Nat) : List Int := l.map fun n : Nat => (n : Int)
def maxL (l : List Nat) : Nat := l.foldr max 0
theorem maxL_le : ∀ {l : List Nat} {x : Nat}, x ∈ l → x ≤ maxL l
  | y :: r, x, h => by
    show x ≤ max y (maxL r)
    rcases List.mem_cons.mp h with rfl | h
    · omega
    · have := maxL_le h
      omega
theorem maxL_mem : ∀ {l : List Nat}, l ≠ [] → maxL l ∈ l
  | [y], _ => by
    show max y 0 ∈ [y]
    simp
  | y :: z :: r, _ => by
    have ih := maxL_mem (l := z :: r) (List.cons_ne_nil _ _)
    show max y (maxL (z :: r)) ∈ y :: z :: r
    by_cases h : maxL (z :: r) ≤ y
    · rw [Nat.max_eq_left h]
      exact List.mem_cons_self
    · rw [Nat.max_eq_right (by omega)]
      exact List.mem_cons_of_mem _ ih
theorem maxL_is {l : List Nat} {m : Int} (h1 : m ∈ zs l) (h2 : ∀ y ∈ zs l, y ≤ m) : m = (maxL l : Nat) := by
  obtain ⟨k, hk, rfl⟩ := List.mem_map.mp h1
  have a := maxL_le hk
  have b := h2 _ (List.mem_map.mpr ⟨maxL l, maxL_mem (fun z => by rw [z] at hk; cases hk), rfl⟩)
  omega
theorem join_drop_len (c : Nat) (ws : List (List Nat)) (k : Nat) : (TL.joinL [c] (ws.drop k)).length ≤ (TL.joinL [c] ws).length := by
  by_cases h1 : ws.take k = []
  · have e : ws.drop k = ws := by
      conv => rhs; rw [← List.take_append_drop k ws, h1]
      rfl
    rw [e]
    exact Nat.le_refl _
  · by_cases h2 : ws.drop k = []
    · rw [h2]
      exact Nat.zero_le _
    · have e := join_app c h1 h2
      rw [List.take_append_drop] at e
      rw [e, List.length_append, List.length_cons]
      omega
theorem count_S (c : Nat) (l : List Nat) : Txt.count (S l) (S [c]) = ((parts c l).length : Int) - 1 := by
  have e : Txt.count (S l) ⟨#[c]⟩ = PyProof.Rows.cnt c (S l).cps.toList := PyProof.Rows.count_is _ _
  have e1 : Txt.count (S l) (S [c]) = PyProof.Rows.cnt c l := e
  rw [e1]
  have step : ∀ l : List Nat, PyProof.Rows.cnt c l = ((parts c l).length : Int) - 1 := by
    intro l
    induction l with
    | nil =>
      rw [parts_nil]
      rfl
    | cons x r ih =>
      rw [PyProof.Rows.cnt_cons, ih]
      by_cases h : x = c
      · subst h
        rw [parts_hit, if_pos rfl, List.length_cons]
        omega
      · obtain ⟨p, q, e1, e2⟩ := parts_miss h r
        rw [e1, e2, if_neg h]
        simp only [List.length_cons]
        omega
  exact step l
/-- [-k:] -/
theorem cut_neg {α : Type} (l : List α) {k : Nat} (h0 : 1 ≤ k) (h : k ≤ l.length) : cut l (some (-(k : Int))) none = l.drop (l.length - k) := by
  unfold cut
  rw [HT.sIx_none]
  have e : HT.sIx l.length 0 (some (-(k : Int))) = l.length - k := by
    have h1 : HT.sIx l.length 0 (some (-(k : Int))) = (if (-(k : Int)) < 0 then (-(k : Int) + (l.length : Int)).toNat else min (-(k : Int)).toNat l.length) := rfl
    rw [h1, if_pos (by omega)]
    omega
  rw [e, List.take_of_length_le (by rw [List.length_drop]; omega)]
/-! a def with a star parameter -/
section
variable {X : Cx} {CX : CXT} {k : Nat} {f : Addr} {sp : Sp} {E : XK} {x : Str} {e : Expr} {es : List Expr} {t : TA} {p pos : Pos}
def tCallS (sp : Sp) (E : XK) (t : TA) : TE := fun σ H Q => t σ H fun vs H1 => sp vs H1 Q E
end
/-! enumerate(tuple) -/
namespace ET
theorem meets_en {v : Value} {o : Obj} {G : Heap → Prop} (B : Begins v o G) :
    Meets (Builtin.«enumerate.__new__» ⟨[.type "enumerate", v], []⟩) (fun _ R s => G s.heap ∧
      R (.ok (.ret (.ref (s.heap.push o).objs.size))) { s with heap := (s.heap.push o).push { cls := .type "enumerate", data := .fields #[.none, .bool false, .ref s.heap.objs.size, rawInt 0, .none, .none] } }) := by
  refine .of_wp fun prog w A R s h => ?_
  obtain ⟨hp, g, d, tk, os⟩ := s
  obtain ⟨k1, h⟩ := h
  have hsub := sub_enumerate
  have it1 : ∀ {A' : Around} {E : Value → Shared → Prop} {Q : Value → Shared → Prop}, Q (.ref hp.objs.size) ⟨hp.push o, g, d, tk, os⟩ → wpAny (model prog w) A' (pyIter v) Q E ⟨hp, g, d, tk, os⟩ := fun q => B.iter prog w _ _ ⟨hp, g, d, tk, os⟩ _ k1 q
  wp_walk using it1
  refine wpAny_stack_any fun st => wpAny_pure ?_
  split
  · rename_i c _ _ _ _ _
    cases (c == Value.type "enumerate") <;> (wp_walk using it1; exact ⟨_, rfl, h⟩)
  · wp_walk using it1
    exact ⟨_, rfl, h⟩
section
variable {prog : Program} {w : World} {A : Around} {E : Value → Shared → Prop} {s : Shared}
theorem call_en {v : Value} {o : Obj} {G : Heap → Prop} {Q : Value → Shared → Prop} (B : Begins v o G) (k1 : G s.heap)
    (q : ∀ h', IsEnum h' (s.heap.objs.size + 1) s.heap.objs.size 0 .none → h'.get? s.heap.objs.size = some o → (∀ b o, s.heap.get? b = some o → h'.get? b = some o) → Q (.ref (s.heap.objs.size + 1)) { s with heap := h' }) :
    wpAny (model prog w) A (call (.type "enumerate") [v]) Q E s := by
  refine callType_new F.called_enumerate (by decide) (F.typeCall_enumerate_1 _) (F.newCall_enumerate_1 _) (fun o => F.args_object_init_2 o _) F.entry_enumerate_new (meets_en B) ⟨k1, ?_⟩
  have n1 : (s.heap.push o).objs.size = s.heap.objs.size + 1 := Heap.size_push ..
  have p1 : ((s.heap.push o).push { cls := .type "enumerate", data := .fields #[.none, .bool false, .ref s.heap.objs.size, rawInt 0, .none, .none] }).get? (s.heap.push o).objs.size = some _ := Heap.get?_push_size _ rfl
  show _ ∧ _
  rw [n1] at p1
  rw [n1]
  exact ⟨⟨_, p1, rfl⟩, q _ p1 (Heap.get?_push_of_some _ (Heap.get?_push_size _ B.free)) fun b o x => Heap.get?_push_of_some _ (Heap.get?_push_of_some _ x)⟩
end
/-- the tuple at a, each item in a new pair -/
def ItN (K : PySem.W.Frag) (a : Addr) : It :=
  ⟨fun i H => ∃ (xs : List V) (x : V), SqT K H a xs ∧ xs[i]? = some x,
    fun i H v H' => ∃ T x, v = .ref T ∧ H T = none ∧ H' = upd H T (.tup [.int (i : Nat), x]) ∧ ∀ xs, SqT K H a xs → xs[i]? = some x,
    fun i H => ∃ xs : List V, SqT K H a xs ∧ xs.length = i⟩
theorem turn_en {P : Program} {w : World} {K : PySem.W.Frag} {elts : List Expr} {kk : Nat} {tpos : Pos} (a e it : Addr) (na : a ≠ it) (ne : e ≠ it) (nea : e ≠ a) :
    Turn P w K (.Tuple elts kk tpos) (ItN K a) [e, it] e (fun i h => (∃ old, IsEnum h e it ((i : Nat) : Int) old) ∧ h.IsTupleIter it a i) where
  mem := by simp
  obj := fun i h st b hb => by
    obtain ⟨⟨old, c1⟩, ⟨o, c2, _, d2⟩⟩ := st
    have e' : b = e ∨ b = it := by simpa using hb
    rcases e' with rfl | rfl
    · exact ⟨_, c1, fun v q => nomatch q⟩
    · exact ⟨o, c2, fun v q => by rw [d2] at q; cases q⟩
  keep := fun i h h' st k => by
    obtain ⟨⟨old, c1⟩, c2⟩ := st
    exact ⟨⟨old, k _ (by simp) _ c1⟩, c2.at fun o q => k _ (by simp) o q⟩
  item := by
    intro X hP hw hK hc i pins s σ H E I hf st hg
    subst hP hw hK
    obtain ⟨⟨old, c1⟩, c2⟩ := st
    obtain ⟨xs, x, qx, hx⟩ := hg
    obtain ⟨us, ru, pu, _⟩ := I.tuple qx
    obtain ⟨u, hu, r1⟩ := ru.get hx
    have le : e < s.heap.objs.size := Heap.lt_size c1
    have li : it < s.heap.objs.size := c2.elim fun _ q => Heap.lt_size q.1
    have D := Draws.tuple (prog := X.prog) (w := X.w) (A := X.A.in1) (I.ok.hd hc) it a na us.toArray
    have hi : i < us.toArray.size := by
      have hu' : us[i]? = some u := by simpa using hu
      have := (List.getElem?_eq_some_iff.mp hu').1
      simpa using this
    refine wpAny_pyNext_enum_itemC D c1 ⟨c2, (show s.heap.IsTuple a us.toArray from pu)⟩ hi ne (by simp [ne, nea]) fun y h' tk hy d1 d2 d3 d4 hk => ?_
    have ey : y = u := by
      have h1 : us[i]? = some y := by simpa using hy
      have h2 : us[i]? = some u := by simpa using hu
      rw [h1] at h2
      exact Option.some.inj h2
    subst ey
    refine ⟨_, rfl, wpAny_letOwnedTupleGo_enum (s := { s with heap := h', toks := tk + 1 }) d1 fun h2 e1 sb => ?_⟩
    have nT : h2.get? s.heap.objs.size = some { cls := .type "tuple", data := .seq #[.int i tk, y] } := (sb.2 _ (Nat.ne_of_gt le)).trans d3
    have new : ObjOk X.prog X.w (upd H s.heap.objs.size (.tup [.int (i : Nat), x])) h2 s.heap.objs.size (.tup [.int (i : Nat), x]) :=
      ⟨by show 2 ≤ sizeLine; decide, [.int i tk, y], .cons ⟨_, rfl⟩ (.cons r1 .nil), ⟨_, nT, rfl, _, rfl⟩⟩
    have I1 : Inv X pins σ (upd H s.heap.objs.size (.tup [.int (i : Nat), x])) { s with heap := h2, toks := tk + 1 } := by
      refine I.turnedNew (ch := [e, it]) (fun b o hb q => (sb.2 b ?_).trans (hk b o ?_ ?_ q)) hf (Nat.le_refl _) new
      all_goals exact fun q' => hb (by simp [q'])
    refine ⟨.ref s.heap.objs.size, _, I1, rfl, ⟨_, x, rfl, I.hok.fresh (Nat.le_refl _), rfl, fun l hl => by rw [I.tuple_inj hl qx]; exact hx⟩, ⟨⟨y, ?_⟩, d2.1.at fun o q => (sb.2 it (Ne.symm ne)).trans q⟩, fun b hb => ?_⟩
    · have e2 : ((i + 1 : Nat) : Int) = (i : Int) + 1 := by omega
      rw [e2]
      exact e1
    · have lt : b < s.heap.objs.size := by
        have e' : b = e ∨ b = it := by simpa using hb
        rcases e' with rfl | rfl
        · exact le
        · exact li
      rw [upd_ne (Nat.ne_of_lt lt)]
      exact (hf b hb).1
  done := by
    intro X hP hw hK hc i pins s σ H E I hf st hg
    subst hP hw hK
    obtain ⟨⟨old, c1⟩, c2⟩ := st
    obtain ⟨xs, qx, hx⟩ := hg
    obtain ⟨us, ru, pu, _⟩ := I.tuple qx
    have hl := ru.length
    have D := Draws.tuple (prog := X.prog) (w := X.w) (A := X.A.in1) (I.ok.hd hc) it a na us.toArray
    have hi : us.toArray.size = i := by simp; omega
    refine wpAny_pyNext_enum_endD D c1 (by rw [hi]; exact ⟨c2, (show s.heap.IsTuple a us.toArray from pu)⟩) fun h' eb => ⟨rfl, I.turnedL (t' := s.toks) (ch := [e, it]) (fun b o hb q => eb b o ?_ q) hf⟩
    exact fun q' => hb (by simp [q'])
  self := fun A i s Q E st h => let ⟨⟨_, c1⟩, _⟩ := st; wpAny_pyIter_enum c1 h
theorem walk_en {K : PySem.W.Frag} {a : Addr} {xs : List V} : Walk (ItN K a) xs.length (fun H => SqT K H a xs) (YPair (fun i => some (.int (i : Nat))) (fun i => xs[i]?)) := by
  refine ⟨fun i _ hi q => ⟨xs, xs[i], q, by simp [hi]⟩, fun _ q => ⟨xs, q, rfl⟩, fun i H v H' _ q y => ?_⟩
  obtain ⟨T, x, h1, h2, h3, h4⟩ := y
  exact ⟨T, .int (i : Nat), x, h1, h2, h3, rfl, h4 xs q⟩
def iEn (K : PySem.W.Frag) (ta : TA) : TI := fun σ H R => ta σ H fun vs H1 => ∃ a xs, vs = [.ref a] ∧ SqT K H1 a xs ∧ R (ItN K a) H1
theorem pi_en {X : Cx} {K : PySem.W.Frag} {e : Expr} {ta : TA} {p pos tpos : Pos} {elts : List Expr} {kk : Nat} (hK : X.K = K) (hg : Gl X "enumerate") (hm : X.mg "enumerate" = none) (ha : PA X [e] ta) (hs : starEach [e] X.env = [(false, eval e X.env)] := by rfl) :
    PI X (.Tuple elts kk tpos) (.Call (.Name "enumerate" p) [e] [] pos) (iEn K ta) := by
  subst hK
  refine ⟨fun pins s σ H R I h => ?_⟩
  refine Call_ (ld_blt I hg hm boot_enumerate (PyProof.Rows.callWith_type1 (thn (ha.run pos pins s σ H _ I h) fun us s1 ⟨vs, H1, I1, r1, q1⟩ => ?_) hs rfl))
  obtain ⟨a, xs, ex, hq, q⟩ := q1
  subst ex
  cases r1 with
  | cons r rr =>
    cases rr
    cases r
    obtain ⟨vs, rv, pv, _⟩ := I1.tuple hq
    have pt : s1.heap.IsTuple a vs.toArray := pv
    have la : a < s1.heap.objs.size := pt.elim fun _ q => Heap.lt_size q.1
    refine call_en (begins_tuple a vs.toArray) pt fun h' c1 c2 hk => wpAny_pyIter_enum c1 ?_
    refine ⟨s1.heap.objs.size + 1, [s1.heap.objs.size + 1, s1.heap.objs.size], _, _, H1, rfl, I1.kept (t' := s1.toks) hk, turn_en a (s1.heap.objs.size + 1) s1.heap.objs.size (Nat.ne_of_lt la) (Nat.succ_ne_self _) (Nat.ne_of_gt (Nat.lt_succ_of_lt la)), ⟨⟨.none, c1⟩, ⟨_, c2, rfl, rfl⟩⟩, fun b hb => ?_, q⟩
    have e' : b = s1.heap.objs.size + 1 ∨ b = s1.heap.objs.size := by simpa using hb
    have le : s1.heap.objs.size ≤ b := by
      rcases e' with w | w <;> (rw [w]; first | exact Nat.le_refl _ | exact Nat.le_add_right _ _)
    exact I1.fpOk le (I1.hok.fresh le)
end ET
/-! zip(xs, ys, strict=True) over two lists of one length -/
namespace ZS
section
variable {prog : Program} {w : World} {A : Around} {E : Value → Shared → Prop} {s : Shared}
abbrev Zs (h : Heap) (z TI TO : Addr) (f : Value) : Prop :=
  h.get? z = some { cls := .type "zip", dict := none, data := .fields #[f, .bool false, .bool true, .ref TI, .ref TO], slots := #[] }
theorem noe_item {it l : Addr} {i : Nat} {items : Array Value} {x : Value} {Q : Option Value → Shared → Prop} (a1 : s.heap.IsListIter it l i) (a2 : s.heap.IsList l items) (a3 : items[i]? = some x)
    (q : ∀ h', h'.IsListIter it l (i + 1) → Heap.SameBut it s.heap h' → Q (some x) { s with heap := h' }) : wpAny (model prog w) A (Builtin.SmallTypes.nextOrEnd (.ref it)) Q E s := by
  unfold Builtin.SmallTypes.nextOrEnd
  exact wpAny_bind (wpAny_attempt (wpAny_nextOf_list_item a1 a2 a3 fun h' b1 b2 => wpAny_pure (q h' b1 b2)))
theorem noe_end {it l : Addr} {i : Nat} {items : Array Value} {Q : Option Value → Shared → Prop} (hh : A.handled = none) (a1 : s.heap.IsListIter it l i) (a2 : s.heap.IsList l items) (a3 : items[i]? = none)
    (q : ∀ h', Heap.ExtBut it s.heap h' → Q none { s with heap := h' }) : wpAny (model prog w) A (Builtin.SmallTypes.nextOrEnd (.ref it)) Q E s := by
  unfold Builtin.SmallTypes.nextOrEnd
  refine wpAny_bind (wpAny_attempt (wpAny_nextOf_list_end hh a1 a2 a3 fun h' e b1 b2 => ?_))
  obtain ⟨o, c1, c2⟩ := b2
  refine wpAny_bind (wpAny_isInstance (T := "StopIteration") (b := true) ⟨o, c1, c2⟩ isSubtype_stop ?_)
  exact wpAny_pure (q h' b1)
variable {z TI TO i1 i2 l1 l2 : Addr} {k : Nat} {xs ys : Array Value} {x y a b : Value}
theorem zs_item {Q : Value → Shared → Prop} (D : ZipApart z TI TO i1 i2 l1 l2)
    (cz : Zs s.heap z TI TO .none) (cI : IsPair s.heap TI (.ref i1) (.ref i2)) (cO : IsPair s.heap TO a b)
    (e1 : s.heap.IsListIter i1 l1 k) (e2 : s.heap.IsListIter i2 l2 k) (d1 : s.heap.IsList l1 xs) (d2 : s.heap.IsList l2 ys) (gx : xs[k]? = some x) (gy : ys[k]? = some y)
    (q : ∀ h', Zs h' z TI TO (rawInt s.heap.objs.size) → IsPair h' TO x y → h'.IsListIter i1 l1 (k + 1) → h'.IsListIter i2 l2 (k + 1) → IsPair h' s.heap.objs.size x y → h'.objs.size = s.heap.objs.size + 1 →
      (∀ c o, c ≠ z → c ≠ TO → c ≠ i1 → c ≠ i2 → s.heap.get? c = some o → h'.get? c = some o) → Q (.ref s.heap.objs.size) { s with heap := h' }) :
    wpAny (model prog w) A (Builtin.«zip.__next__» ⟨[.ref z], []⟩) (fun fin s' => ∃ v, fin = .done (.ret v) ∧ Q v s') E s := by
  show wpAny _ _ (field (.ref z) 2 >>= _) _ _ _
  refine wpAny_bind (wpAny_field cz rfl (x := .bool true) rfl ?_)
  show wpAny _ _ (field (.ref z) 3 >>= _) _ _ _
  refine wpAny_bind (wpAny_field cz rfl (x := .ref TI) rfl ?_)
  refine wpAny_bind (wpAny_seqItems cI rfl ?_)
  show wpAny _ _ (Builtin.SmallTypes.ownedTupleIsFree (.ref z) >>= _) _ _ _
  refine wpAny_bind ?_
  unfold Builtin.SmallTypes.ownedTupleIsFree
  refine wpAny_bind (wpAny_field cz rfl (x := .none) rfl (wpAny_pure ?_))
  simp only [if_true]
  refine wpAny_bind (wpAny_rule ?_)
  refine wpAny_bind (wpAny_field cz rfl (x := .ref TO) rfl ?_)
  refine wpAny_bind (wpAny_setField_rec cz (by simp) fun ha ca sa => ?_)
  replace ca : Zs ha z TI TO .ellipsis := ca
  refine wpAny_bind ?_
  simp only [List.zipIdx_cons, List.zipIdx_nil, List.forIn_cons, List.forIn_nil]
  refine wpAny_bind (wpAny_bind (wpAny_onRaise ?_))
  show wpAny _ _ (Builtin.SmallTypes.nextOrEnd (.ref i1)) _ _ _
  refine noe_item (e1.extBut sa.extBut D.i1z) (d1.extBut sa.extBut D.l1z) gx fun hb eb sb => ?_
  have ob : IsPair hb TO a b := sb.extBut _ _ D.TOi1 (sa.extBut _ _ D.TOz cO)
  refine wpAny_bind (wpAny_seqItems ob rfl ?_)
  refine wpAny_bind (wpAny_updateSeq_pair ob fun hc oc sc => ?_)
  replace oc : IsPair hc TO x b := oc
  refine wpAny_bind (wpAny_letGo (wpAny_pure ?_))
  refine wpAny_bind (wpAny_bind (wpAny_onRaise ?_))
  show wpAny _ _ (Builtin.SmallTypes.nextOrEnd (.ref i2)) _ _ _
  refine noe_item (((e2.extBut sa.extBut D.i2z).extBut sb.extBut D.i12.symm).extBut sc.extBut D.TOi2.symm)
    (((d2.extBut sa.extBut D.l2z).extBut sb.extBut D.l2i1).extBut sc.extBut D.l2TO) gy fun hd ed sd => ?_
  have od : IsPair hd TO x b := sd.extBut _ _ D.TOi2 oc
  refine wpAny_bind (wpAny_seqItems od rfl ?_)
  refine wpAny_bind (wpAny_updateSeq_pair od fun he oe se => ?_)
  replace oe : IsPair he TO x y := oe
  refine wpAny_bind (wpAny_letGo (wpAny_pure (wpAny_pure ?_)))
  refine wpAny_bind (wpAny_seqItems oe rfl ?_)
  refine wpAny_bind (wpAny_newTuple ?_)
  have ez : he.objs.size = s.heap.objs.size := by rw [se.1, sd.1, sc.1, sb.1, sa.1]
  have ce : Zs he z TI TO .ellipsis := se.extBut _ _ D.TOz.symm (sd.extBut _ _ D.i2z.symm (sc.extBut _ _ D.TOz.symm (sb.extBut _ _ D.i1z.symm ca)))
  have ke : ∀ c o, c ≠ z → c ≠ TO → c ≠ i1 → c ≠ i2 → s.heap.get? c = some o → he.get? c = some o := fun c o c1 c2 c3 c4 e =>
    se.extBut _ _ c2 (sd.extBut _ _ c4 (sc.extBut _ _ c2 (sb.extBut _ _ c3 (sa.extBut _ _ c1 e))))
  have ee1 : he.IsListIter i1 l1 (k + 1) := ((eb.extBut sc.extBut D.TOi1.symm).extBut sd.extBut D.i12).extBut se.extBut D.TOi1.symm
  have ee2 : he.IsListIter i2 l2 (k + 1) := ed.extBut se.extBut D.TOi2.symm
  have lz : z < he.objs.size := Heap.lt_size ce
  show wpAny _ _ (Builtin.SmallTypes.ownedTupleHandOut (.ref z) (.ref he.objs.size) >>= _) _ _ _
  refine wpAny_bind ?_
  unfold Builtin.SmallTypes.ownedTupleHandOut
  have cf : Zs (he.push { cls := .type "tuple", data := .seq #[x, y] }) z TI TO .ellipsis := Heap.get?_push_of_some _ ce
  refine wpAny_bind (wpAny_setField_rec cf (by simp) fun hg cg sg => ?_)
  replace cg : Zs hg z TI TO (rawInt he.objs.size) := cg
  refine wpAny_setField_rec cg (by simp) fun hi ci si => ?_
  replace ci : Zs hi z TI TO (rawInt he.objs.size) := ci
  have up : ∀ c o, c ≠ z → he.get? c = some o → hi.get? c = some o := fun c o c1 e => si.extBut _ _ c1 (sg.extBut _ _ c1 (Heap.get?_push_of_some _ e))
  have ti : IsPair hi he.objs.size x y := si.extBut _ _ (Nat.ne_of_gt lz) (sg.extBut _ _ (Nat.ne_of_gt lz) (Heap.get?_push_size _ rfl))
  have zi : hi.objs.size = he.objs.size + 1 := by rw [si.1, sg.1, Heap.size_push]
  rw [ez] at ci ti zi
  refine wpAny_pure ⟨_, rfl, ?_⟩
  show Q (.ref he.objs.size) _
  rw [ez]
  exact q hi ci (up _ _ D.TOz oe) (ee1.at fun o e => up _ o D.i1z e) (ee2.at fun o e => up _ o D.i2z e) ti zi fun c o c1 c2 c3 c4 e => up c o c1 (ke c o c1 c2 c3 c4 e)
theorem zs_end {Q : Fin → Shared → Prop} (hh : A.handled = none) (D : ZipApart z TI TO i1 i2 l1 l2)
    (cz : Zs s.heap z TI TO .none) (cI : IsPair s.heap TI (.ref i1) (.ref i2)) (cO : IsPair s.heap TO a b)
    (e1 : s.heap.IsListIter i1 l1 k) (e2 : s.heap.IsListIter i2 l2 k) (d1 : s.heap.IsList l1 xs) (d2 : s.heap.IsList l2 ys) (gx : xs[k]? = none) (gy : ys[k]? = none)
    (q : ∀ h' e, (∀ c o, c ≠ z → c ≠ TO → c ≠ i1 → c ≠ i2 → s.heap.get? c = some o → h'.get? c = some o) → (∃ o, h'.get? e = some o ∧ o.cls = .type "StopIteration") → E (.ref e) { s with heap := h' }) :
    wpAny (model prog w) A (Builtin.«zip.__next__» ⟨[.ref z], []⟩) Q E s := by
  show wpAny _ _ (field (.ref z) 2 >>= _) _ _ _
  refine wpAny_bind (wpAny_field cz rfl (x := .bool true) rfl ?_)
  show wpAny _ _ (field (.ref z) 3 >>= _) _ _ _
  refine wpAny_bind (wpAny_field cz rfl (x := .ref TI) rfl ?_)
  refine wpAny_bind (wpAny_seqItems cI rfl ?_)
  show wpAny _ _ (Builtin.SmallTypes.ownedTupleIsFree (.ref z) >>= _) _ _ _
  refine wpAny_bind ?_
  unfold Builtin.SmallTypes.ownedTupleIsFree
  refine wpAny_bind (wpAny_field cz rfl (x := .none) rfl (wpAny_pure ?_))
  simp only [if_true]
  refine wpAny_bind (wpAny_rule ?_)
  refine wpAny_bind (wpAny_field cz rfl (x := .ref TO) rfl ?_)
  refine wpAny_bind (wpAny_setField_rec cz (by simp) fun ha ca sa => ?_)
  replace ca : Zs ha z TI TO .ellipsis := ca
  refine wpAny_bind ?_
  simp only [List.zipIdx_cons, List.zipIdx_nil, List.forIn_cons, List.forIn_nil]
  refine wpAny_bind (wpAny_bind (wpAny_onRaise ?_))
  show wpAny _ _ (Builtin.SmallTypes.nextOrEnd (.ref i1)) _ _ _
  refine noe_end hh (e1.extBut sa.extBut D.i1z) (d1.extBut sa.extBut D.l1z) gx fun hb sb => ?_
  have cb : Zs hb z TI TO .ellipsis := sb _ _ D.i1z.symm ca
  refine wpAny_bind (wpAny_setField_rec cb (by simp) fun hc _ sc => ?_)
  refine wpAny_bind ?_
  show wpAny _ _ (forIn (List.zipIdx (List.drop 1 [Value.ref i1, Value.ref i2]) 1) _ _ >>= _) _ _ _
  simp only [List.drop_succ_cons, List.drop_zero, List.zipIdx_cons, List.zipIdx_nil, List.forIn_cons, List.forIn_nil]
  refine wpAny_bind (wpAny_bind ?_)
  refine wpAny_bind (noe_end hh ((e2.extBut sa.extBut D.i2z).at fun o e => sc.extBut _ _ D.i2z (sb _ _ D.i12.symm e)) ((d2.extBut sa.extBut D.l2z).at fun o e => sc.extBut _ _ D.l2z (sb _ _ D.l2i1 e)) gy fun hd sd => ?_)
  refine wpAny_pure (wpAny_pure ?_)
  refine wpAny_bind (wpAny_rule ?_)
  unfold Builtin.SmallTypes.stopIteration
  refine wpAny_bind ?_
  simp only [newExc, newTuple]
  refine wpAny_bind (wpAny_newObj_type ?_ (by size_fits))
  refine wpAny_bind (m := firstArgMember _ _) (wpAny_of_eq (a := Value.none) (by first | rfl | (simp only [firstArgMember]; rfl)) ?_)
  refine wpAny_newObj_type ?_ (by size_fits)
  simp only [raiseNew]
  refine wpAny_bind (wpAny_handled ?_)
  first | rw [show A.in1.handled = none from hh] | rw [hh]
  refine wpAny_bind (wpAny_pure (wpAny_throw ?_))
  exact q _ _ (fun c o c1 _ c3 c4 e => Heap.get?_push_of_some _ (Heap.get?_push_of_some _ (sd _ _ c4 (sc.extBut _ _ c1 (sb _ _ c3 (sa.extBut _ _ c1 e)))))) ⟨_, Heap.get?_push_size _ rfl, rfl⟩
theorem next_item {Q : Option Value → Shared → Prop} (D : ZipApart z TI TO i1 i2 l1 l2)
    (cz : Zs s.heap z TI TO .none) (cI : IsPair s.heap TI (.ref i1) (.ref i2)) (cO : IsPair s.heap TO a b)
    (e1 : s.heap.IsListIter i1 l1 k) (e2 : s.heap.IsListIter i2 l2 k) (d1 : s.heap.IsList l1 xs) (d2 : s.heap.IsList l2 ys) (gx : xs[k]? = some x) (gy : ys[k]? = some y)
    (q : ∀ h', Zs h' z TI TO (rawInt s.heap.objs.size) → IsPair h' TO x y → h'.IsListIter i1 l1 (k + 1) → h'.IsListIter i2 l2 (k + 1) → IsPair h' s.heap.objs.size x y → h'.objs.size = s.heap.objs.size + 1 →
      (∀ c o, c ≠ z → c ≠ TO → c ≠ i1 → c ≠ i2 → s.heap.get? c = some o → h'.get? c = some o) → Q (some (.ref s.heap.objs.size)) { s with heap := h' }) :
    wpAny (model prog w) A (pyNext (.ref z)) Q E s := by
  have ty : s.TypeIs (.ref z) "zip" := ⟨_, cz, rfl⟩
  unfold pyNext
  refine wpAny_bind (wpAny_attempt (wpAny_callSpecial?_slot (name := Str.ofString "__next__") ty F.slot_zip_next (wpAny_call_entry F.slot_zip_next ty F.entry_zip_next ?_ (F.args_zip_next_1 _))))
  exact zs_item D cz cI cO e1 e2 d1 d2 gx gy fun h' a1 a2 a3 a4 a5 a6 a7 => wpAny_pure (q h' a1 a2 a3 a4 a5 a6 a7)
theorem next_end {Q : Option Value → Shared → Prop} (hh : A.handled = none) (D : ZipApart z TI TO i1 i2 l1 l2)
    (cz : Zs s.heap z TI TO .none) (cI : IsPair s.heap TI (.ref i1) (.ref i2)) (cO : IsPair s.heap TO a b)
    (e1 : s.heap.IsListIter i1 l1 k) (e2 : s.heap.IsListIter i2 l2 k) (d1 : s.heap.IsList l1 xs) (d2 : s.heap.IsList l2 ys) (gx : xs[k]? = none) (gy : ys[k]? = none)
    (q : ∀ h', (∀ c o, c ≠ z → c ≠ TO → c ≠ i1 → c ≠ i2 → s.heap.get? c = some o → h'.get? c = some o) → Q none { s with heap := h' }) :
    wpAny (model prog w) A (pyNext (.ref z)) Q E s := by
  have ty : s.TypeIs (.ref z) "zip" := ⟨_, cz, rfl⟩
  unfold pyNext
  refine wpAny_bind (wpAny_attempt (wpAny_callSpecial?_slot (name := Str.ofString "__next__") ty F.slot_zip_next (wpAny_call_entry F.slot_zip_next ty F.entry_zip_next ?_ (F.args_zip_next_1 _))))
  refine zs_end hh D cz cI cO e1 e2 d1 d2 gx gy fun h' e a1 a2 => ?_
  obtain ⟨o, c1, c2⟩ := a2
  refine wpAny_bind (wpAny_isInstance (T := "StopIteration") (b := true) ⟨o, c1, c2⟩ isSubtype_stop ?_)
  exact wpAny_pure (q h' a1)
theorem go_zs {elts : List Expr} {m : Nat} {pos : Pos} {T : Addr} {Q : Unit → Shared → Prop} (cz : Zs s.heap z TI TO (rawInt T))
    (q : ∀ h', Zs h' z TI TO .none → Heap.SameBut z s.heap h' → Q () { s with heap := h' }) : wpAny (model prog w) A (letOwnedTupleGo (.Tuple elts m pos) (.ref z) (.ref T)) Q E s := by
  unfold letOwnedTupleGo
  refine wpAny_bind (wpAny_load cz ?_)
  show wpAny _ _ (if (["enumerate", "zip", "dict_itemiterator", "dict_reverseitemiterator", "odict_iterator", "itertools.zip_longest", "itertools.pairwise"].contains "zip" && (#[rawInt T, .bool false, .bool true, .ref TI, .ref TO] : Array Value)[0]? == some (rawInt T)) = true then _ else _) Q E s
  rw [if_pos (by simp)]
  refine wpAny_bind (wpAny_rule ?_)
  show wpAny _ _ (setField (.ref z) 0 .none) Q E s
  exact wpAny_setField_rec cz (by simp) fun h' a1 a2 => q h' a1 a2
theorem iter_zs {f : Value} {Q : Value → Shared → Prop} (cz : Zs s.heap z TI TO f) (q : Q (.ref z) s) : wpAny (model prog w) A (pyIter (.ref z)) Q E s := by
  have ty : s.TypeIs (.ref z) "zip" := ⟨_, cz, rfl⟩
  refine wpAny_pyIter_slot ty F.slot_zip_iter (wpAny_call_entry F.slot_zip_iter ty F.entry_zip_iter ?_ (F.args_zip_iter_1 _))
  show wpAny _ _ (ret (.ref z)) _ _ s
  exact wpAny_pure ⟨_, rfl, "zip", _, ty, F.slot_zip_next.lookup, q⟩
end
theorem tc_zs (a b : Value) : checkTypeCall "zip" ⟨[a, b], [(Str.ofString "strict", .bool true)]⟩ = pure () := by kernel_rfl
theorem nc_zs (a b : Value) : checkBuiltinCall "zip.__new__" ⟨[.type "zip", a, b], [(Str.ofString "strict", .bool true)]⟩ = pure () := by kernel_rfl
theorem ai_zs (o a b : Value) : argsOk "object.__init__" ⟨[o, a, b], [(Str.ofString "strict", .bool true)]⟩ := by unfold argsOk; kernel_rfl
abbrev zp (h : Heap) (l1 l2 : Addr) : Heap := (zipH4 h l1 l2).push { cls := .type "zip", data := .fields #[.none, .bool false, .bool true, .ref (zipH2 h l1 l2).objs.size, .ref (zipH3 h l1 l2).objs.size] }
theorem meets_zs (l1 l2 : Addr) (xs ys : Array Value) : Meets (Builtin.«zip.__new__» ⟨[.type "zip", .ref l1, .ref l2], [(Str.ofString "strict", .bool true)]⟩) (fun _ R s => s.heap.IsList l1 xs ∧ s.heap.IsList l2 ys ∧
      R (.ok (.ret (.ref (zipH4 s.heap l1 l2).objs.size))) { s with heap := zp s.heap l1 l2 }) := by
  refine .of_wp fun prog w A R s h => ?_
  obtain ⟨hp, g, d, tk, os⟩ := s
  obtain ⟨k1, k2, h⟩ := h
  have hsub := sub_zip
  have m1 : Heap.IsList (Shared.heap ⟨hp, g, d, tk, os⟩) l1 xs := k1
  have m2 : Heap.IsList (Shared.heap ⟨hp.push { cls := .type "list_iterator", data := .fields #[.ref l1, .int 0 0] }, g, d, tk, os⟩) l2 ys := Heap.IsList.push k2 _
  have s1 : (Str.ofString "strict" != ("strict" : Str)) = false := by decide +kernel
  wp_walk using wpAny_pyIter_list m1, wpAny_pyIter_list m2
  exact ⟨_, rfl, h⟩
section
variable {prog : Program} {w : World} {A : Around} {E : Value → Shared → Prop} {s : Shared}
theorem call_zs {l1 l2 : Addr} {xs ys : Array Value} {Q : Value → Shared → Prop} (k1 : s.heap.IsList l1 xs) (k2 : s.heap.IsList l2 ys)
    (q : ∀ h', Zs h' (s.heap.objs.size + 4) (s.heap.objs.size + 2) (s.heap.objs.size + 3) .none → IsPair h' (s.heap.objs.size + 2) (.ref s.heap.objs.size) (.ref (s.heap.objs.size + 1)) →
      IsPair h' (s.heap.objs.size + 3) .none .none → h'.IsListIter s.heap.objs.size l1 0 → h'.IsListIter (s.heap.objs.size + 1) l2 0 →
      (∀ c o, s.heap.get? c = some o → h'.get? c = some o) → Q (.ref (s.heap.objs.size + 4)) { s with heap := h' }) :
    wpAny (model prog w) A (call (.type "zip") [.ref l1, .ref l2] [(Str.ofString "strict", .bool true)]) Q E s := by
  refine callType_newKw F.called_zip (by decide) (tc_zs _ _) (nc_zs _ _) (fun o => ai_zs o _ _) F.entry_zip_new (meets_zs l1 l2 xs ys) ⟨k1, k2, ?_⟩
  have n1 : (zipH1 s.heap l1).objs.size = s.heap.objs.size + 1 := Heap.size_push ..
  have n2 : (zipH2 s.heap l1 l2).objs.size = s.heap.objs.size + 2 := by rw [Heap.size_push, n1]
  have n3 : (zipH3 s.heap l1 l2).objs.size = s.heap.objs.size + 3 := by rw [Heap.size_push, n2]
  have n4 : (zipH4 s.heap l1 l2).objs.size = s.heap.objs.size + 4 := by rw [Heap.size_push, n3]
  have p5 : (zp s.heap l1 l2).get? (zipH4 s.heap l1 l2).objs.size = some _ := Heap.get?_push_size _ rfl
  have p4 : (zp s.heap l1 l2).get? (zipH3 s.heap l1 l2).objs.size = some _ := Heap.get?_push_of_some _ (Heap.get?_push_size _ rfl)
  have p3 : (zp s.heap l1 l2).get? (zipH2 s.heap l1 l2).objs.size = some _ := Heap.get?_push_of_some _ (Heap.get?_push_of_some _ (Heap.get?_push_size _ rfl))
  have p2 : (zp s.heap l1 l2).get? (zipH1 s.heap l1).objs.size = some _ := Heap.get?_push_of_some _ (Heap.get?_push_of_some _ (Heap.get?_push_of_some _ (Heap.get?_push_size _ rfl)))
  have p1 : (zp s.heap l1 l2).get? s.heap.objs.size = some _ := Heap.get?_push_of_some _ (Heap.get?_push_of_some _ (Heap.get?_push_of_some _ (Heap.get?_push_of_some _ (Heap.get?_push_size _ rfl))))
  show _ ∧ _
  rw [n2, n3, n4] at p5
  rw [n1, n2] at p3
  rw [n3] at p4
  rw [n1] at p2
  rw [n4]
  exact ⟨⟨_, p5, rfl⟩, q _ p5 p3 p4 ⟨_, p1, rfl, rfl⟩ ⟨_, p2, rfl, rfl⟩ fun c o e => Heap.get?_push_of_some _ (Heap.get?_push_of_some _ (Heap.get?_push_of_some _ (Heap.get?_push_of_some _ (Heap.get?_push_of_some _ e))))⟩
/-- callee T, one keyword -/
theorem callWithT_kw {env : Env} {pos : Pos} {T : String} {e : Expr} {rest : List Expr} {kws : List Keyword} {Q : Value → Shared → Prop}
    (h : wpAny (model prog w) A (spliced (backTo pos (starEach (e :: rest) env))) (fun vs s1 => wpAny (model prog w) A (evalAll ((backToKw pos (keywordEach kws env)).map (·.2)))
      (fun ks s2 => wpAny (model prog w) A (call (.type T) vs (((backToKw pos (keywordEach kws env)).filterMap (·.1)).zip ks)) Q E s2) E s1) E s)
    (he : backTo pos (starEach (e :: rest) env) = (false, eval e env) :: backTo pos (starEach rest env))
    (hp : (backTo pos (starEach (e :: rest) env)).any (·.1) = false)
    (ha : (backToKw pos (keywordEach kws env)).all (·.1.isSome) = true)
    (hn : (backToKw pos (keywordEach kws env)).any (·.1.isNone) = false) :
    wpAny (model prog w) A (callWith pos (.type T) [] (backTo pos (starEach (e :: rest) env)) (backToKw pos (keywordEach kws env))) Q E s := by
  unfold callWith
  rw [he] at h hp ⊢
  have h0 : wpAny (model prog w) A (evalArgs (.type T) true ((false, eval e env) :: backTo pos (starEach rest env)) (backToKw pos (keywordEach kws env))) (fun a s1 => wpAny (model prog w) A (call (.type T) ([] ++ a.pos) a.kw) Q E s1) E s := PyProof.Rows.evalArgs_kwB ha h
  refine wpAny_bind (wpAny_holding (wpAny_mono h0 (fun a s1 h1 => wpAny_bind (wpAny_standAt ?_)) fun _ _ x => x))
  simp only [hp, hn, Bool.or_false]
  refine wpAny_bind (wpAny_pure ?_)
  exact wpAny_bind (wpAny_mono h1 (fun r s2 hr => wpAny_bind (wpAny_holding (wpAny_point (wpAny_pure hr)))) fun _ _ x => x)
end
/-- both lists, of one length -/
def ItS (K : PySem.W.Frag) (a b : Addr) : It :=
  ⟨fun i H => ∃ (xs ys : List V) (x y : V), SqL K H a xs ∧ SqL K H b ys ∧ xs[i]? = some x ∧ ys[i]? = some y,
    fun i H v H' => ∃ T x y, v = .ref T ∧ H T = none ∧ H' = upd H T (.tup [x, y]) ∧ (∀ xs, SqL K H a xs → xs[i]? = some x) ∧ ∀ ys, SqL K H b ys → ys[i]? = some y,
    fun i H => ∃ xs ys : List V, SqL K H a xs ∧ SqL K H b ys ∧ xs.length ≤ i ∧ ys.length ≤ i⟩
theorem turn_zs {P : Program} {w : World} {K : PySem.W.Frag} {elts : List Expr} {kk : Nat} {tpos : Pos} {a b z TI TO i1 i2 : Addr} (D : ZipApart z TI TO i1 i2 a b) :
    Turn P w K (.Tuple elts kk tpos) (ItS K a b) [z, TI, TO, i1, i2] z (fun i h => Zs h z TI TO .none ∧ IsPair h TI (.ref i1) (.ref i2) ∧ (∃ x y, IsPair h TO x y) ∧ h.IsListIter i1 a i ∧ h.IsListIter i2 b i) where
  mem := by simp
  obj := fun i h st c hc => by
    obtain ⟨c1, c2, ⟨_, _, c3⟩, ⟨o1, c4, _, d1⟩, ⟨o2, c5, _, d2⟩⟩ := st
    have e' : c = z ∨ c = TI ∨ c = TO ∨ c = i1 ∨ c = i2 := by simpa using hc
    rcases e' with rfl | rfl | rfl | rfl | rfl
    · exact ⟨_, c1, fun v q => nomatch q⟩
    · exact ⟨_, c2, fun v q => nomatch q⟩
    · exact ⟨_, c3, fun v q => nomatch q⟩
    · exact ⟨o1, c4, fun v q => by rw [d1] at q; cases q⟩
    · exact ⟨o2, c5, fun v q => by rw [d2] at q; cases q⟩
  keep := fun i h h' st k => by
    obtain ⟨c1, c2, ⟨x, y, c3⟩, c4, c5⟩ := st
    exact ⟨k _ (by simp) _ c1, k _ (by simp) _ c2, ⟨x, y, k _ (by simp) _ c3⟩, c4.at fun o q => k _ (by simp) o q, c5.at fun o q => k _ (by simp) o q⟩
  item := by
    intro X hP hw hK hc i pins s σ H E I hf st hg
    subst hP hw hK
    obtain ⟨c1, c2, ⟨x0, y0, c3⟩, c4, c5⟩ := st
    obtain ⟨xs, ys, x, y, qx, qy, hx, hy⟩ := hg
    obtain ⟨us, ru, pu, _⟩ := I.list qx
    obtain ⟨vs, rv, pv, _⟩ := I.list qy
    obtain ⟨u, hu, r1⟩ := ru.get hx
    obtain ⟨v, hv, r2⟩ := rv.get hy
    have lz : z < s.heap.objs.size := Heap.lt_size c1
    refine next_item D c1 c2 c3 c4 c5 pu.isList pv.isList (x := u) (y := v) (by simpa using hu) (by simpa using hv) fun h' d1 d2 d3 d4 d5 _ hk => ?_
    refine ⟨_, rfl, go_zs (s := { s with heap := h' }) d1 fun h2 e1 sb => ?_⟩
    have nT : h2.get? s.heap.objs.size = some { cls := .type "tuple", data := .seq #[u, v] } := (sb.2 _ (Nat.ne_of_gt lz)).trans d5
    have new : ObjOk X.prog X.w (upd H s.heap.objs.size (.tup [x, y])) h2 s.heap.objs.size (.tup [x, y]) :=
      ⟨by show 2 ≤ sizeLine; decide, [u, v], .cons r1 (.cons r2 .nil), ⟨_, nT, rfl, _, rfl⟩⟩
    have I1 : Inv X pins σ (upd H s.heap.objs.size (.tup [x, y])) { s with heap := h2 } := by
      refine I.turnedNew (t' := s.toks) (ch := [z, TI, TO, i1, i2]) (fun c o hb q => (sb.2 c (fun q' => hb (by simp [q']))).trans (hk c o ?_ ?_ ?_ ?_ q)) hf (Nat.le_refl _) new
      all_goals exact fun q' => hb (by simp [q'])
    refine ⟨.ref s.heap.objs.size, _, I1, rfl, ⟨_, x, y, rfl, I.hok.fresh (Nat.le_refl _), rfl, fun l hl => by rw [I.list_inj hl qx]; exact hx, fun l hl => by rw [I.list_inj hl qy]; exact hy⟩, ⟨e1, ?_, ⟨u, v, ?_⟩, ?_, ?_⟩, fun c hcm => ?_⟩
    · exact (sb.2 _ D.TIz).trans (hk _ _ D.TIz D.TITO D.TIi1 D.TIi2 c2)
    · exact (sb.2 _ D.TOz).trans d2
    · exact d3.at fun o q => (sb.2 _ D.i1z).trans q
    · exact d4.at fun o q => (sb.2 _ D.i2z).trans q
    · have lt : c < s.heap.objs.size := by
        have e' : c = z ∨ c = TI ∨ c = TO ∨ c = i1 ∨ c = i2 := by simpa using hcm
        rcases e' with rfl | rfl | rfl | rfl | rfl
        · exact lz
        · exact Heap.lt_size c2
        · exact Heap.lt_size c3
        · exact c4.elim fun _ e => Heap.lt_size e.1
        · exact c5.elim fun _ e => Heap.lt_size e.1
      rw [upd_ne (Nat.ne_of_lt lt)]
      exact (hf c hcm).1
  done := by
    intro X hP hw hK hc i pins s σ H E I hf st hg
    subst hP hw hK
    obtain ⟨c1, c2, ⟨x0, y0, c3⟩, c4, c5⟩ := st
    obtain ⟨xs, ys, qx, qy, g1, g2⟩ := hg
    obtain ⟨us, ru, pu, _⟩ := I.list qx
    obtain ⟨vs, rv, pv, _⟩ := I.list qy
    have l1 := ru.length
    have l2 := rv.length
    refine next_end (I.ok.hd hc) D c1 c2 c3 c4 c5 pu.isList pv.isList (by simp; omega) (by simp; omega) fun h' hk => ⟨rfl, I.turnedL (t' := s.toks) (ch := [z, TI, TO, i1, i2]) (fun c o hb q => hk c o ?_ ?_ ?_ ?_ q) hf⟩
    all_goals exact fun q' => hb (by simp [q'])
  self := fun A i s Q E st h => iter_zs st.1 h
theorem walk_zs {K : PySem.W.Frag} {a b : Addr} {xs ys : List V} (hl : xs.length = ys.length) : Walk (ItS K a b) xs.length (fun H => SqL K H a xs ∧ SqL K H b ys) (YPair (fun i => xs[i]?) (fun i => ys[i]?)) := by
  refine ⟨fun i _ hi q => ?_, fun _ q => ⟨xs, ys, q.1, q.2, by omega, by omega⟩, fun i H v H' _ q y => ?_⟩
  · exact ⟨xs, ys, xs[i], ys[i]'(by omega), q.1, q.2, by simp [hi], by simp [show i < ys.length by omega]⟩
  · obtain ⟨T, x, u, h1, h2, h3, h4, h5⟩ := y
    exact ⟨T, x, u, h1, h2, h3, h4 xs q.1, h5 ys q.2⟩
def iZs (K : PySem.W.Frag) (ta : TA) : TI := fun σ H R => ta σ H fun vs H1 => ∃ a b xs ys, vs = [.ref a, .ref b] ∧ SqL K H1 a xs ∧ SqL K H1 b ys ∧ R (ItS K a b) H1
theorem pi_zs {X : Cx} {K : PySem.W.Frag} {e e2 : Expr} {ta : TA} {p pos tpos kp kq : Pos} {elts : List Expr} {kk kj : Nat} (hK : X.K = K) (hg : Gl X "zip") (hm : X.mg "zip" = none) (ha : PA X [e, e2] ta)
    (he : backTo pos (starEach (e :: [e2]) X.env) = (false, eval e X.env) :: backTo pos (starEach [e2] X.env) := by rfl)
    (hp : (backTo pos (starEach (e :: [e2]) X.env)).any (·.1) = false := by rfl) :
    PI X (.Tuple elts kk tpos) (.Call (.Name "zip" p) [e, e2] [⟨some "strict", .Constant (.bool true) kj kq, kp⟩] pos) (iZs K ta) := by
  subst hK
  refine ⟨fun pins s σ H R I h => ?_⟩
  refine wpAny_Call_Name_kw (ld_blt I hg hm PyProof.Rows.boot_zip (callWithT_kw (thn (ha.run pos pins s σ H _ I h) fun us s1 ⟨vs, H1, I1, r1, q1⟩ => thn ((pk_cons pe_bl pk_nil).run pos pins s1 σ H1 (fun zs H2 => zs = [.bl true] ∧ H2 = H1) I1 ⟨rfl, rfl⟩) fun ws s2 ⟨zs, H2, I2, r2, q2⟩ => ?_) he hp rfl rfl))
  obtain ⟨q2, q3⟩ := q2
  subst q2 q3
  obtain ⟨a, b, xs, ys, ex, qx, qy, q⟩ := q1
  subst ex
  cases r1 with
  | cons ra rr =>
    cases rr with
    | cons rb rr =>
      cases rr
      cases ra
      cases rb
      cases r2 with
      | cons rz rr =>
        cases rr
        cases rz
        obtain ⟨us, ru, pu, _⟩ := I2.list qx
        obtain ⟨vs, rv, pv, _⟩ := I2.list qy
        have la : a < s2.heap.objs.size := pu.lt
        have lb : b < s2.heap.objs.size := pv.lt
        refine call_zs pu.isList pv.isList fun h' c1 c2 c3 c4 c5 hk => iter_zs c1 ?_
        refine ⟨s2.heap.objs.size + 4, [s2.heap.objs.size + 4, s2.heap.objs.size + 2, s2.heap.objs.size + 3, s2.heap.objs.size, s2.heap.objs.size + 1], _, _, H2, rfl, I2.kept (t' := s2.toks) hk, turn_zs (PySem.W.ktu_apart s2.heap.objs.size a b la lb), ⟨c1, c2, ⟨_, _, c3⟩, c4, c5⟩, fun c hcm => ?_, q⟩
        have e' : c = s2.heap.objs.size + 4 ∨ c = s2.heap.objs.size + 2 ∨ c = s2.heap.objs.size + 3 ∨ c = s2.heap.objs.size ∨ c = s2.heap.objs.size + 1 := by simpa using hcm
        have le : s2.heap.objs.size ≤ c := by
          rcases e' with w | w | w | w | w <;> (rw [w]; first | exact Nat.le_refl _ | exact Nat.le_add_right _ _)
        exact I2.fpOk le (I2.hok.fresh le)
end ZS
/-! tuple * 0, tuple * 1 -/
/-! max(xs, default=d) of a list of ints -/
namespace MD
section
variable {prog : Program} {w : World} {A : Around} {R : Result → Shared → Prop} {I : Addr} {fp wr : List Addr} {n : Nat} {P : Nat → Value → Prop} {St : Nat → Heap → Prop} {kw : List (Str × Value)}
theorem nm : (toString "max" ++ toString ".loop" : String) = "max.loop" := by decide
theorem loop (W : Walks prog w A.in1 I fp wr n P St) (bt : Nat → Nat → Bool) (cmp : CmpOf prog w A.in1 .Gt P bt) (S : Addr) (sf : S ∉ fp) :
    ∀ (k j : Nat) (s : Shared) (v0 : Value) (c : Nat), n - (j + 1) = k → j + 1 ≤ n → St (j + 1) s.heap → P (argBest bt j) v0 →
    s.heap.get? S = some { cls := .type "list", dict := none, data := .seq #[v0, v0] c, slots := #[] } →
    (∀ v h' tk, P (argBest bt (n - 1)) v → (∀ b o, b ∉ wr → b ≠ S → s.heap.get? b = some o → h'.get? b = some o) → R (.ok (.ret v)) { s with heap := h', toks := tk }) →
    codeAny (model prog w) A (.builtin "max.loop" ⟨[.ref I, .none, .ref S], kw⟩) R s := by
  have sw : S ∉ wr := fun h => sf (W.sub _ h)
  intro k
  induction k with
  | zero =>
    intro j s v0 c e1 e2 st p0 cS q
    have e3 : j + 1 = n := by omega
    refine codeAny_builtin F.entry_max_loop ?_
    rw [Around.under_plainId F.plain_max_loop _]
    show wpAny _ A.in1 (seqItems? (.ref S) >>= _) _ _ s
    refine wpAny_bind (wpAny_seqItems cS rfl ?_)
    show wpAny _ A.in1 (tryCatch (pyNext (.ref I)) _ >>= _) _ _ s
    refine wpAny_bind (wpAny_tryCatch (W.done s _ _ (e3 ▸ st) fun h' tk kk => ?_))
    have cS' := kk S _ sw cS
    show wpAny _ A.in1 (updateSeq S (fun _ => #[]) >>= _) _ _ _
    refine wpAny_bind (wpAny_updateSeq cS' rfl (wpAny_bind (wpAny_letGo (wpAny_pure ?_))))
    exact q v0 _ tk (by rw [← e3]; exact p0) fun b o b1 b2 e => (Heap.get?_update_other _ _ (Ne.symm b2)).trans (kk b o b1 e)
  | succ k ih =>
    intro j s v0 c e1 e2 st p0 cS q
    have lt : j + 1 < n := by omega
    refine codeAny_builtin F.entry_max_loop ?_
    rw [Around.under_plainId F.plain_max_loop _]
    show wpAny _ A.in1 (seqItems? (.ref S) >>= _) _ _ s
    refine wpAny_bind (wpAny_seqItems cS rfl ?_)
    show wpAny _ A.in1 (tryCatch (pyNext (.ref I)) _ >>= _) _ _ s
    refine wpAny_bind (wpAny_tryCatch (W.item (j + 1) s _ _ lt st fun v h' tk pv st' kk => ?_))
    have cS' := kk S _ sw cS
    show wpAny _ A.in1 (tryCatch (holding [v, v] (richCompare .Gt v v0 >>= _)) _ >>= _) _ _ _
    refine wpAny_bind (wpAny_tryCatch (wpAny_holding (wpAny_bind (cmp (j + 1) (argBest bt j) v v0 _ _ _ pv p0 ?_))))
    refine wpAny_bind (wpAny_holding (wpAny_truthy_bool ?_))
    refine wpAny_bind (wpAny_letGo (wpAny_pure ?_))
    cases hb : bt (j + 1) (argBest bt j) with
    | true =>
      simp only [if_true]
      refine wpAny_bind (wpAny_updateSeq cS' rfl (wpAny_bind (wpAny_letGo ?_)))
      rw [nm]
      refine wpAny_pure ⟨plainId_quiet F.plain_max_loop _, ih (j + 1) _ v _ (by omega) lt (W.frame _ _ _ st' fun b bf o e => ?_) (by simp only [argBest, hb, if_true]; exact pv) (Heap.get?_update_self _ cS' rfl) fun v' h2 tk2 pv' kk2 => ?_⟩
      · exact (Heap.get?_update_other _ _ (fun h : S = b => sf (by rw [h]; exact bf))).trans e
      · exact q v' h2 tk2 pv' fun b o b1 b2 e => kk2 b o b1 b2 ((Heap.get?_update_other _ _ (Ne.symm b2)).trans (kk b o b1 e))
    | false =>
      simp only [Bool.false_eq_true, if_false]
      refine wpAny_bind (wpAny_letGo ?_)
      rw [nm]
      refine wpAny_pure ⟨plainId_quiet F.plain_max_loop _, ih (j + 1) _ v0 c (by omega) lt st' (by simp only [argBest, hb, Bool.false_eq_true, if_false]; exact p0) cS' fun v' h2 tk2 pv' kk2 => ?_⟩
      exact q v' h2 tk2 pv' fun b o b1 b2 e => kk2 b o b1 b2 (kk b o b1 e)
theorem first (W : Walks prog w A.in1 I fp wr n P St) (bt : Nat → Nat → Bool) (cmp : CmpOf prog w A.in1 .Gt P bt) (S : Addr) (sf : S ∉ fp) (n0 : 0 < n) {s : Shared} {c : Nat} (st : St 0 s.heap)
    (cS : s.heap.get? S = some { cls := .type "list", dict := none, data := .seq #[] c, slots := #[] })
    (q : ∀ v h' tk, P (argBest bt (n - 1)) v → (∀ b o, b ∉ wr → b ≠ S → s.heap.get? b = some o → h'.get? b = some o) → R (.ok (.ret v)) { s with heap := h', toks := tk }) :
    codeAny (model prog w) A (.builtin "max.loop" ⟨[.ref I, .none, .ref S], kw⟩) R s := by
  have sw : S ∉ wr := fun h => sf (W.sub _ h)
  refine codeAny_builtin F.entry_max_loop ?_
  rw [Around.under_plainId F.plain_max_loop _]
  show wpAny _ A.in1 (seqItems? (.ref S) >>= _) _ _ s
  refine wpAny_bind (wpAny_seqItems cS rfl ?_)
  show wpAny _ A.in1 (tryCatch (pyNext (.ref I)) _ >>= _) _ _ s
  refine wpAny_bind (wpAny_tryCatch (W.item 0 s _ _ n0 st fun v h' tk pv st' kk => ?_))
  have cS' := kk S _ sw cS
  show wpAny _ A.in1 (updateSeq S (fun _ => #[v, v]) >>= _) _ _ _
  refine wpAny_bind (wpAny_updateSeq cS' rfl ?_)
  rw [nm]
  refine wpAny_pure ⟨plainId_quiet F.plain_max_loop _, loop W bt cmp S sf _ 0 _ v _ rfl n0 (W.frame _ _ _ st' fun b bf o e => ?_) pv (Heap.get?_update_self _ cS' rfl) fun v' h2 tk2 pv' kk2 => ?_⟩
  · exact (Heap.get?_update_other _ _ (fun h : S = b => sf (by rw [h]; exact bf))).trans e
  · exact q v' h2 tk2 pv' fun b o b1 b2 e => kk2 b o b1 b2 ((Heap.get?_update_other _ _ (Ne.symm b2)).trans (kk b o b1 e))
theorem none_ (W : Walks prog w A.in1 I fp wr n P St) (n0 : n = 0) (S : Addr) (sf : S ∉ fp) {s : Shared} {c : Nat} {d : Value} (st : St 0 s.heap)
    (cS : s.heap.get? S = some { cls := .type "list", dict := none, data := .seq #[] c, slots := #[] })
    (q : ∀ h' tk, (∀ b o, b ∉ wr → b ≠ S → s.heap.get? b = some o → h'.get? b = some o) → R (.ok (.ret d)) { s with heap := h', toks := tk }) :
    codeAny (model prog w) A (.builtin "max.loop" ⟨[.ref I, .none, .ref S], [(Str.ofString "default", d)]⟩) R s := by
  subst n0
  refine codeAny_builtin F.entry_max_loop ?_
  rw [Around.under_plainId F.plain_max_loop _]
  show wpAny _ A.in1 (seqItems? (.ref S) >>= _) _ _ s
  refine wpAny_bind (wpAny_seqItems cS rfl ?_)
  show wpAny _ A.in1 (tryCatch (pyNext (.ref I)) _ >>= _) _ _ s
  refine wpAny_bind (wpAny_tryCatch (W.done s _ _ st fun h' tk kk => ?_))
  show wpAny _ A.in1 (rule _ >>= _) _ _ _
  refine wpAny_bind (wpAny_rule (wpAny_pure ?_))
  exact q h' tk fun b o b1 _ e => kk b o b1 e
end
section
variable {prog : Program} {w : World} {A : Around} {E : Value → Shared → Prop} {s : Shared}
theorem ok_args (a d : Value) : argsOk "max" ⟨[a], [(Str.ofString "default", d)]⟩ := by unfold argsOk; kernel_rfl
theorem bp (d : Value) : Builtin.Builtins.bindParams "max" ["key", "default"] 0 ⟨[], [(Str.ofString "default", d)]⟩ = pure [none, some d] := by kernel_rfl
theorem call_md {l : Addr} {its : List Value} {ns : List Int} {d : Int} {t : Tok} {Q : Value → Shared → Prop} (hh : A.handled = none) (hl : s.heap.IsList l its.toArray) (hi : IntsAre its ns)
    (q : ∀ h' tk M t', (∀ b o, s.heap.get? b = some o → h'.get? b = some o) → (ns = [] ∧ M = d ∨ M ∈ ns ∧ ∀ a, a ∈ ns → a ≤ M) → Q (.int M t') { s with heap := h', toks := tk }) :
    wpAny (model prog w) A (call (.builtin "max") [.ref l] [(Str.ofString "default", .int d t)]) Q E s := by
  obtain ⟨xs, e⟩ := hi.allInts.items
  have hn : numsOf (intItems xs).toList = ns := by rw [← e]; exact hi.numsOf
  rw [nums_intItems] at hn
  subst hn
  rw [e] at hl
  refine PyProof.Rows.kmk_tree F.kind_max F.plain_max F.entry_max (ok_args _ _) ?_
  show wpAny _ A.in1 (Builtin.Builtins.bindParams "max" ["key", "default"] 0 ⟨[], [(Str.ofString "default", .int d t)]⟩ >>= _) _ _ s
  refine wpAny_bind (wpAny_of_eq (bp _) ?_)
  refine wpAny_bind (wpAny_pure ?_)
  refine wpAny_bind (iter_intList hl fun s2 e2 st hfp hlI => ?_)
  subst e2
  refine wpAny_bind (wpAny_newObj_type ?_)
  rw [nm]
  have sf : (s.heap.push { cls := .type "list_iterator", data := .fields #[.ref l, .int 0 0] }).objs.size ∉ [s.heap.objs.size, l] := fun hm => Nat.lt_irrefl _ (hfp _ hm)
  have W := Walks.list (prog := prog) (w := w) (A := A.in1) hh s.heap.objs.size l hlI (intItems xs)
  by_cases h0 : 0 < xs.size
  · refine wpAny_pure ⟨plainId_quiet F.plain_max_loop _, first W (fun i j => decide (numAt xs i > numAt xs j)) (CmpOf.ints_gt (numAt xs) (fun _ _ => intItems_at)) _ sf (by simpa [intItems] using h0) (W.frame _ _ _ st fun b _ o e => Heap.get?_push_of_some _ e) (Heap.get?_push_size _ rfl) fun v h' tk pv kk => ?_⟩
    have pv' : (intItems xs)[argBest (fun i j => decide (numAt xs i > numAt xs j)) (xs.size - 1)]? = some v := by simpa [intItems] using pv
    obtain ⟨t2, rfl⟩ := intItems_at pv'
    obtain ⟨m1, m2⟩ := argBest_gt (numAt xs) (xs.size - 1)
    refine q h' tk _ t2 (fun b o e => ?_) (.inr ⟨?_, fun a ha => ?_⟩)
    · have lb := Heap.lt_size e
      refine kk b o (fun z => ?_) (fun z => ?_) (Heap.get?_push_of_some _ (Heap.get?_push_of_some _ e))
      · have z' : b = s.heap.objs.size := by simpa using z
        exact Nat.lt_irrefl _ (z' ▸ lb)
      · rw [z, Heap.size_push] at lb
        exact absurd lb (Nat.not_lt_of_le (Nat.le_succ _))
    · rw [numAt_eq]; exact PySem.getD_mem (by rw [List.length_map, Array.length_toList]; omega)
    · obtain ⟨j, hj, rfl⟩ := mem_getD ha
      rw [List.length_map, Array.length_toList] at hj
      rw [← numAt_eq]; exact m2 j (by omega)
  · have e0 : xs = #[] := Array.eq_empty_of_size_eq_zero (by omega)
    subst e0
    refine wpAny_pure ⟨plainId_quiet F.plain_max_loop _, none_ W (by simp [intItems]) _ sf (W.frame _ _ _ st fun b _ o e => Heap.get?_push_of_some _ e) (Heap.get?_push_size _ rfl) fun h' tk kk => ?_⟩
    refine q h' tk d t (fun b o e => ?_) (.inl ⟨rfl, rfl⟩)
    have lb := Heap.lt_size e
    refine kk b o (fun z => ?_) (fun z => ?_) (Heap.get?_push_of_some _ (Heap.get?_push_of_some _ e))
    · have z' : b = s.heap.objs.size := by simpa using z
      exact Nat.lt_irrefl _ (z' ▸ lb)
    · rw [z, Heap.size_push] at lb
      exact absurd lb (Nat.not_lt_of_le (Nat.le_succ _))
end
def rMd (K : PySem.W.Frag) : List V → List V → Hp → VK → Prop := fun vs zs H Q => ∃ (a : Addr) (ns : List Int) (d : Int), vs = [V.ref a] ∧ zs = [.int d] ∧ SqL K H a (ns.map V.int) ∧ ∀ m, (ns = [] ∧ m = d ∨ m ∈ ns ∧ ∀ y, y ∈ ns → y ≤ m) → Q (.int m) H
theorem cr_md {X : Cx} {K : PySem.W.Frag} (hK : X.K = K) (hc : X.calm = true) : CallRK X (.builtin "max") ["default"] (rMd K) := by
  subst hK
  intro pins s σ H vs zs us ws Q I r rz h
  obtain ⟨a, ns, d, rfl, rfl, hs, q⟩ := h
  obtain ⟨its, rv, hl, _⟩ := I.list hs
  rw [Vals.ref1 r]
  cases rz with
  | cons r1 rr =>
    cases rr
    obtain ⟨t, rfl⟩ := r1
    exact call_md (I.ok.hd hc) hl.isList rv.ints fun h' tk m t' hk h1 => ⟨.int _, H, I.kept hk, ⟨_, rfl⟩, q m h1⟩
end MD
/-! tuple[::-1] -/
/-! == and != of two lists of which one is empty; repr of data -/
section
variable {X : Cx} {K : PySem.W.Frag}
def rEqE (K : PySem.W.Frag) : R2 := fun x y H Q => ∃ a b xs ys, x = .ref a ∧ y = .ref b ∧ SqL K H a xs ∧ SqL K H b ys ∧ (xs = [] ∨ ys = []) ∧ Q (.bl (xs.isEmpty && ys.isEmpty)) H
def rNeE (K : PySem.W.Frag) : R2 := fun x y H Q => ∃ a b xs ys, x = .ref a ∧ y = .ref b ∧ SqL K H a xs ∧ SqL K H b ys ∧ (xs = [] ∨ ys = []) ∧ Q (.bl (!(xs.isEmpty && ys.isEmpty))) H
theorem sizes_E {its ius : List Value} {xs ys : List V} (r1 : Vals xs its) (r2 : Vals ys ius) (h : xs = [] ∨ ys = []) : ((its.toArray.size != ius.toArray.size) = true ∧ (xs.isEmpty && ys.isEmpty) = false) ∨ (its = [] ∧ ius = [] ∧ (xs.isEmpty && ys.isEmpty) = true) := by
  have l1 := r1.length
  have l2 := r2.length
  cases xs with
  | nil =>
    cases r1
    cases ys with
    | nil => cases r2; exact .inr ⟨rfl, rfl, rfl⟩
    | cons y ys =>
      cases r2
      exact .inl ⟨rfl, rfl⟩
  | cons x xs =>
    rcases h with h | h
    · cases h
    · subst h
      cases r2
      cases r1
      exact .inl ⟨rfl, rfl⟩
theorem op_eqE (hK : X.K = K) (hu : X.A.units + 64 < cLine) : OpR X (compareOp .Eq) (rEqE K) := by
  subst hK
  intro pins s σ H x y v u Q I rx ry h
  obtain ⟨a, b, xs, ys, rfl, rfl, h1, h2, h3, q⟩ := h
  cases rx
  cases ry
  obtain ⟨its, r1, p1, _⟩ := I.list h1
  obtain ⟨ius, r2, p2, _⟩ := I.list h2
  have hu' : X.A.units < cLine := by omega
  rcases sizes_E r1 r2 h3 with ⟨e1, e2⟩ | ⟨rfl, rfl, e2⟩
  · rw [e2] at q
    exact SeqAt.RcAt.lists_lengths p1.isList p2.isList e1 hu' _ _ _ _ ⟨.bl false, H, I, rfl, q⟩
  · rw [e2] at q
    exact SeqAt.RcAt.lists (e := fun _ => true) p1.isList p2.isList rfl hu' (fun j h _ => absurd h (Nat.not_lt_zero j)) _ _ _ _ ⟨.bl true, H, I, rfl, q⟩
theorem op_neE (hK : X.K = K) (hu : X.A.units + 64 < cLine) : OpR X (compareOp .NotEq) (rNeE K) := by
  subst hK
  intro pins s σ H x y v u Q I rx ry h
  obtain ⟨a, b, xs, ys, rfl, rfl, h1, h2, h3, q⟩ := h
  cases rx
  cases ry
  obtain ⟨its, r1, p1, _⟩ := I.list h1
  obtain ⟨ius, r2, p2, _⟩ := I.list h2
  have hu' : X.A.units < cLine := by omega
  rcases sizes_E r1 r2 h3 with ⟨e1, e2⟩ | ⟨rfl, rfl, e2⟩
  · rw [e2] at q
    exact SeqAt.RcNeAt.lists_lengths p1.isList p2.isList e1 hu' _ _ _ _ ⟨.bl true, H, I, rfl, q⟩
  · rw [e2] at q
    exact SeqAt.RcNeAt.lists (e := fun _ => true) p1.isList p2.isList rfl hu' (fun j h _ => absurd h (Nat.not_lt_zero j)) _ _ _ _ ⟨.bl false, H, I, rfl, q⟩
end
/-! f(k = v, ..): keywords alone -/
def drK (l c t : Int) : List (Key × V) := [(.inr ("left" : Str), .int l), (.inr ("cell" : Str), .int c), (.inr ("turns" : Str), .int t)]
theorem valV_out {k : Key} : ∀ {kvs : List (Key × V)}, k ∉ kvs.map (·.1) → valV kvs k = none
  | [], _ => rfl
  | p :: r, h => by
    rw [List.map_cons, List.mem_cons, not_or] at h
    rw [valV_neg fun z => h.1 z.symm]
    exact valV_out h.2
theorem merge_new : ∀ {kvs acc : List (Key × V)}, ((acc ++ kvs).map (·.1)).Nodup → mergeK acc kvs = acc ++ kvs
  | [], acc, _ => (List.append_nil acc).symm
  | p :: r, acc, h => by
    show mergeK (putK acc p.1 p.2) r = _
    have h1 : p.1 ∉ acc.map (·.1) := fun m => by
      rw [List.map_append, List.nodup_append] at h
      exact h.2.2 _ m _ (by simp) rfl
    rw [putK_new p.2 (valV_out h1)]
    have h2 : acc ++ p :: r = (acc ++ [p]) ++ r := by simp
    rw [h2] at h ⊢
    exact merge_new h
theorem Dr.mk {d : Addr} {n : Nat} {H : Hp} {l c t : Int} (h : H d = some (.dK (drK l c t))) (h0 : 0 ≤ t) (h1 : t ≤ n) : Dr d n H := ⟨l, c, t, h, h0, h1⟩
theorem merge_dr (l c t : Int) : mergeK [] (drK l c t) = drK l c t := by
  refine merge_new (acc := []) ?_
  show ([Sum.inr ("left" : Str), .inr ("cell" : Str), .inr ("turns" : Str)] : List Key).Nodup
  decide +kernel
/-! ### the symbolic layer: values told by assertions over a ghost heap -/
namespace Sy
open PySem PySem.Spec PyProof.Rows L2
open SX (S S_len S_cat S_inj)
/-- an assertion on a value; G is the part of the heap that never changes any more -/
structure As where
  p : Hp → V → Prop
  m : ∀ {G G' : Hp} {v : V}, Same G G' → p G v → p G' v
def cst (v : V) : As := ⟨fun _ x => x = v, fun _ h => h⟩
abbrev it (i : Int) : As := cst (.int i)
abbrev tx (l : List Nat) : As := cst (.str (S l))
abbrev bo (b : Bool) : As := cst (.bl b)
abbrev no : As := cst .non
abbrev pt (D : Addr) : As := cst (.ref D)
inductive All2 (G : Hp) : List As → List V → Prop
  | nil : All2 G [] []
  | cons {A : As} {v : V} {l : List As} {vs : List V} : A.p G v → All2 G l vs → All2 G (A :: l) (v :: vs)
theorem All2.m {G G' : Hp} (e : Same G G') : ∀ {l : List As} {vs : List V}, All2 G l vs → All2 G' l vs
  | _, _, .nil => .nil
  | _, _, .cons h t => .cons (As.m _ e h) (All2.m e t)
theorem All2.len {G : Hp} : ∀ {l : List As} {vs : List V}, All2 G l vs → vs.length = l.length
  | _, _, .nil => rfl
  | _, _, .cons _ t => congrArg (· + 1) (All2.len t)
theorem All2.get {G : Hp} : ∀ {l : List As} {vs : List V} {i : Nat} {v : V}, All2 G l vs → vs[i]? = some v → ∃ A, l[i]? = some A ∧ A.p G v
  | _, _, i, v, .nil, e => by simp at e
  | _, _, 0, v, .cons h _, e => by simp at e; subst e; exact ⟨_, rfl, h⟩
  | _, _, i + 1, v, .cons _ t, e => by
    obtain ⟨A, h1, h2⟩ := All2.get (i := i) t (by simpa using e)
    exact ⟨A, by simpa using h1, h2⟩
theorem All2.at {G : Hp} : ∀ {l : List As} {vs : List V} {i : Nat} {A : As}, All2 G l vs → l[i]? = some A → ∃ v, vs[i]? = some v ∧ A.p G v
  | _, _, i, A, .nil, e => by simp at e
  | _, _, 0, A, .cons h _, e => by simp at e; subst e; exact ⟨_, rfl, h⟩
  | _, _, i + 1, A, .cons _ t, e => by
    obtain ⟨v, h1, h2⟩ := All2.at (i := i) t (by simpa using e)
    exact ⟨v, by simpa using h1, h2⟩
theorem All2.app {G : Hp} : ∀ {l m : List As} {vs ws : List V}, All2 G l vs → All2 G m ws → All2 G (l ++ m) (vs ++ ws)
  | _, _, _, _, .nil, s => s
  | _, _, _, _, .cons h t, s => .cons h (All2.app t s)
theorem All2.drop {G : Hp} : ∀ {l : List As} {vs : List V} (n : Nat), All2 G l vs → All2 G (l.drop n) (vs.drop n)
  | _, _, 0, r => r
  | _, _, _ + 1, .nil => .nil
  | _, _, n + 1, .cons _ t => All2.drop n t
theorem All2.take {G : Hp} : ∀ {l : List As} {vs : List V} (n : Nat), All2 G l vs → All2 G (l.take n) (vs.take n)
  | _, _, 0, _ => .nil
  | _, _, _ + 1, .nil => .nil
  | _, _, n + 1, .cons r t => .cons r (All2.take n t)
theorem All2.map {G : Hp} {α : Type} {f : α → V} : ∀ {l : List α} {vs : List V}, All2 G (l.map fun a => cst (f a)) vs ↔ vs = l.map f
  | [], vs => by
    constructor
    · intro h; cases h; rfl
    · rintro rfl; exact .nil
  | a :: l, vs => by
    constructor
    · intro h
      cases h with
      | cons h t => rw [show _ = f a from h, All2.map.mp t]; rfl
    · rintro rfl
      exact .cons rfl (All2.map.mpr rfl)
theorem SqT.mono {K : PySem.W.Frag} {H H' : Hp} {a : Addr} {xs : List V} (e : Same H H') (h : SqT K H a xs) : SqT K H' a xs := by
  rcases h with (h | ⟨o, h⟩) | h
  · exact .inl (.inl (e _ _ h))
  · exact .inl (.inr ⟨o, e _ _ h⟩)
  · exact .inr h
/-- a list that stands in the heap -/
def lst (_ : PySem.W.Frag) (xs : List As) : As := ⟨fun G v => ∃ a vs, v = .ref a ∧ G a = some (.lst vs) ∧ All2 G xs vs, fun e h => by
  obtain ⟨a, vs, h1, h2, h3⟩ := h
  exact ⟨a, vs, h1, e _ _ h2, h3.m e⟩⟩
/-- a list to be read (the script) -/
def sql (K : PySem.W.Frag) (xs : List As) : As := ⟨fun G v => ∃ a vs, v = .ref a ∧ SqL K G a vs ∧ All2 G xs vs, fun e h => by
  obtain ⟨a, vs, h1, h2, h3⟩ := h
  exact ⟨a, vs, h1, e.seq h2, h3.m e⟩⟩
def tup (K : PySem.W.Frag) (xs : List As) : As := ⟨fun G v => ∃ a vs, v = .ref a ∧ SqT K G a vs ∧ All2 G xs vs, fun e h => by
  obtain ⟨a, vs, h1, h2, h3⟩ := h
  exact ⟨a, vs, h1, SqT.mono e h2, h3.m e⟩⟩
/-- a tuple that was just made by a display (it stands in the heap itself) -/
def op (o : Option As) : As := o.getD no
/-- any data -/
theorem Dp.mono {K : PySem.W.Frag} {H H' : Hp} (e : Same H H') : ∀ (d : PyData) (v : V), Dp K H v d → Dp K H' v d := by
  intro d
  refine PyData.rec (motive_1 := fun d => ∀ v, Dp K H v d → Dp K H' v d) (motive_2 := fun ds => ∀ vs, DpAll K H vs ds → DpAll K H' vs ds) (motive_3 := fun _ => True) (motive_4 := fun _ => True) ?_ ?_ ?_ ?_ ?_ ?_ ?_ ?_ ?_ ?_ ?_ ?_ d
  · intro v h; cases h; exact .non
  · intro b v h; cases h; exact .bl b
  · intro b v h; cases h; exact .int b
  · intro b v h; cases h; exact .str b
  · intro xs ih v h
    cases h with
    | lst h1 h2 => exact .lst (e.seq h1) (ih _ h2)
  · intro xs ih v h
    cases h with
    | tup h1 h2 => exact .tup (SqT.mono e h1) (ih _ h2)
  · intro kvs _ v h; cases h
  · intro vs h; cases h; exact .nil
  · intro d ds ih1 ih2 vs h
    cases h with
    | cons h1 h2 => exact .cons (ih1 _ h1) (ih2 _ h2)
  · trivial
  · intros; trivial
  · intros; trivial
/-- what an owned object holds (it may still be changed) -/
inductive OC where
  | ol (xs : List As)
  | od (p : Bool) (kvs : List (Key × As))
  | dr (n : Nat)
  | oi (p : Bool) (C : Addr) (fs : List (Str × As))
  | lk (o : Obj) (vs : List (Key × V)) (p : Bool) (kvs : List (Key × As))
  | op (xs : List As)
  | dg (g : Addr) (n : Nat)
  | dl
  | tb (q : Str)
abbrev OO := List (Addr × OC)
/-- it may belong to the caller -/
def OC.par : OC → Bool
  | .dr _ => true
  | .od p _ => p
  | .oi p _ _ => p
  | .lk _ _ p _ => p
  | .op _ => true
  | .dg _ _ => true
  | .dl => true
  | .tb _ => true
  | _ => false
inductive AllK (G : Hp) : List (Key × As) → List (Key × V) → Prop
  | nil : AllK G [] []
  | cons {k : Key} {A : As} {v : V} {l : List (Key × As)} {vs : List (Key × V)} : A.p G v → AllK G l vs → AllK G ((k, A) :: l) ((k, v) :: vs)
theorem AllK.m {G G' : Hp} (e : Same G G') : ∀ {l : List (Key × As)} {vs : List (Key × V)}, AllK G l vs → AllK G' l vs
  | _, _, .nil => .nil
  | _, _, .cons h t => .cons (As.m _ e h) (AllK.m e t)
/-- the fields of an instance -/
inductive AllF (G : Hp) : List (Str × As) → List (Str × V) → Prop
  | nil : AllF G [] []
  | cons {f : Str} {A : As} {v : V} {l : List (Str × As)} {vs : List (Str × V)} : A.p G v → AllF G l vs → AllF G ((f, A) :: l) ((f, v) :: vs)
theorem AllF.m {G G' : Hp} (e : Same G G') : ∀ {l : List (Str × As)} {vs : List (Str × V)}, AllF G l vs → AllF G' l vs
  | _, _, .nil => .nil
  | _, _, .cons h t => .cons (As.m _ e h) (AllF.m e t)
def OcOk (G H : Hp) (D : Addr) : OC → Prop
  | .ol xs => ∃ vs, H D = some (.lst vs) ∧ All2 G xs vs
  | .od _ kvs => ∃ vs, H D = some (.dK vs) ∧ AllK G kvs vs
  | .dr n => Dr D n H
  | .oi _ C fs => ∃ dx vs, H D = some (.ins C dx vs) ∧ AllF G fs vs
  | .lk o vs _ kvs => H D = some (.frz o (.dK vs)) ∧ AllK G kvs vs
  | .op xs => ∃ vs, H D = some (.lst vs) ∧ All2 G xs vs
  | .dg g n => ∃ m t : Int, ((0 ≤ t ∧ t ≤ n) ∧ 0 ≤ m ∧ m < 2305843009213693951) ∧ H D = some (.dK [(.inr (S [109, 105, 120, 101, 100]), .int m), (.inr (S [103, 114, 101, 97, 116]), .ref g), (.inr (S [116, 117, 114, 110]), .int t)])
  | .dl => ∃ gs : List Int, gs.length ≤ 63 ∧ H D = some (.lst (gs.map V.int))
  | .tb q => ∃ ps : Array Value, H D = some (.tbl ps) ∧ TriplesOk ps.toList ∧ ∀ (pos : Pos) (cv : Value), codeAmong pos ps.toList = some cv → ∃ c, cv = .ref c ∧ G c = some (LamX.CodeO c q)
theorem OcOk.m {G G' H H' : Hp} {D : Addr} {c : OC} (e : Same G G') (f : H D = H' D) (h : OcOk G H D c) : OcOk G' H' D c := by
  cases c with
  | ol xs => obtain ⟨vs, h1, h2⟩ := h; exact ⟨vs, f ▸ h1, h2.m e⟩
  | od p xs => obtain ⟨vs, h1, h2⟩ := h; exact ⟨vs, f ▸ h1, h2.m e⟩
  | dr n => obtain ⟨a, b, c, h1, h2⟩ := h; exact ⟨a, b, c, f ▸ h1, h2⟩
  | oi p C fs => obtain ⟨dx, vs, h1, h2⟩ := h; exact ⟨dx, vs, f ▸ h1, h2.m e⟩
  | lk o vs p kvs => exact ⟨f ▸ h.1, h.2.m e⟩
  | op xs => obtain ⟨vs, h1, h2⟩ := h; exact ⟨vs, f ▸ h1, h2.m e⟩
  | dg g n => obtain ⟨m, t, h0, h1⟩ := h; exact ⟨m, t, h0, f ▸ h1⟩
  | dl => obtain ⟨gs, h0, h1⟩ := h; exact ⟨gs, h0, f ▸ h1⟩
  | tb q =>
    obtain ⟨ps, h1, h2, h3⟩ := h
    refine ⟨ps, f ▸ h1, h2, fun pos cv hc => ?_⟩
    obtain ⟨c, e1, e2⟩ := h3 pos cv hc
    exact ⟨c, e1, e _ _ e2⟩
theorem OcOk.some {G H : Hp} {D : Addr} {c : OC} (h : OcOk G H D c) : H D ≠ none := by
  intro z
  cases c with
  | ol xs => obtain ⟨vs, h1, h2⟩ := h; rw [z] at h1; cases h1
  | od p xs => obtain ⟨vs, h1, h2⟩ := h; rw [z] at h1; cases h1
  | dr n => obtain ⟨a, b, c, h1, h2⟩ := h; rw [z] at h1; cases h1
  | oi p C fs => obtain ⟨dx, vs, h1, h2⟩ := h; rw [z] at h1; cases h1
  | lk o vs p kvs => have h1 := h.1; rw [z] at h1; cases h1
  | op xs => obtain ⟨vs, h1, h2⟩ := h; rw [z] at h1; cases h1
  | dg g n => obtain ⟨m, t, h0, h1⟩ := h; rw [z] at h1; cases h1
  | dl => obtain ⟨gs, h0, h1⟩ := h; rw [z] at h1; cases h1
  | tb q => obtain ⟨ps, h1, h2, h3⟩ := h; rw [z] at h1; cases h1
/-- the state: O is owned, all that G has never changes, of H0 (where it began) all but E stands as it was -/
structure Fr (E : List Addr) (G0 H0 : Hp) (O : OO) (G H : Hp) : Prop where
  gg : Same G0 G
  gh : Same G H
  hh : ∀ b o, b ∉ E → H0 b = some o → H b = some o
  hn : ∀ b, H b = none → H0 b = none
  fr : ∀ b, G0 b = none → H0 b ≠ none → G b = none
  ow : ∀ x ∈ O, G x.1 = none ∧ (x.2.par = true ∧ x.1 ∈ E ∨ H0 x.1 = none) ∧ OcOk G H x.1 x.2
  nd : (O.map (·.1)).Nodup
section
variable {E : List Addr} {G0 H0 G H G' H' : Hp} {O O' : OO}
/-- a pure step -/
structure Ext (G H G' H' : Hp) : Prop where
  g : Same G G'
  h : Same H H'
  gh : Same G' H'
  fr : ∀ b, G b = none → H b ≠ none → G' b = none
theorem Ext.refl (h : Same G H) : Ext G H G H := ⟨Same.refl _, Same.refl _, h, fun _ h _ => h⟩
theorem Ext.trans {G1 H1 G2 H2 : Hp} (a : Ext G H G1 H1) (b : Ext G1 H1 G2 H2) : Ext G H G2 H2 :=
  ⟨a.g.trans b.g, a.h.trans b.h, b.gh, fun x h1 h2 => b.fr x (a.fr x h1 h2) fun z => h2 (a.h.free z)⟩
theorem Ext.heap (h : Same G H) (s : Same H H') : Ext G H G H' := ⟨Same.refl _, s, h.trans s, fun _ h _ => h⟩
theorem Ext.new {p : Addr} {o : HO} (h : Same G H) (n : H p = none) : Ext G H (upd G p o) (upd H p o) := by
  have gn : G p = none := h.free n
  refine ⟨fun b u e => ?_, fun b u e => ?_, fun b u e => ?_, fun b h1 h2 => ?_⟩
  · rw [upd_ne (ne_of_none e gn)]; exact e
  · rw [upd_ne (ne_of_none e n)]; exact e
  · by_cases hb : b = p
    · subst hb; rw [upd_same] at e ⊢; exact e
    · rw [upd_ne hb] at e ⊢; exact h _ _ e
  · by_cases hb : b = p
    · subst hb; exact absurd n h2
    · rw [upd_ne hb]; exact h1
theorem Fr.ext (f : Fr E G0 H0 O G H) (e : Ext G H G' H') : Fr E G0 H0 O G' H' := by
  refine ⟨f.gg.trans e.g, e.gh, fun b o hb h => e.h _ _ (f.hh b o hb h), fun b h => f.hn b (e.h.free h), fun b h1 h2 => e.fr b (f.fr b h1 h2) fun z => h2 (f.hn b z), fun x hx => ?_, f.nd⟩
  obtain ⟨h1, h2, h3⟩ := f.ow x hx
  refine ⟨e.fr _ h1 h3.some, h2, h3.m e.g ?_⟩
  cases q : H x.1 with
  | none => exact absurd q h3.some
  | some o => exact (e.h _ _ q).symm
/-- an owned object is changed -/
theorem Fr.change {D : Addr} {c c' : OC} {pre post : OO} {o : HO} (f : Fr E G0 H0 (pre ++ (D, c) :: post) G H) (hp : c.par = true → c'.par = true) (ok : OcOk G (upd H D o) D c') : Fr E G0 H0 (pre ++ (D, c') :: post) G (upd H D o) := by
  obtain ⟨w1, w2, w3⟩ := f.ow (D, c) (by simp)
  have nd := f.nd
  rw [List.map_append, List.map_cons] at nd
  refine ⟨f.gg, fun b u e => ?_, fun b u hb h => ?_, fun b h => ?_, f.fr, fun x hx => ?_, by rw [List.map_append, List.map_cons]; exact nd⟩
  · rw [upd_ne (ne_of_none e w1)]; exact f.gh _ _ e
  · have n : b ≠ D := by
      rintro rfl
      rcases w2 with q | q
      · exact hb q.2
      · rw [q] at h; cases h
    rw [upd_ne n]
    exact f.hh b u hb h
  · by_cases hb : b = D
    · subst hb; rw [upd_same] at h; cases h
    · rw [upd_ne hb] at h; exact f.hn b h
  · have hx' : x = (D, c') ∨ (x ∈ pre ∨ x ∈ post) := by
      rcases List.mem_append.mp hx with q | q
      · exact .inr (.inl q)
      · rcases List.mem_cons.mp q with q | q
        · exact .inl q
        · exact .inr (.inr q)
    rcases hx' with rfl | q
    · exact ⟨w1, w2.imp (fun q => ⟨hp q.1, q.2⟩) id, ok⟩
    · obtain ⟨v1, v2, v3⟩ := f.ow x (by
        rcases q with q | q
        · exact List.mem_append_left _ q
        · exact List.mem_append_right _ (List.mem_cons_of_mem _ q))
      have n : x.1 ≠ D := by
        intro z
        have hd := List.nodup_append.mp nd
        rcases q with q | q
        · exact hd.2.2 x.1 (List.mem_map_of_mem q) D (List.mem_cons_self) z
        · exact (List.nodup_cons.mp hd.2.1).1 (by have h9 := List.mem_map_of_mem (f := fun y : Addr × OC => y.1) q; rw [z] at h9; exact h9)
      exact ⟨v1, v2, v3.m (Same.refl _) (by rw [upd_ne n])⟩
/-- a new owned object -/
theorem Fr.own {D : Addr} {c : OC} {o : HO} (f : Fr E G0 H0 O G H) (n : H D = none) (ok : OcOk G (upd H D o) D c) : Fr E G0 H0 (O ++ [(D, c)]) G (upd H D o) := by
  have s : Same H (upd H D o) := fun b u e => by rw [upd_ne (ne_of_none e n)]; exact e
  have f' := f.ext (Ext.heap f.gh s)
  have nin : D ∉ O.map (·.1) := fun z => by
    obtain ⟨x, hx, rfl⟩ := List.mem_map.mp z
    exact (f.ow x hx).2.2.some n
  refine ⟨f'.gg, f'.gh, f'.hh, f'.hn, f'.fr, fun x hx => ?_, ?_⟩
  · rcases List.mem_append.mp hx with q | q
    · exact f'.ow x q
    · rw [List.mem_singleton] at q
      subst q
      exact ⟨f.gh.free n, .inr (f.hn _ n), ok⟩
  · rw [List.map_append, List.nodup_append]
    refine ⟨f.nd, by simp, fun a ha b hb e => ?_⟩
    rw [List.map_singleton, List.mem_singleton] at hb
    have e' : a = D := e.trans hb
    rw [e'] at ha
    exact nin ha
/-- an owned object is given up: it never changes any more -/
theorem Fr.freeze0 {D : Addr} {c : OC} {pre post : OO} {o : HO} (f : Fr E G0 H0 (pre ++ (D, c) :: post) G H) (h0 : H0 D = none) (ho : H D = some o) : Fr E G0 H0 (pre ++ post) (upd G D o) H ∧ Same G (upd G D o) := by
  obtain ⟨w1, w2, w3⟩ := f.ow (D, c) (by simp)
  have nd := f.nd
  rw [List.map_append, List.map_cons] at nd
  have sg : Same G (upd G D o) := fun b u e => by rw [upd_ne (ne_of_none e w1)]; exact e
  refine ⟨⟨f.gg.trans sg, fun b u e => ?_, f.hh, f.hn, fun b h1 h2 => ?_, fun x hx => ?_, ?_⟩, sg⟩
  · by_cases hb : b = D
    · subst hb; rw [upd_same] at e; rw [ho]; exact e
    · rw [upd_ne hb] at e; exact f.gh _ _ e
  · by_cases hb : b = D
    · subst hb; exact absurd h0 h2
    · rw [upd_ne hb]; exact f.fr b h1 h2
  · have n : x.1 ≠ D := by
      intro z
      have hd := List.nodup_append.mp nd
      rcases List.mem_append.mp hx with q | q
      · exact hd.2.2 x.1 (List.mem_map_of_mem q) D (List.mem_cons_self) z
      · exact (List.nodup_cons.mp hd.2.1).1 (by have h9 := List.mem_map_of_mem (f := fun y : Addr × OC => y.1) q; rw [z] at h9; exact h9)
    obtain ⟨v1, v2, v3⟩ := f.ow x (by
      rcases List.mem_append.mp hx with q | q
      · exact List.mem_append_left _ q
      · exact List.mem_append_right _ (List.mem_cons_of_mem _ q))
    exact ⟨by rw [upd_ne n]; exact v1, v2, v3.m sg rfl⟩
  · rw [List.map_append]
    have hd := List.nodup_append.mp nd
    exact List.nodup_append.mpr ⟨hd.1, (List.nodup_cons.mp hd.2.1).2, fun a ha b hb => hd.2.2 a ha b (List.mem_cons_of_mem _ hb)⟩
theorem Fr.freeze {D : Addr} {c : OC} {pre post : OO} {o : HO} (f : Fr E G0 H0 (pre ++ (D, c) :: post) G H) (hp : c.par = false) (ho : H D = some o) : Fr E G0 H0 (pre ++ post) (upd G D o) H ∧ Same G (upd G D o) :=
  f.freeze0 (by
    rcases (f.ow (D, c) (by simp)).2.1 with q | q
    · rw [show c.par = true from q.1] at hp; cases hp
    · exact q) ho
end
/-- the slots, as far as they are known -/
inductive Slots (G : Hp) : List (Option As) → L2.St → Prop
  | nil : Slots G [] []
  | un {x : Option V} {L : List (Option As)} {σ : L2.St} : Slots G L σ → Slots G (none :: L) (x :: σ)
  | im {A : As} {v : V} {L : List (Option As)} {σ : L2.St} : A.p G v → Slots G L σ → Slots G (some A :: L) (some v :: σ)
theorem Slots.m {G G' : Hp} (e : Same G G') : ∀ {L : List (Option As)} {σ : L2.St}, Slots G L σ → Slots G' L σ
  | _, _, .nil => .nil
  | _, _, .un t => .un (Slots.m e t)
  | _, _, .im h t => .im (As.m _ e h) (Slots.m e t)
theorem Slots.get {G : Hp} : ∀ {L : List (Option As)} {σ : L2.St} {i : Nat} {A : As}, Slots G L σ → L[i]? = some (some A) → ∃ v, σ[i]? = some (some v) ∧ A.p G v
  | _, _, i, A, .nil, e => by simp at e
  | _, _, 0, A, .un _, e => by simp at e
  | _, _, 0, A, .im h _, e => by simp at e; subst e; exact ⟨_, rfl, h⟩
  | _, _, i + 1, A, .un t, e => by
    obtain ⟨v, h1, h2⟩ := Slots.get (i := i) t (by simpa using e)
    exact ⟨v, by simpa using h1, h2⟩
  | _, _, i + 1, A, .im _ t, e => by
    obtain ⟨v, h1, h2⟩ := Slots.get (i := i) t (by simpa using e)
    exact ⟨v, by simpa using h1, h2⟩
def setL : List (Option As) → Nat → As → List (Option As)
  | [], _, _ => []
  | _ :: L, 0, A => some A :: L
  | x :: L, i + 1, A => x :: setL L i A
def delL : List (Option As) → Nat → List (Option As)
  | [], _ => []
  | _ :: L, 0 => none :: L
  | x :: L, i + 1 => x :: delL L i
def wipeL (L : List (Option As)) : List Nat → List (Option As)
  | [] => L
  | v :: vs => delL (wipeL L vs) v
theorem Slots.set {G : Hp} {A : As} {v : V} (h : A.p G v) : ∀ {L : List (Option As)} {σ : L2.St} (i : Nat), Slots G L σ → Slots G (setL L i A) (σ.set i (some v))
  | _, _, _, .nil => .nil
  | _, _, 0, .un t => .im h t
  | _, _, 0, .im _ t => .im h t
  | _, _, i + 1, .un t => .un (Slots.set h i t)
  | _, _, i + 1, .im q t => .im q (Slots.set h i t)
theorem Slots.del {G : Hp} : ∀ {L : List (Option As)} {σ : L2.St} (i : Nat), Slots G L σ → Slots G (delL L i) (σ.set i none)
  | _, _, _, .nil => .nil
  | _, _, 0, .un t => .un t
  | _, _, 0, .im _ t => .un t
  | _, _, i + 1, .un t => .un (Slots.del i t)
  | _, _, i + 1, .im q t => .im q (Slots.del i t)
theorem Slots.wipe {G : Hp} {L : List (Option As)} {σ : L2.St} (h : Slots G L σ) : ∀ vs : List Nat, Slots G (wipeL L vs) (wipe σ vs)
  | [] => h
  | v :: vs => (Slots.wipe h vs).del v
theorem Slots.start {G : Hp} (n : Nat) : ∀ {l : List As} {vs : List V}, All2 G l vs → Slots G (l.map some ++ List.replicate n none) (vs.map some ++ List.replicate n none)
  | _, _, .nil => by
    induction n with
    | zero => exact .nil
    | succ n ih => exact .un ih
  | _, _, .cons h t => .im h (Slots.start n t)
end Sy
/-! ### judgements: what a piece of syntax gives, from the assertions on the slots and what is owned -/
namespace Sy
open PySem PySem.Spec PyProof.Rows L2
open SX (S S_len S_cat S_inj)
abbrev LL := List (Option As)
abbrev Post (E : List Addr) (G0 H0 G : Hp) (k : As → OO → Prop) (Q : VK) : Prop := ∀ A O' G' H' v, k A O' → Fr E G0 H0 O' G' H' → Same G G' → A.p G' v → Q v H'
def Go (L : LL) (O : OO) (t : TE) (k : As → OO → Prop) : Prop :=
  ∀ (E : List Addr) (G0 H0 : Hp) (σ : L2.St) (G H : Hp) (Q : VK), Fr E G0 H0 O G H → Slots G L σ → Post E G0 H0 G k Q → t σ H Q
def GoT (L : LL) (O : OO) (t : TT) (k : Bool → OO → Prop) : Prop :=
  ∀ (E : List Addr) (G0 H0 : Hp) (σ : L2.St) (G H : Hp) (Q : Bool → Hp → Prop), Fr E G0 H0 O G H → Slots G L σ → (∀ b O' G' H', k b O' → Fr E G0 H0 O' G' H' → Same G G' → Q b H') → t σ H Q
def GoA (L : LL) (O : OO) (t : TA) (k : List As → OO → Prop) : Prop :=
  ∀ (E : List Addr) (G0 H0 : Hp) (σ : L2.St) (G H : Hp) (Q : List V → Hp → Prop), Fr E G0 H0 O G H → Slots G L σ → (∀ l O' G' H' vs, k l O' → Fr E G0 H0 O' G' H' → Same G G' → All2 G' l vs → Q vs H') → t σ H Q
def GoO (L : LL) (O : OO) (t : TO) (k : Option Int → OO → Prop) : Prop :=
  ∀ (E : List Addr) (G0 H0 : Hp) (σ : L2.St) (G H : Hp) (Q : Option Int → Hp → Prop), Fr E G0 H0 O G H → Slots G L σ → (∀ i O' G' H', k i O' → Fr E G0 H0 O' G' H' → Same G G' → Q i H') → t σ H Q
def V1 (O : OO) (r : V → Hp → VK → Prop) (A : As) (k : As → OO → Prop) : Prop :=
  ∀ (E : List Addr) (G0 H0 : Hp) (G H : Hp) (Q : VK) (x : V), Fr E G0 H0 O G H → A.p G x → Post E G0 H0 G k Q → r x H Q
def V2 (O : OO) (r : R2) (A B : As) (k : As → OO → Prop) : Prop :=
  ∀ (E : List Addr) (G0 H0 : Hp) (G H : Hp) (Q : VK) (x y : V), Fr E G0 H0 O G H → A.p G x → B.p G y → Post E G0 H0 G k Q → r x y H Q
def Vn (O : OO) (r : List V → Hp → VK → Prop) (l : List As) (k : As → OO → Prop) : Prop :=
  ∀ (E : List Addr) (G0 H0 : Hp) (G H : Hp) (Q : VK) (xs : List V), Fr E G0 H0 O G H → All2 G l xs → Post E G0 H0 G k Q → r xs H Q
def Vm (O : OO) (r : V → List V → Hp → VK → Prop) (A : As) (l : List As) (k : As → OO → Prop) : Prop :=
  ∀ (E : List Addr) (G0 H0 : Hp) (G H : Hp) (Q : VK) (x : V) (xs : List V), Fr E G0 H0 O G H → A.p G x → All2 G l xs → Post E G0 H0 G k Q → r x xs H Q
def Vs (O : OO) (r : V → Option Int → Option Int → Hp → VK → Prop) (A : As) (lo hi : Option Int) (k : As → OO → Prop) : Prop :=
  ∀ (E : List Addr) (G0 H0 : Hp) (G H : Hp) (Q : VK) (x : V), Fr E G0 H0 O G H → A.p G x → Post E G0 H0 G k Q → r x lo hi H Q
/-- of which built-in type it is -/
def TyA (K : PySem.W.Frag) (T : String) (A : As) (O : OO) : Prop := ∀ (E : List Addr) (G0 H0 : Hp) (G H : Hp) (x : V), Fr E G0 H0 O G H → A.p G x → tyV K T x H
def TruA (K : PySem.W.Frag) (A : As) (O : OO) (b : Bool) : Prop := ∀ (E : List Addr) (G0 H0 : Hp) (G H : Hp) (x : V), Fr E G0 H0 O G H → A.p G x → TruV K x H b
def TyXA (K : PySem.W.Frag) (A : As) (O : OO) (t : Value) : Prop := ∀ (E : List Addr) (G0 H0 : Hp) (G H : Hp) (x : V), Fr E G0 H0 O G H → A.p G x → TyX K H x t
section
variable {K : PySem.W.Frag} {L : LL} {O : OO} {k : As → OO → Prop} {ta tb tc te : TE} {t : TA} {kb : Bool → OO → Prop} {tt uu : TT}
theorem Go.var {i : Nat} {A : As} (h : L[i]? = some (some A)) (q : k A O) : Go L O (tVar i) k := fun E G0 H0 σ G H Q f s z => by
  obtain ⟨v, h1, h2⟩ := s.get h
  exact ⟨v, h1, z _ _ _ _ _ q f (Same.refl _) h2⟩
theorem Go.c {v : V} (q : k (cst v) O) : Go L O (tC v) k := fun E G0 H0 σ G H Q f s z => z _ _ _ _ _ q f (Same.refl _) rfl
theorem Go.imp {k' : As → OO → Prop} (h : Go L O te k') (i : ∀ A O', k' A O' → k A O') : Go L O te k := fun E G0 H0 σ G H Q f s z => h _ _ _ _ _ _ _ f s fun A O' G' H' v hk => z _ _ _ _ _ (i _ _ hk)
theorem Go.op {r : R2} (h : Go L O ta fun A O1 => Go L O1 tb fun B O2 => V2 O2 r A B k) : Go L O (tOp r ta tb) k := fun E G0 H0 σ G H Q f s z =>
  h _ _ _ _ _ _ _ f s fun A O1 G1 H1 x hb f1 s1 a => hb _ _ _ _ _ _ _ f1 (s.m s1) fun B O2 G2 H2 y hr f2 s2 b => hr _ _ _ _ _ _ _ _ f2 (A.m s2 a) b fun C O3 G3 H3 v hk f3 s3 c => z _ _ _ _ _ hk f3 ((s1.trans s2).trans s3) c
theorem Go.un {r : V → Hp → VK → Prop} (h : Go L O ta fun A O1 => V1 O1 r A k) : Go L O (tUn r ta) k := fun E G0 H0 σ G H Q f s z =>
  h _ _ _ _ _ _ _ f s fun A O1 G1 H1 x hr f1 s1 a => hr _ _ _ _ _ _ _ f1 a fun C O3 G3 H3 v hk f3 s3 c => z _ _ _ _ _ hk f3 (s1.trans s3) c
theorem Go.ite (h : GoT L O tt fun b O1 => (b = true → Go L O1 ta k) ∧ (b = false → Go L O1 tb k)) : Go L O (tIf tt ta tb) k := fun E G0 H0 σ G H Q f s z =>
  h _ _ _ _ _ _ _ f s fun b O1 G1 H1 hk f1 s1 => by
    cases b with
    | true => exact iteT (hk.1 rfl _ _ _ _ _ _ _ f1 (s.m s1) fun A O' G' H' v q f' s' a => z _ _ _ _ _ q f' (s1.trans s') a)
    | false => exact iteF (hk.2 rfl _ _ _ _ _ _ _ f1 (s.m s1) fun A O' G' H' v q f' s' a => z _ _ _ _ _ q f' (s1.trans s') a)
theorem Go.chain {r r' : R2} (h : Go L O ta fun A O1 => Go L O1 tb fun B O2 => V2 O2 r A B fun C O3 => ∃ b, C = bo b ∧ (b = true → Go L O3 tc fun D O4 => V2 O4 r' B D k) ∧ (b = false → k (bo false) O3)) : Go L O (tChain r r' ta tb tc) k :=
  fun E G0 H0 σ G H Q f s z => h _ _ _ _ _ _ _ f s fun A O1 G1 H1 x hb f1 s1 a => hb _ _ _ _ _ _ _ f1 (s.m s1) fun B O2 G2 H2 y hr f2 s2 b => hr _ _ _ _ _ _ _ _ f2 (A.m s2 a) b fun C O3 G3 H3 v hk f3 s3 c => by
    obtain ⟨kk, rfl, k1, k2⟩ := hk
    refine ⟨kk, c, ?_⟩
    cases kk with
    | true => exact iteT (k1 rfl _ _ _ _ _ _ _ f3 (s.m ((s1.trans s2).trans s3)) fun D O4 G4 H4 w hw f4 s4 d => hw _ _ _ _ _ _ _ _ f4 (B.m (s3.trans s4) b) d fun C O5 G5 H5 v hk f5 s5 c => z _ _ _ _ _ hk f5 ((((s1.trans s2).trans s3).trans s4).trans s5) c)
    | false => exact iteF (z _ _ _ _ _ (k2 rfl) f3 ((s1.trans s2).trans s3) rfl)
/-- values by truth values -/
theorem Go.notV (h : Go L O ta fun A O1 => ∃ b, A = bo b ∧ k (bo (!b)) O1) : Go L O (tNotV ta) k := fun E G0 H0 σ G H Q f s z =>
  h _ _ _ _ _ _ _ f s fun A O1 G1 H1 x hr f1 s1 a => by
    obtain ⟨b, rfl, hk⟩ := hr
    exact ⟨b, a, z _ _ _ _ _ hk f1 s1 rfl⟩
theorem Go.andV (h : Go L O ta fun A O1 => ∃ b, A = bo b ∧ (b = true → Go L O1 tb k) ∧ (b = false → k (bo false) O1)) : Go L O (tAndV ta tb) k := fun E G0 H0 σ G H Q f s z =>
  h _ _ _ _ _ _ _ f s fun A O1 G1 H1 x hr f1 s1 a => by
    obtain ⟨b, rfl, h1, h2⟩ := hr
    refine ⟨b, a, ?_⟩
    cases b with
    | true => exact iteT (h1 rfl _ _ _ _ _ _ _ f1 (s.m s1) fun A O' G' H' v q f' s' a => z _ _ _ _ _ q f' (s1.trans s') a)
    | false => exact iteF (z _ _ _ _ _ (h2 rfl) f1 s1 rfl)
theorem Go.orV (h : Go L O ta fun A O1 => ∃ b, A = bo b ∧ (b = true → k (bo true) O1) ∧ (b = false → Go L O1 tb k)) : Go L O (tOrV ta tb) k := fun E G0 H0 σ G H Q f s z =>
  h _ _ _ _ _ _ _ f s fun A O1 G1 H1 x hr f1 s1 a => by
    obtain ⟨b, rfl, h1, h2⟩ := hr
    refine ⟨b, a, ?_⟩
    cases b with
    | true => exact iteT (z _ _ _ _ _ (h1 rfl) f1 s1 rfl)
    | false => exact iteF (h2 rfl _ _ _ _ _ _ _ f1 (s.m s1) fun A O' G' H' v q f' s' a => z _ _ _ _ _ q f' (s1.trans s') a)
/-- tests -/
theorem GoT.b (h : Go L O te fun A O1 => ∃ b, A = bo b ∧ kb b O1) : GoT L O (tB te) kb := fun E G0 H0 σ G H Q f s z =>
  h _ _ _ _ _ _ _ f s fun A O1 G1 H1 x hr f1 s1 a => by
    obtain ⟨b, rfl, hk⟩ := hr
    exact ⟨b, a, z _ _ _ _ hk f1 s1⟩
theorem GoT.test (h : Go L O te fun A O1 => ∃ b, A = bo b ∧ kb b O1) : GoT L O (tTest te) kb := fun E G0 H0 σ G H Q f s z =>
  h _ _ _ _ _ _ _ f s fun A O1 G1 H1 x hr f1 s1 a => by
    obtain ⟨b, rfl, hk⟩ := hr
    exact ⟨b, a, z _ _ _ _ hk f1 s1⟩
theorem GoT.tru (h : Go L O te fun A O1 => ∃ b, TruA K A O1 b ∧ kb b O1) : GoT L O (tTruQ K te) kb := fun E G0 H0 σ G H Q f s z =>
  h _ _ _ _ _ _ _ f s fun A O1 G1 H1 x hr f1 s1 a => by
    obtain ⟨b, ht, hk⟩ := hr
    exact ⟨b, ht _ _ _ _ _ _ f1 a, z _ _ _ _ hk f1 s1⟩
theorem GoT.and (h : GoT L O tt fun b O1 => (b = true → GoT L O1 uu kb) ∧ (b = false → kb false O1)) : GoT L O (tAnd tt uu) kb := fun E G0 H0 σ G H Q f s z =>
  h _ _ _ _ _ _ _ f s fun b O1 G1 H1 hr f1 s1 => by
    cases b with
    | true => exact iteT (hr.1 rfl _ _ _ _ _ _ _ f1 (s.m s1) fun b O' G' H' q f' s' => z _ _ _ _ q f' (s1.trans s'))
    | false => exact iteF (z _ _ _ _ (hr.2 rfl) f1 s1)
theorem GoT.or (h : GoT L O tt fun b O1 => (b = true → kb true O1) ∧ (b = false → GoT L O1 uu kb)) : GoT L O (tOr tt uu) kb := fun E G0 H0 σ G H Q f s z =>
  h _ _ _ _ _ _ _ f s fun b O1 G1 H1 hr f1 s1 => by
    cases b with
    | true => exact iteT (z _ _ _ _ (hr.1 rfl) f1 s1)
    | false => exact iteF (hr.2 rfl _ _ _ _ _ _ _ f1 (s.m s1) fun b O' G' H' q f' s' => z _ _ _ _ q f' (s1.trans s'))
theorem GoT.not (h : GoT L O tt fun b O1 => kb (!b) O1) : GoT L O (tNot tt) kb := fun E G0 H0 σ G H Q f s z =>
  h _ _ _ _ _ _ _ f s fun b O1 G1 H1 hr f1 s1 => z _ _ _ _ hr f1 s1
theorem GoT.yes (q : kb true O) : GoT L O tYes kb := fun E G0 H0 σ G H Q f s z => z _ _ _ _ q f (Same.refl _)
theorem GoT.imp {k' : Bool → OO → Prop} (h : GoT L O tt k') (i : ∀ b O', k' b O' → kb b O') : GoT L O tt kb := fun E G0 H0 σ G H Q f s z => h _ _ _ _ _ _ _ f s fun A O' G' H' hk => z _ _ _ _ (i _ _ hk)
/-- the two ways of a test as one decision -/
theorem GoT.join {kb : Bool → OO → Prop} (b : Bool) (h : GoT L O tt fun b' O1 => b' = b ∧ O1 = O) (q : kb b O) : GoT L O tt kb := h.imp fun b' O' e => by rw [e.1, e.2]; exact q
theorem Go.join {A : As} (h : Go L O te fun A' O1 => A' = A ∧ O1 = O) (q : k A O) : Go L O te k := h.imp fun b' O' e => by rw [e.1, e.2]; exact q
/-- argument lists -/
theorem GoA.nil {k : List As → OO → Prop} (q : k [] O) : GoA L O tNil k := fun E G0 H0 σ G H Q f s z => z _ _ _ _ _ q f (Same.refl _) .nil
theorem GoA.cons {k : List As → OO → Prop} (h : Go L O ta fun A O1 => GoA L O1 t fun l O2 => k (A :: l) O2) : GoA L O (tCons ta t) k := fun E G0 H0 σ G H Q f s z =>
  h _ _ _ _ _ _ _ f s fun A O1 G1 H1 x hr f1 s1 a => hr _ _ _ _ _ _ _ f1 (s.m s1) fun l O2 G2 H2 vs hk f2 s2 b => z _ _ _ _ _ hk f2 (s1.trans s2) (.cons (A.m s2 a) b)
theorem All2.sz {G : Hp} {l : List As} {vs : List V} (h : All2 G l vs) (z : l.length ≤ 100000) : vs.length ≤ sizeLine := by
  rw [h.len]
  exact Nat.le_trans z (by decide)
theorem Go.tup (h : GoA L O t fun l O1 => l.length ≤ 100000 ∧ k (tup K l) O1) : Go L O (tTup t) k := fun E G0 H0 σ G H Q f s z =>
  h _ _ _ _ _ _ _ f s fun l O1 G1 H1 vs hk f1 s1 a => ⟨a.sz hk.1, fun p np => by
    have e := Ext.new (o := .tup vs) f1.gh np
    exact z _ _ _ _ _ hk.2 (f1.ext e) (s1.trans e.g) ⟨p, vs, rfl, .inl (.inl upd_same), a.m e.g⟩⟩
theorem Go.lst (h : GoA L O t fun l O1 => l.length ≤ 100000 ∧ k (lst K l) O1) : Go L O (tLst t) k := fun E G0 H0 σ G H Q f s z =>
  h _ _ _ _ _ _ _ f s fun l O1 G1 H1 vs hk f1 s1 a => ⟨a.sz hk.1, fun p np => by
    have e := Ext.new (o := .lst vs) f1.gh np
    exact z _ _ _ _ _ hk.2 (f1.ext e) (s1.trans e.g) ⟨p, vs, rfl, upd_same, a.m e.g⟩⟩
/-- a list that will be changed -/
theorem Go.lstO (h : GoA L O t fun l O1 => l.length ≤ 100000 ∧ ∀ D, k (pt D) (O1 ++ [(D, .ol l)])) : Go L O (tLst t) k := fun E G0 H0 σ G H Q f s z =>
  h _ _ _ _ _ _ _ f s fun l O1 G1 H1 vs hk f1 s1 a => ⟨a.sz hk.1, fun p np => z _ _ _ _ _ (hk.2 p) (f1.own (c := .ol l) np ⟨vs, upd_same, a⟩) s1 rfl⟩
theorem Go.dnewO (h : ∀ D, k (pt D) (O ++ [(D, .od false [])])) : Go L O tDNewK k := fun E G0 H0 σ G H Q f s z p np =>
  z _ _ _ _ _ (h p) (f.own (c := .od false []) np ⟨[], upd_same, .nil⟩) (Same.refl _) rfl
/-- built-ins, methods, slices -/
theorem Go.cb {r : List V → Hp → VK → Prop} (h : GoA L O t fun l O1 => Vn O1 r l k) : Go L O (tCB r t) k := fun E G0 H0 σ G H Q f s z =>
  h _ _ _ _ _ _ _ f s fun l O1 G1 H1 vs hk f1 s1 a => hk _ _ _ _ _ _ _ f1 a fun C O3 G3 H3 v hk f3 s3 c => z _ _ _ _ _ hk f3 (s1.trans s3) c
theorem Go.bm {T : String} {r : V → List V → Hp → VK → Prop} (h : Go L O ta fun A O1 => TyA K T A O1 ∧ GoA L O1 t fun l O2 => Vm O2 r A l k) : Go L O (tBM K T r ta t) k := fun E G0 H0 σ G H Q f s z =>
  h _ _ _ _ _ _ _ f s fun A O1 G1 H1 x hr f1 s1 a => ⟨hr.1 _ _ _ _ _ _ f1 a, hr.2 _ _ _ _ _ _ _ f1 (s.m s1) fun l O2 G2 H2 vs hk f2 s2 b => hk _ _ _ _ _ _ _ _ f2 (A.m s2 a) b fun C O3 G3 H3 v hk f3 s3 c => z _ _ _ _ _ hk f3 ((s1.trans s2).trans s3) c⟩
theorem Go.bm0 {T : String} {r : V → List V → Hp → VK → Prop} (h : Go L O ta fun A O1 => TyA K T A O1 ∧ Vm O1 r A [] k) : Go L O (tBM0 K T r ta) k := fun E G0 H0 σ G H Q f s z =>
  h _ _ _ _ _ _ _ f s fun A O1 G1 H1 x hr f1 s1 a => ⟨hr.1 _ _ _ _ _ _ f1 a, hr.2 _ _ _ _ _ _ _ _ f1 a .nil fun C O3 G3 H3 v hk f3 s3 c => z _ _ _ _ _ hk f3 (s1.trans s3) c⟩
theorem Go.m1 {r : V → List V → Hp → VK → Prop} (h : Go L O ta fun A O1 => (∃ a, A = cst (.str a)) ∧ Go L O1 te fun B O2 => Vm O2 r A [B] k) : Go L O (tM1 r ta te) k := fun E G0 H0 σ G H Q f s z =>
  h _ _ _ _ _ _ _ f s fun A O1 G1 H1 x hr f1 s1 a => ⟨by obtain ⟨⟨y, rfl⟩, _⟩ := hr; exact ⟨y, a⟩, hr.2 _ _ _ _ _ _ _ f1 (s.m s1) fun B O2 G2 H2 y hk f2 s2 b => hk _ _ _ _ _ _ _ _ f2 (A.m s2 a) (.cons b .nil) fun C O3 G3 H3 v hk f3 s3 c => z _ _ _ _ _ hk f3 ((s1.trans s2).trans s3) c⟩
theorem Go.m0 {r : V → List V → Hp → VK → Prop} (h : Go L O ta fun A O1 => (∃ a, A = cst (.str a)) ∧ Vm O1 r A [] k) : Go L O (tM0 r ta) k := fun E G0 H0 σ G H Q f s z =>
  h _ _ _ _ _ _ _ f s fun A O1 G1 H1 x hr f1 s1 a => ⟨by obtain ⟨⟨y, rfl⟩, _⟩ := hr; exact ⟨y, a⟩, hr.2 _ _ _ _ _ _ _ _ f1 a .nil fun C O3 G3 H3 v hk f3 s3 c => z _ _ _ _ _ hk f3 (s1.trans s3) c⟩
theorem GoO.none {k : Option Int → OO → Prop} (q : k none O) : GoO L O tNoPart k := fun E G0 H0 σ G H Q f s z => z _ _ _ _ q f (Same.refl _)
theorem GoO.part {k : Option Int → OO → Prop} (h : Go L O te fun A O1 => ∃ i, A = it i ∧ k (some i) O1) : GoO L O (tPart te) k := fun E G0 H0 σ G H Q f s z =>
  h _ _ _ _ _ _ _ f s fun A O1 G1 H1 x hr f1 s1 a => by
    obtain ⟨i, rfl, hk⟩ := hr
    exact ⟨i, a, z _ _ _ _ hk f1 s1⟩
theorem Go.sl {r : V → Option Int → Option Int → Hp → VK → Prop} {tl th : TO} (h : Go L O te fun A O1 => GoO L O1 tl fun lo O2 => GoO L O2 th fun hi O3 => Vs O3 r A lo hi k) : Go L O (tSl r te tl th) k := fun E G0 H0 σ G H Q f s z =>
  h _ _ _ _ _ _ _ f s fun A O1 G1 H1 x hr f1 s1 a => hr _ _ _ _ _ _ _ f1 (s.m s1) fun lo O2 G2 H2 hk f2 s2 => hk _ _ _ _ _ _ _ f2 (s.m (s1.trans s2)) fun hi O3 G3 H3 hj f3 s3 =>
    hj _ _ _ _ _ _ _ f3 (A.m (s2.trans s3) a) fun C O4 G4 H4 v hk f4 s4 c => z _ _ _ _ _ hk f4 (((s1.trans s2).trans s3).trans s4) c
/-! ### defs -/
def SpG {α : Type} (pre : α → Prop) (as : α → List As) (oin : α → OO) (post : α → As → OO → Prop) : Sp := fun vs H Q _ => ∃ a G, pre a ∧ All2 G (as a) vs ∧ Fr ((oin a).map (·.1)) G H (oin a) G H ∧
  ∀ A O' G' H' v, post a A O' → Fr ((oin a).map (·.1)) G H O' G' H' → A.p G' v → Q v H'
/-- a def that owns nothing and changes nothing -/
abbrev SpP {α : Type} (pre : α → Prop) (as : α → List As) (r : α → As) : Sp := SpG pre as (fun _ => []) fun a A O' => A = r a ∧ O' = []
theorem Fr.part {E : List Addr} {G0 H0 G H : Hp} {I R : OO} (f : Fr E G0 H0 (I ++ R) G H) (hI : ∀ x ∈ I, x.2.par = true) : Fr (I.map (·.1)) G H I G H :=
  ⟨Same.refl _, f.gh, fun _ _ _ h => h, fun _ h => h, fun _ h _ => h, fun x hx => ⟨(f.ow x (List.mem_append_left _ hx)).1, .inl ⟨hI x hx, List.mem_map_of_mem hx⟩, (f.ow x (List.mem_append_left _ hx)).2.2⟩, by
    have h := f.nd
    rw [List.map_append] at h
    exact (List.nodup_append.mp h).1⟩
theorem Fr.frame {E : List Addr} {G0 H0 G H G' H' : Hp} {I O' R : OO} (f : Fr E G0 H0 (I ++ R) G H) (g : Fr (I.map (·.1)) G H O' G' H') : Fr E G0 H0 (O' ++ R) G' H' := by
  have nd := f.nd
  rw [List.map_append] at nd
  have nd' := List.nodup_append.mp nd
  have back : ∀ b o, b ∉ E → H0 b = some o → b ∉ I.map (·.1) := fun b o hb h z => by
    obtain ⟨x, hx, rfl⟩ := List.mem_map.mp z
    rcases (f.ow x (List.mem_append_left _ hx)).2.1 with q | q
    · exact hb q.2
    · rw [q] at h; cases h
  refine ⟨f.gg.trans g.gg, g.gh, fun b o hb h => g.hh b o (back b o hb h) (f.hh b o hb h), fun b h => f.hn b (g.hn b h), fun b h1 h2 => g.fr b (f.fr b h1 h2) fun z => h2 (f.hn b z), fun x hx => ?_, ?_⟩
  · rcases List.mem_append.mp hx with q | q
    · refine ⟨(g.ow x q).1, ?_, (g.ow x q).2.2⟩
      rcases (g.ow x q).2.1 with z | z
      · obtain ⟨y, hy, e⟩ := List.mem_map.mp z.2
        rw [← e]
        exact (f.ow y (List.mem_append_left _ hy)).2.1.imp (fun q => ⟨z.1, q.2⟩) id
      · exact .inr (f.hn _ z)
    · obtain ⟨v1, v2, v3⟩ := f.ow x (List.mem_append_right _ q)
      have nin : x.1 ∉ I.map (·.1) := fun z => nd'.2.2 x.1 z x.1 (List.mem_map_of_mem q) rfl
      refine ⟨g.fr _ v1 v3.some, v2, v3.m g.gg ?_⟩
      cases hq : H x.1 with
      | none => exact absurd hq v3.some
      | some o => exact (g.hh _ _ nin hq).symm
  · rw [List.map_append]
    refine List.nodup_append.mpr ⟨g.nd, nd'.2.1, fun a ha b hb e => ?_⟩
    obtain ⟨x, hx, rfl⟩ := List.mem_map.mp ha
    obtain ⟨y, hy, rfl⟩ := List.mem_map.mp hb
    have h3 := (f.ow y (List.mem_append_right _ hy)).2.2.some
    rcases (g.ow x hx).2.1 with z | z
    · exact nd'.2.2 _ z.2 _ (List.mem_map_of_mem hy) e
    · have e' : x.1 = y.1 := e
      rw [e'] at z
      exact h3 z
theorem Go.call {α : Type} {pre : α → Prop} {as : α → List As} {oin : α → OO} {post : α → As → OO → Prop} {X : XK} (hI : ∀ a, ∀ x ∈ oin a, x.2.par = true)
    (h : GoA L O t fun l O1 => ∃ a R, l = as a ∧ O1 = oin a ++ R ∧ pre a ∧ ∀ A O', post a A O' → k A (O' ++ R)) : Go L O (tCall (SpG pre as oin post) [] X t) k := fun E G0 H0 σ G H Q f s z =>
  h _ _ _ _ _ _ _ f s fun l O1 G1 H1 vs hk f1 s1 b => by
    obtain ⟨a, R, rfl, rfl, hp, hq⟩ := hk
    refine ⟨a, G1, hp, ?_, f1.part (hI a), fun A O' G' H' v q g c => z _ _ _ _ _ (hq _ _ q) (f1.frame g) (s1.trans g.gg) c⟩
    rw [List.append_nil]
    exact b
/-- .. that owns nothing -/
theorem Go.callP {α : Type} {pre : α → Prop} {as : α → List As} {r : α → As} {X : XK}
    (h : GoA L O t fun l O1 => ∃ a, l = as a ∧ pre a ∧ k (r a) O1) : Go L O (tCall (SpP pre as r) [] X t) k := Go.call (fun _ _ h => nomatch h) fun E G0 H0 σ G H Q f s z =>
  h _ _ _ _ _ _ _ f s fun l O' G' H' vs q => z _ _ _ _ _ (by
    obtain ⟨a, h1, h2, h3⟩ := q
    refine ⟨a, O', h1, rfl, h2, ?_⟩
    rintro A O2 ⟨rfl, rfl⟩
    exact h3)
end
end Sy
/-! ### statements, walks, loops, comprehensions, defs -/
namespace Sy
open PySem PySem.Spec PyProof.Rows L2
open SX (S S_len S_cat S_inj)
structure Es where
  nx : LL → OO → Prop
  rt : As → OO → Prop
  bk : LL → OO → Prop := fun _ _ => False
  ct : LL → OO → Prop := fun _ _ => False
abbrev Es.then (k : Es) (f : LL → OO → Prop) : Es := ⟨f, k.rt, k.bk, k.ct⟩
structure EndsOk (E : List Addr) (G0 H0 G0' : Hp) (D : Ends) (k : Es) : Prop where
  nx : ∀ L O σ G H, k.nx L O → Fr E G0 H0 O G H → Same G0' G → Slots G L σ → D.nx σ H
  rt : ∀ A O G H v, k.rt A O → Fr E G0 H0 O G H → Same G0' G → A.p G v → D.rt v H
  bk : ∀ L O σ G H, k.bk L O → Fr E G0 H0 O G H → Same G0' G → Slots G L σ → D.bk σ H
  ct : ∀ L O σ G H, k.ct L O → Fr E G0 H0 O G H → Same G0' G → Slots G L σ → D.ct σ H
theorem EndsOk.m {E : List Addr} {G0 H0 G G' : Hp} {D : Ends} {k : Es} (e : EndsOk E G0 H0 G D k) (s : Same G G') : EndsOk E G0 H0 G' D k :=
  ⟨fun L O σ G H q f z => e.nx L O σ G H q f (s.trans z), fun L O σ G H q f z => e.rt L O σ G H q f (s.trans z), fun L O σ G H q f z => e.bk L O σ G H q f (s.trans z), fun L O σ G H q f z => e.ct L O σ G H q f (s.trans z)⟩
def GoS (L : LL) (O : OO) (t : TS) (k : Es) : Prop :=
  ∀ (E : List Addr) (G0 H0 : Hp) (σ : L2.St) (G H : Hp) (D : Ends), Fr E G0 H0 O G H → Slots G L σ → EndsOk E G0 H0 G D k → t D σ H
/-- a target: what it stores -/
def GoG (L : LL) (A : As) (g : TG) (k : LL → Prop) : Prop :=
  ∀ (σ : L2.St) (G H : Hp) (Q : L2.St → Hp → Prop) (x : V), Same G H → Slots G L σ → A.p G x → (∀ L' σ', k L' → Slots G L' σ' → Q σ' H) → g x σ H Q
section
variable {K : PySem.W.Frag} {L : LL} {O : OO} {k : Es} {te td ty tv : TE} {t u : TS} {tt : TT} {ta : TA}
theorem GoS.imp {k' : Es} (h : GoS L O t k') (n : ∀ L O, k'.nx L O → k.nx L O) (r : ∀ A O, k'.rt A O → k.rt A O) (b : ∀ L O, k'.bk L O → k.bk L O) (c : ∀ L O, k'.ct L O → k.ct L O) : GoS L O t k := fun E G0 H0 σ G H D f s e =>
  h _ _ _ _ _ _ _ f s ⟨fun L O σ G H q => e.nx L O σ G H (n _ _ q), fun A O G H v q => e.rt A O G H v (r _ _ q), fun L O σ G H q => e.bk L O σ G H (b _ _ q), fun L O σ G H q => e.ct L O σ G H (c _ _ q)⟩
theorem GoS.seq (h : GoS L O t (k.then fun L' O' => GoS L' O' u k)) : GoS L O (tSeq t u) k := fun E G0 H0 σ G H D f s e =>
  h _ _ _ _ _ _ _ f s ⟨fun L O σ G H q f' z s' => q _ _ _ _ _ _ _ f' s' (e.m z), e.rt, e.bk, e.ct⟩
theorem GoS.cut (h : GoS L O t (k.then fun L' O' => GoS L' O' u k)) : GoS L O (C8.tCut t u) k := fun E G0 H0 σ G H D f s e =>
  ⟨fun σ' H' => ∃ L' O' G', GoS L' O' u k ∧ Fr E G0 H0 O' G' H' ∧ Same G G' ∧ Slots G' L' σ', h _ _ _ _ _ _ _ f s ⟨fun L O σ G H q f' z s' => ⟨_, _, _, q, f', z, s'⟩, e.rt, e.bk, e.ct⟩, fun σ' H' ⟨L', O', G', q, f', z, s'⟩ => q _ _ _ _ _ _ _ f' s' (e.m z)⟩
/-- a word between -/
theorem GoS.mid {k : Es} (J : LL → OO → Prop) (h : GoS L O t (k.then J)) (q : ∀ L' O', J L' O' → k.nx L' O') : GoS L O t k := h.imp q (fun _ _ h => h) (fun _ _ h => h) (fun _ _ h => h)
theorem GoS.nil (q : k.nx L O) : GoS L O tNext k := fun E G0 H0 σ G H D f s e => e.nx _ _ _ _ _ q f (Same.refl _) s
theorem GoS.brk (q : k.bk L O) : GoS L O tBreak k := fun E G0 H0 σ G H D f s e => e.bk _ _ _ _ _ q f (Same.refl _) s
theorem GoS.cont (q : k.ct L O) : GoS L O tCont k := fun E G0 H0 σ G H D f s e => e.ct _ _ _ _ _ q f (Same.refl _) s
theorem GoS.drop (h : Go L O te fun _ O1 => k.nx L O1) : GoS L O (tDrop te) k := fun E G0 H0 σ G H D f s e =>
  h _ _ _ _ _ _ _ f s fun A O1 G1 H1 v q f1 s1 a => e.nx _ _ _ _ _ q f1 s1 (s.m s1)
theorem GoS.ret (h : Go L O te fun A O1 => k.rt A O1) : GoS L O (tRet te) k := fun E G0 H0 σ G H D f s e =>
  h _ _ _ _ _ _ _ f s fun A O1 G1 H1 v q f1 s1 a => e.rt _ _ _ _ _ q f1 s1 a
theorem GoS.retN (q : k.rt no O) : GoS L O tRetN k := fun E G0 H0 σ G H D f s e => e.rt _ _ _ _ _ q f (Same.refl _) rfl
theorem GoS.ite (h : GoT L O tt fun b O1 => (b = true → GoS L O1 t k) ∧ (b = false → GoS L O1 u k)) : GoS L O (tIfS tt t u) k := fun E G0 H0 σ G H D f s e =>
  h _ _ _ _ _ _ _ f s fun b O1 G1 H1 q f1 s1 => by
    cases b with
    | true => exact iteT (q.1 rfl _ _ _ _ _ _ _ f1 (s.m s1) (e.m s1))
    | false => exact iteF (q.2 rfl _ _ _ _ _ _ _ f1 (s.m s1) (e.m s1))
theorem GoS.set {i : Nat} (h : Go L O te fun A O1 => k.nx (setL L i A) O1) : GoS L O (tAsg te (gName i)) k := fun E G0 H0 σ G H D f s e =>
  h _ _ _ _ _ _ _ f s fun A O1 G1 H1 v q f1 s1 a => e.nx _ _ _ _ _ q f1 s1 ((s.m s1).set a i)
theorem GoS.asg {g : TG} (h : Go L O te fun A O1 => GoG L A g fun L' => k.nx L' O1) : GoS L O (tAsg te g) k := fun E G0 H0 σ G H D f s e =>
  h _ _ _ _ _ _ _ f s fun A O1 G1 H1 v q f1 s1 a => q _ _ _ _ _ f1.gh (s.m s1) a fun L' σ' q' s' => e.nx _ _ _ _ _ q' f1 s1 s'
theorem GoS.par {i j : Nat} (h : GoA L O ta fun l O1 => ∃ A B, l = [A, B] ∧ k.nx (setL (setL L i A) j B) O1) : GoS L O (tPar i j ta) k := fun E G0 H0 σ G H D f s e =>
  h _ _ _ _ _ _ _ f s fun l O1 G1 H1 vs q f1 s1 a => by
    obtain ⟨A, B, rfl, q⟩ := q
    cases a with
    | cons a r => cases r with
      | cons b r => cases r; exact ⟨_, _, rfl, e.nx _ _ _ _ _ q f1 s1 (((s.m s1).set a i).set b j)⟩
theorem GoS.par3 {i j m : Nat} (h : GoA L O ta fun l O1 => ∃ A B C, l = [A, B, C] ∧ k.nx (setL (setL (setL L i A) j B) m C) O1) : GoS L O (tPar3 i j m ta) k := fun E G0 H0 σ G H D f s e =>
  h _ _ _ _ _ _ _ f s fun l O1 G1 H1 vs q f1 s1 a => by
    obtain ⟨A, B, C, rfl, q⟩ := q
    cases a with
    | cons a r => cases r with
      | cons b r => cases r with
        | cons c r => cases r; exact ⟨_, _, _, rfl, e.nx _ _ _ _ _ q f1 s1 ((((s.m s1).set a i).set b j).set c m)⟩
theorem GoG.name {A : As} {i : Nat} {k : LL → Prop} (q : k (setL L i A)) : GoG L A (gName i) k := fun σ G H Q x e s a z => z _ _ q (s.set a i)
def GoGs (L : LL) (l : List As) (g : TGs) (k : LL → Prop) : Prop :=
  ∀ (σ : L2.St) (G H : Hp) (Q : L2.St → Hp → Prop) (xs : List V), Same G H → Slots G L σ → All2 G l xs → (∀ L' σ', k L' → Slots G L' σ' → Q σ' H) → g xs σ H Q
theorem GoGs.nil {k : LL → Prop} (q : k L) : GoGs L [] gNil k := fun σ G H Q xs e s a z => by
  cases a
  exact ⟨rfl, z _ _ q s⟩
theorem GoGs.cons {A : As} {l : List As} {g : TG} {u : TGs} {k : LL → Prop} (h : GoG L A g fun L' => GoGs L' l u k) : GoGs L (A :: l) (gCons g u) k := fun σ G H Q xs e s a z => by
  cases a with
  | cons a r => exact ⟨_, _, rfl, h _ _ _ _ _ e s a fun L' σ' q' s' => q' _ _ _ _ _ e s' r z⟩
theorem GoG.tup {l : List As} {n : Nat} {u : TGs} {k : LL → Prop} (hn : l.length = n) (h : GoGs L l u k) : GoG L (tup K l) (gTup K n u) k := fun σ G H Q x e s a z => by
  obtain ⟨p, vs, rfl, h1, h2⟩ := a
  exact ⟨p, vs, rfl, SqT.mono e h1, by rw [h2.len, hn], h _ _ _ _ _ e s h2 z⟩
/-! walks -/
/-- what is walked gives the things xs, one after the other -/
def IterOk (J : It) (xs : List As) (G : Hp) : Prop := ∃ (Gp : Hp → Prop) (Y : Nat → Hp → V → Hp → Prop), Walk J xs.length Gp Y ∧ (∀ H, Same G H → Gp H) ∧
  ∀ i H x H', i < xs.length → Y i H x H' → ∀ Gc, Same G Gc → Same Gc H → ∃ A Gc', xs[i]? = some A ∧ Ext Gc H Gc' H' ∧ A.p Gc' x
def GoI (L : LL) (O : OO) (wi : TI) (k : List As → OO → Prop) : Prop :=
  ∀ (E : List Addr) (G0 H0 : Hp) (σ : L2.St) (G H : Hp) (R : It → Hp → Prop), Fr E G0 H0 O G H → Slots G L σ → (∀ xs O' G' H' J, k xs O' → Fr E G0 H0 O' G' H' → Same G G' → IterOk J xs G' → R J H') → wi σ H R
theorem GoI.ofL {k : List As → OO → Prop} (h : Go L O te fun A O1 => ∃ xs, A = lst K xs ∧ k xs O1) : GoI L O (iList K te) k := fun E G0 H0 σ G H R f s z =>
  h _ _ _ _ _ _ _ f s fun A O1 G1 H1 v q f1 s1 a => by
    obtain ⟨xs, rfl, q⟩ := q
    obtain ⟨p, vs, rfl, h1, h2⟩ := a
    refine ⟨p, rfl, ⟨vs, SqL.of (f1.gh _ _ h1)⟩, z _ _ _ _ _ q f1 s1 ⟨_, _, by rw [← h2.len]; exact walk_list, fun H e => SqL.of (e _ _ h1), fun i H x H' hi y Gc e1 e2 => ?_⟩⟩
    obtain ⟨rfl, hx⟩ := y
    obtain ⟨A, hA, ha⟩ := h2.get hx
    exact ⟨A, Gc, hA, Ext.refl e2, A.m e1 ha⟩
theorem GoI.ofT {k : List As → OO → Prop} (h : Go L O te fun A O1 => ∃ xs, A = tup K xs ∧ k xs O1) : GoI L O (iTup K te) k := fun E G0 H0 σ G H R f s z =>
  h _ _ _ _ _ _ _ f s fun A O1 G1 H1 v q f1 s1 a => by
    obtain ⟨xs, rfl, q⟩ := q
    obtain ⟨p, vs, rfl, h1, h2⟩ := a
    refine ⟨p, rfl, ⟨vs, SqT.mono f1.gh h1⟩, z _ _ _ _ _ q f1 s1 ⟨_, _, by rw [← h2.len]; exact walk_tup, fun H e => SqT.mono e h1, fun i H x H' hi y Gc e1 e2 => ?_⟩⟩
    obtain ⟨rfl, hx⟩ := y
    obtain ⟨A, hA, ha⟩ := h2.get hx
    exact ⟨A, Gc, hA, Ext.refl e2, A.m e1 ha⟩
theorem GoI.str {k : List As → OO → Prop} (h : Go L O te fun A O1 => ∃ l, A = tx l ∧ k (l.map fun c => tx [c]) O1) : GoI L O (iStr te) k := fun E G0 H0 σ G H R f s z =>
  h _ _ _ _ _ _ _ f s fun A O1 G1 H1 v q f1 s1 a => by
    obtain ⟨l, rfl, q⟩ := q
    have size : (S l).cps.size = l.length := by simp [S]
    refine ⟨S l, a, z _ _ _ _ _ q f1 s1 ⟨_, _, by rw [List.length_map, ← size]; exact walk_str, fun _ _ => trivial, fun i H x H' hi y Gc e1 e2 => ?_⟩⟩
    obtain ⟨rfl, c, hc, rfl⟩ := y
    have hc' : l[i]? = some c := by
      have : (S l).cps[i]? = l[i]? := by simp [S]
      rw [← this]
      exact hc
    exact ⟨tx [c], Gc, by rw [List.getElem?_map, hc']; rfl, Ext.refl e2, rfl⟩
def rngA (lo : Int) (n : Nat) : List As := (List.range n).map fun j : Nat => it (lo + j)
theorem rngA_ok {lo : Int} {n : Nat} {G : Hp} : IterOk (Itr lo n) (rngA lo n) G := by
  refine ⟨_, _, by rw [show (rngA lo n).length = n by simp [rngA]]; exact walk_range, fun _ _ => trivial, fun i H x H' hi y Gc e1 e2 => ?_⟩
  obtain ⟨rfl, rfl⟩ := y
  have hi' : i < n := by simpa [rngA] using hi
  exact ⟨it (lo + i), Gc, by simp [rngA, hi'], Ext.refl e2, rfl⟩
theorem GoI.rng1 {k : List As → OO → Prop} (h : GoA L O ta fun l O1 => ∃ j : Int, l = [it j] ∧ (-(2 ^ 62) ≤ j ∧ j < 2 ^ 62) ∧ k (rngA 0 j.toNat) O1) : GoI L O (iRng1 ta) k := fun E G0 H0 σ G H R f s z =>
  h _ _ _ _ _ _ _ f s fun l O1 G1 H1 vs q f1 s1 a => by
    obtain ⟨j, rfl, ⟨b1, b2⟩, q⟩ := q
    cases a with
    | cons a r => cases r; exact ⟨j, by rw [show _ = V.int j from a], b1, b2, z _ _ _ _ _ q f1 s1 rngA_ok⟩
theorem GoI.rng2 {k : List As → OO → Prop} (h : GoA L O ta fun l O1 => ∃ i j : Int, l = [it i, it j] ∧ (-(2 ^ 62) ≤ i ∧ i < 2 ^ 62 ∧ -(2 ^ 62) ≤ j ∧ j < 2 ^ 62) ∧ k (rngA i (j - i).toNat) O1) : GoI L O (iRng2 ta) k := fun E G0 H0 σ G H R f s z =>
  h _ _ _ _ _ _ _ f s fun l O1 G1 H1 vs q f1 s1 a => by
    obtain ⟨i, j, rfl, b, q⟩ := q
    cases a with
    | cons a r => cases r with
      | cons a' r => cases r; exact ⟨i, j, by rw [show _ = V.int i from a, show _ = V.int j from a'], b, z _ _ _ _ _ q f1 s1 rngA_ok⟩
/-- a new pair each -/
theorem pair_ok {J : It} {n : Nat} {Gp : Hp → Prop} {f g : Nat → Option V} {G : Hp} {xs ys : List As} (w : Walk J n Gp (YPair f g)) (hx : xs.length = n) (hy : ys.length = n) (gp : ∀ H, Same G H → Gp H)
    (fx : ∀ i v, i < n → f i = some v → ∃ A, xs[i]? = some A ∧ A.p G v) (gx : ∀ i v, i < n → g i = some v → ∃ A, ys[i]? = some A ∧ A.p G v) : IterOk J ((xs.zip ys).map fun p => tup K [p.1, p.2]) G := by
  have hl : ((xs.zip ys).map fun p => tup K [p.1, p.2]).length = n := by rw [List.length_map, List.length_zip, hx, hy, Nat.min_self]
  refine ⟨_, _, by rw [hl]; exact w, gp, fun i H x H' hi y Gc e1 e2 => ?_⟩
  rw [hl] at hi
  obtain ⟨T, a, b, rfl, nT, rfl, h1, h2⟩ := y
  obtain ⟨A, hA, ha⟩ := fx _ _ hi h1
  obtain ⟨B, hB, hb⟩ := gx _ _ hi h2
  have e := Ext.new (o := .tup [a, b]) e2 nT
  refine ⟨tup K [A, B], _, ?_, e, T, [a, b], rfl, .inl (.inl upd_same), .cons (A.m (e1.trans e.g) ha) (.cons (B.m (e1.trans e.g) hb) .nil)⟩
  rw [List.getElem?_map]
  have hz : (xs.zip ys)[i]? = some (A, B) := by rw [List.getElem?_zip_eq_some]; exact ⟨hA, hB⟩
  rw [hz]
  rfl
def nums (n : Nat) : List As := (List.range n).map fun j : Nat => it (j : Int)
theorem nums_at {n i : Nat} {G : Hp} (h : i < n) : ∃ A, (nums n)[i]? = some A ∧ A.p G (.int (i : Nat)) := ⟨it i, by simp [nums, h], rfl⟩
def enA (K : PySem.W.Frag) (xs : List As) : List As := ((nums xs.length).zip xs).map fun p => tup K [p.1, p.2]
theorem GoI.enum {k : List As → OO → Prop} (h : GoA L O ta fun l O1 => ∃ xs, l = [lst K xs] ∧ k (enA K xs) O1) : GoI L O (iEnum K ta) k := fun E G0 H0 σ G H R f s z =>
  h _ _ _ _ _ _ _ f s fun l O1 G1 H1 vs q f1 s1 a => by
    obtain ⟨xs, rfl, q⟩ := q
    cases a with
    | cons a r =>
      cases r
      obtain ⟨p, vs, rfl, h1, h2⟩ := a
      refine ⟨p, vs, rfl, SqL.of (f1.gh _ _ h1), z _ _ _ _ _ q f1 s1 (pair_ok (n := vs.length) walk_enum (by simp [nums, h2.len]) h2.len.symm (fun H e => SqL.of (e _ _ h1)) (fun i v hi e => ?_) (fun i v _ e => h2.get e))⟩
      obtain rfl := Option.some.inj e
      exact nums_at (by rw [← h2.len]; exact hi)
theorem GoI.enumT {k : List As → OO → Prop} (h : GoA L O ta fun l O1 => ∃ xs, l = [tup K xs] ∧ k (enA K xs) O1) : GoI L O (ET.iEn K ta) k := fun E G0 H0 σ G H R f s z =>
  h _ _ _ _ _ _ _ f s fun l O1 G1 H1 vs q f1 s1 a => by
    obtain ⟨xs, rfl, q⟩ := q
    cases a with
    | cons a r =>
      cases r
      obtain ⟨p, vs, rfl, h1, h2⟩ := a
      refine ⟨p, vs, rfl, SqT.mono f1.gh h1, z _ _ _ _ _ q f1 s1 (pair_ok (n := vs.length) ET.walk_en (by simp [nums, h2.len]) h2.len.symm (fun H e => SqT.mono e h1) (fun i v hi e => ?_) (fun i v _ e => h2.get e))⟩
      obtain rfl := Option.some.inj e
      exact nums_at (by rw [← h2.len]; exact hi)
theorem GoI.zip {k : List As → OO → Prop} (h : GoA L O ta fun l O1 => ∃ xs ys, l = [lst K xs, lst K ys] ∧ xs.length = ys.length ∧ k ((xs.zip ys).map fun p => tup K [p.1, p.2]) O1) : GoI L O (iZip K ta) k := fun E G0 H0 σ G H R f s z =>
  h _ _ _ _ _ _ _ f s fun l O1 G1 H1 vs q f1 s1 a => by
    obtain ⟨xs, ys, rfl, hl, q⟩ := q
    cases a with
    | cons a r =>
      cases r with
      | cons b r =>
        cases r
        obtain ⟨p, vs, rfl, h1, h2⟩ := a
        obtain ⟨p', ws, rfl, h3, h4⟩ := b
        exact ⟨p, p', vs, ws, rfl, SqL.of (f1.gh _ _ h1), SqL.of (f1.gh _ _ h3), z _ _ _ _ _ q f1 s1 (pair_ok (n := vs.length) (walk_zip (by rw [h2.len, h4.len, hl, Nat.min_self])) h2.len.symm (by rw [h2.len, hl]) (fun H e => ⟨SqL.of (e _ _ h1), SqL.of (e _ _ h3)⟩) (fun i v _ e => h2.get e) (fun i v _ e => h4.get e))⟩
theorem GoI.zipS {k : List As → OO → Prop} (h : GoA L O ta fun l O1 => ∃ xs ys, l = [lst K xs, lst K ys] ∧ xs.length = ys.length ∧ k ((xs.zip ys).map fun p => tup K [p.1, p.2]) O1) : GoI L O (ZS.iZs K ta) k := fun E G0 H0 σ G H R f s z =>
  h _ _ _ _ _ _ _ f s fun l O1 G1 H1 vs q f1 s1 a => by
    obtain ⟨xs, ys, rfl, hl, q⟩ := q
    cases a with
    | cons a r =>
      cases r with
      | cons b r =>
        cases r
        obtain ⟨p, vs, rfl, h1, h2⟩ := a
        obtain ⟨p', ws, rfl, h3, h4⟩ := b
        exact ⟨p, p', vs, ws, rfl, SqL.of (f1.gh _ _ h1), SqL.of (f1.gh _ _ h3), z _ _ _ _ _ q f1 s1 (pair_ok (n := vs.length) (ZS.walk_zs (by rw [h2.len, h4.len, hl])) h2.len.symm (by rw [h2.len, hl]) (fun H e => ⟨SqL.of (e _ _ h1), SqL.of (e _ _ h3)⟩) (fun i v _ e => h2.get e) (fun i v _ e => h4.get e))⟩
/-! for: J tells slots and what is owned ahead of the i-th turn -/
theorem GoS.for {wi : TI} {g : TG} {tb : TS} (h : GoI L O wi fun xs O1 => ∃ J : Nat → LL → OO → Prop, J 0 L O1 ∧
    (∀ i A L' O', xs[i]? = some A → J i L' O' → GoG L' A g fun L2 => GoS L2 O' tb { k with nx := J (i + 1), ct := J (i + 1), bk := k.nx }) ∧ ∀ L' O', J xs.length L' O' → k.nx L' O') : GoS L O (tFor wi g tb) k := fun E G0 H0 σ G H D f s e =>
  h _ _ _ _ _ _ _ f s fun xs O1 G1 H1 It q f1 s1 ok => by
    obtain ⟨J, j0, js, jd⟩ := q
    obtain ⟨Gp, Y, w, gp, yy⟩ := ok
    refine for_it w (fun i σ' H' => ∃ L' O' G', J i L' O' ∧ Fr E G0 H0 O' G' H' ∧ Same G1 G' ∧ Slots G' L' σ') ⟨L, O1, G1, j0, f1, Same.refl _, s.m s1⟩ (fun i σ' H' _ ⟨_, _, G', _, f', z, _⟩ => gp _ (z.trans f'.gh)) (fun i x σ' H' H'' hi ⟨L', O', G', j', f', z, s'⟩ y => ?_)
      (fun σ' H' ⟨L', O', G', j', f', z, s'⟩ => e.nx _ _ _ _ _ (jd _ _ j') f' (s1.trans z) s')
    obtain ⟨A, G2, hA, ex, a⟩ := yy i H' x H'' hi y G' z f'.gh
    have f2 := f'.ext ex
    have z2 := z.trans ex.g
    refine js i A L' O' hA j' _ _ _ _ _ f2.gh (s'.m ex.g) a fun L2 σ2 q2 s2 => ?_
    exact q2 _ _ _ _ _ _ _ f2 s2 ⟨fun L O σ G H q f z s => ⟨_, _, _, q, f, z2.trans z, s⟩, fun A O G H v q f z a => e.rt _ _ _ _ _ q f ((s1.trans z2).trans z) a, fun L O σ G H q f z s => e.nx _ _ _ _ _ q f ((s1.trans z2).trans z) s, fun L O σ G H q f z s => ⟨_, _, _, q, f, z2.trans z, s⟩⟩
/-! comprehensions: T is the rest of what is owned (the new list among it) -/
theorem All2.snoc {G : Hp} {l : List As} {vs : List V} {A : As} {v : V} (h : All2 G l vs) (a : A.p G v) : All2 G (l ++ [A]) (vs ++ [v]) := h.app (.cons a .nil)
theorem Go.lc {wi : TI} {g : TG} {tt : TT} {te : TE} {vs : List Nat} {k : As → OO → Prop} (hg : ∀ (x : V) (σ : L2.St) (H : Hp) (Q : L2.St → Hp → Prop), g x (wipe σ vs) H (fun σ2 H2 => wipe σ2 vs = wipe σ vs → Q σ2 H2) → g x (wipe σ vs) H (fun σ2 H2 => wipe σ2 vs = wipe σ vs ∧ Q σ2 H2))
    (h : GoI L O wi fun xs O1 => ∃ J : Nat → List As → OO → Prop, J 0 [] O1 ∧
      (∀ i A acc O' T, xs[i]? = some A → J i acc O' → GoG (wipeL L vs) A g fun L2 => GoT L2 (O' ++ T) tt fun b O2 => if b = true then Go L2 O2 te fun B O3 => ∃ O4, O3 = O4 ++ T ∧ acc.length < 100000 ∧ J (i + 1) (acc ++ [B]) O4 else ∃ O4, O2 = O4 ++ T ∧ J (i + 1) acc O4) ∧
      ∀ acc O', J xs.length acc O' → k (Sy.lst K acc) O') : Go L O (tLc wi g tt te vs) k := fun E G0 H0 σ G H Q f s z =>
  h _ _ _ _ _ _ _ f s fun xs O1 G1 H1 It q f1 s1 ok D nD => by
    obtain ⟨J, j0, js, jd⟩ := q
    obtain ⟨Gp, Y, w, gp, yy⟩ := ok
    have fo : Fr E G0 H0 (O1 ++ [(D, .ol [])]) G1 (upd H1 D (.lst [])) := f1.own nD ⟨[], upd_same, .nil⟩
    refine lc_it w (fun i H' => ∃ acc O' G', J i acc O' ∧ Fr E G0 H0 (O' ++ [(D, .ol acc)]) G' H' ∧ Same G1 G') ⟨[], O1, G1, j0, fo, Same.refl _⟩ (fun i H' _ ⟨acc, O', G', _, f', s'⟩ => gp _ (s'.trans f'.gh)) (fun i x H' H'' hi ⟨acc, O', G', j', f', s'⟩ y => ?_) (fun H' ⟨acc, O', G', j', f', s'⟩ => ?_)
    · obtain ⟨A, G2, hA, ex, a⟩ := yy i H' x H'' hi y G' s' f'.gh
      have f2 := f'.ext ex
      refine hg _ _ _ _ (js i A acc O' [(D, .ol acc)] hA j' _ _ _ _ _ f2.gh ((s.m (s1.trans (s'.trans ex.g))).wipe vs) a fun L2 σ2 q2 s2 hw => ?_)
      refine q2 _ _ _ _ _ _ _ f2 s2 fun b O3 G3 H3 hb f3 s3 => ?_
      cases b with
      | true =>
        rw [if_pos rfl] at hb
        refine ifT rfl (hb _ _ _ _ _ _ _ f3 (s2.m s3) fun B O4 G4 H4 v q4 f4 s4 bb => ?_)
        obtain ⟨O5, rfl, hl, j5⟩ := q4
        obtain ⟨w1, w2, us, hu, au⟩ := f4.ow (D, .ol acc) (by simp)
        refine ⟨us, hu, by rw [au.len]; exact szlt (by omega), acc ++ [B], O5, G4, j5, Fr.change (post := []) f4 (fun z => z) ⟨us ++ [v], upd_same, au.snoc bb⟩, ((s'.trans ex.g).trans s3).trans s4⟩
      | false =>
        rw [if_neg Bool.false_ne_true] at hb
        obtain ⟨O5, rfl, j5⟩ := hb
        exact ifF rfl ⟨acc, O5, G3, j5, f3, (s'.trans ex.g).trans s3⟩
    · obtain ⟨w1, w2, us, hu, au⟩ := f'.ow (D, .ol acc) (by simp)
      obtain ⟨fz, sz⟩ := Fr.freeze (post := []) f' rfl hu
      rw [List.append_nil] at fz
      exact z _ _ _ _ _ (jd _ _ j') fz (s1.trans (s'.trans sz)) ⟨D, us, rfl, upd_same, au.m sz⟩
theorem hg1 {j : Nat} (x : V) (σ : L2.St) (H : Hp) (Q : L2.St → Hp → Prop) : gName j x (wipe σ [j]) H (fun σ2 H2 => wipe σ2 [j] = wipe σ [j] → Q σ2 H2) → gName j x (wipe σ [j]) H (fun σ2 H2 => wipe σ2 [j] = wipe σ [j] ∧ Q σ2 H2) := fun q => by
  have e : wipe ((wipe σ [j]).set j (some x)) [j] = wipe σ [j] := by simp [wipe]
  exact ⟨e, q e⟩
end
end Sy
/-! ### defs by their bodies; values -/
namespace Sy
open PySem PySem.Spec PyProof.Rows L2
open SX (S S_len S_cat S_inj)
section
variable {P : Program} {w : World} {K : PySem.W.Frag} {mg : Str → Option Value} {base : Heap}
def eR (p : As → OO → Prop) : Es := ⟨fun _ O' => p no O', p, fun _ _ => False, fun _ _ => False⟩
def startL (N : List Str) (l : List As) : LL := l.map some ++ List.replicate (N.length - l.length) none
theorem fn_sy {α : Type} {pre : α → Prop} {as : α → List As} {oin : α → OO} {post : α → As → OO → Prop} {x qual : Str} {st : Stmt} {f : Addr} {fd : FuncData} {N ps : List Str} {k : Nat} (F : Fun K x qual st f fd) (S : FnScope N ps (defScope st)) (len : ∀ a, pre a → (as a).length = ps.length)
    (body : ∀ (a : α) (cdv : Value) (A : Around) (outer : List Env) (s : Shared) (H : Hp) (E : XK), Room k (A.deeper (envOfC qual (defScope st) s.heap.objs.size f cdv)) → pre a →
      ∃ t, PSs (cxOf CX0 P w K mg base N qual (defScope st) f cdv A outer s H E).nox (defBody st) t ∧ GoS (startL N (as a)) (oin a) t (eR (post a))) :
    FnOk P w K mg base CX0 (k + 1) f fd ps (SpG pre as oin post) := by
  refine F.ok S (fun vs H Q E h => ?_) (fun cdv A outer s H vs Q E hr h => ?_)
  · obtain ⟨a, G, h1, h2, _⟩ := h
    rw [h2.len, len a h1]
  · obtain ⟨a, G, h1, h2, h3, h4⟩ := h
    obtain ⟨t, ht, hg⟩ := body a cdv A outer s H E hr h1
    refine ⟨t, ht, hg _ _ _ _ _ _ _ h3 ?_ ⟨fun L O σ G' H' q f z s => h4 _ _ _ _ _ q f rfl, fun A O G' H' v q f z a => h4 _ _ _ _ _ q f a, fun _ _ _ _ _ q => q.elim, fun _ _ _ _ _ q => q.elim⟩⟩
    have e : L2.start N vs = vs.map some ++ List.replicate (N.length - (as a).length) none := by
      unfold L2.start
      rw [h2.len]
    rw [e]
    exact Slots.start _ h2
end
section
variable {K : PySem.W.Frag} {O : OO} {k : As → OO → Prop}
/-- an operation on two plain values -/
theorem V2.sc {r : R2} {x y z : V} (h : ∀ (H : Hp) (Q : VK), Q z H → r x y H Q) (q : k (cst z) O) : V2 O r (cst x) (cst y) k := fun E G0 H0 G H Q x' y' f a b zz => by
  obtain rfl : x' = x := a
  obtain rfl : y' = y := b
  exact h H Q (zz _ _ _ _ _ q f (Same.refl _) rfl)
theorem V1.sc {r : V → Hp → VK → Prop} {x z : V} (h : ∀ (H : Hp) (Q : VK), Q z H → r x H Q) (q : k (cst z) O) : V1 O r (cst x) k := fun E G0 H0 G H Q x' f a zz => by
  obtain rfl : x' = x := a
  exact h H Q (zz _ _ _ _ _ q f (Same.refl _) rfl)
theorem Vn.sc1 {r : List V → Hp → VK → Prop} {x z : V} (h : ∀ (H : Hp) (Q : VK), Q z H → r [x] H Q) (q : k (cst z) O) : Vn O r [cst x] k := fun E G0 H0 G H Q xs f a zz => by
  cases a with
  | cons a r' =>
    cases r'
    obtain rfl := (show _ = x from a)
    exact h H Q (zz _ _ _ _ _ q f (Same.refl _) rfl)
theorem Vn.sc2 {r : List V → Hp → VK → Prop} {x y z : V} (h : ∀ (H : Hp) (Q : VK), Q z H → r [x, y] H Q) (q : k (cst z) O) : Vn O r [cst x, cst y] k := fun E G0 H0 G H Q xs f a zz => by
  cases a with
  | cons a r' =>
    cases r' with
    | cons b r' =>
      cases r'
      obtain rfl := (show _ = x from a)
      obtain rfl := (show _ = y from b)
      exact h H Q (zz _ _ _ _ _ q f (Same.refl _) rfl)
theorem Vm.sc0 {r : V → List V → Hp → VK → Prop} {x z : V} (h : ∀ (H : Hp) (Q : VK), Q z H → r x [] H Q) (q : k (cst z) O) : Vm O r (cst x) [] k := fun E G0 H0 G H Q x' xs f a b zz => by
  cases b
  obtain rfl : x' = x := a
  exact h H Q (zz _ _ _ _ _ q f (Same.refl _) rfl)
theorem Vm.sc1 {r : V → List V → Hp → VK → Prop} {x y z : V} (h : ∀ (H : Hp) (Q : VK), Q z H → r x [y] H Q) (q : k (cst z) O) : Vm O r (cst x) [cst y] k := fun E G0 H0 G H Q x' xs f a b zz => by
  cases b with
  | cons b r' =>
    cases r'
    obtain rfl : x' = x := a
    obtain rfl := (show _ = y from b)
    exact h H Q (zz _ _ _ _ _ q f (Same.refl _) rfl)
theorem Vs.sc {r : V → Option Int → Option Int → Hp → VK → Prop} {x z : V} {lo hi : Option Int} (h : ∀ (H : Hp) (Q : VK), Q z H → r x lo hi H Q) (q : k (cst z) O) : Vs O r (cst x) lo hi k := fun E G0 H0 G H Q x' f a zz => by
  obtain rfl : x' = x := a
  exact h H Q (zz _ _ _ _ _ q f (Same.refl _) rfl)
/-! numbers -/
theorem v_add {i j : Int} {g : Int → Int → V} (q : k (cst (g i j)) O) : V2 O (rI0 g) (it i) (it j) k := V2.sc (fun _ _ q => ⟨_, _, rfl, rfl, q⟩) q
theorem v_addI {i j : Int} (q : k (it (i + j)) O) : V2 O rAdd (it i) (it j) k := V2.sc (fun _ _ q => ⟨_, _, rfl, rfl, q⟩) q
theorem v_subI {i j : Int} (q : k (it (i - j)) O) : V2 O rSub (it i) (it j) k := V2.sc (fun _ _ q => ⟨_, _, rfl, rfl, q⟩) q
theorem v_rI {i j : Int} {C : Int → Int → Prop} {g : Int → Int → V} (c : C i j) (q : k (cst (g i j)) O) : V2 O (rI C g) (it i) (it j) k := V2.sc (fun _ _ q => ⟨_, _, rfl, rfl, c, q⟩) q
theorem v_rU {i : Int} {g : Int → V} (q : k (cst (g i)) O) : V1 O (rU g) (it i) k := V1.sc (fun _ _ q => ⟨_, rfl, q⟩) q
theorem v_mod {i j : Int} (h : j ≠ 0) (q : k (it (i.fmod j)) O) : V2 O (rI (fun _ j => j ≠ 0) fun i j => .int (i.fmod j)) (it i) (it j) k := v_rI h q
theorem v_fdiv {i j : Int} (h : j ≠ 0 ∧ j.natAbs < 1073741824) (q : k (it (i.fdiv j)) O) : V2 O (rI CDivN fun i j => .int (i.fdiv j)) (it i) (it j) k := v_rI h q
theorem v_fdivW {i j : Int} (h : 0 < j ∧ j < 1000000000000) (q : k (it (i / j)) O) : V2 O (rI CDivW fun i j => .int (i / j)) (it i) (it j) k := v_rI ⟨h.1, Nat.lt_of_lt_of_le ((Nat.log2_lt (show j.natAbs ≠ 0 by omega)).mpr (Nat.lt_of_lt_of_le (show j.natAbs < 2 ^ 40 by omega) (Nat.pow_le_pow_right (by decide) (show 40 ≤ 9000 by decide)))) (Nat.le_refl _)⟩ q
theorem v_mul {i j : Int} {C : Int → Int → Prop} (h : C i j) (q : k (it (i * j)) O) : V2 O (rI C fun i j => .int (i * j)) (it i) (it j) k := v_rI h q
theorem v_lt {i j : Int} (q : k (bo (decide (i < j))) O) : V2 O (rI0 fun i j => .bl (decide (i < j))) (it i) (it j) k := v_add q
theorem v_le {i j : Int} (q : k (bo (decide (i ≤ j))) O) : V2 O (rI0 fun i j => .bl (decide (i ≤ j))) (it i) (it j) k := v_add q
theorem v_gt {i j : Int} (q : k (bo (decide (j < i))) O) : V2 O (rI0 fun i j => .bl (decide (j < i))) (it i) (it j) k := v_add q
theorem v_ge {i j : Int} (q : k (bo (decide (j ≤ i))) O) : V2 O (rI0 fun i j => .bl (decide (j ≤ i))) (it i) (it j) k := v_add q
/-! equality of plain values -/
theorem v_eqI {i j : Int} (q : k (bo (decide (i = j))) O) : V2 O rEq (it i) (it j) k := V2.sc (z := .bl (decide (i = j))) (fun _ _ q => ⟨rfl, by rw [dI]; exact q⟩) q
theorem v_neI {i j : Int} (q : k (bo (!decide (i = j))) O) : V2 O rNe (it i) (it j) k := V2.sc (z := .bl (!decide (i = j))) (fun _ _ q => ⟨rfl, by rw [dI]; exact q⟩) q
theorem v_eqS {a b : List Nat} (q : k (bo (decide (a = b))) O) : V2 O rEq (tx a) (tx b) k := V2.sc (z := .bl (decide (a = b))) (fun _ _ q => ⟨rfl, by rw [dS]; exact q⟩) q
theorem v_neS {a b : List Nat} (q : k (bo (!decide (a = b))) O) : V2 O rNe (tx a) (tx b) k := V2.sc (z := .bl (!decide (a = b))) (fun _ _ q => ⟨rfl, by rw [dS]; exact q⟩) q
theorem v_eqB {a b : Bool} (q : k (bo (a == b)) O) : V2 O rEq (bo a) (bo b) k := V2.sc (z := .bl (a == b)) (fun _ _ q => ⟨rfl, by rw [dB]; exact q⟩) q
theorem v_neB {a b : Bool} (q : k (bo (!(a == b))) O) : V2 O rNe (bo a) (bo b) k := V2.sc (z := .bl (!(a == b))) (fun _ _ q => ⟨rfl, by rw [dB]; exact q⟩) q
theorem v_isN {x : V} (q : k (bo (decide (x = .non))) O) : V2 O (fun x y H Q => y = V.non ∧ Q (V.bl (decide (x = V.non))) H) (cst x) (cst .non) k := V2.sc (fun _ _ q => ⟨rfl, q⟩) q
theorem v_notN {x : V} (q : k (bo (!decide (x = .non))) O) : V2 O (fun x y H Q => y = V.non ∧ Q (V.bl (!decide (x = V.non))) H) (cst x) (cst .non) k := V2.sc (fun _ _ q => ⟨rfl, q⟩) q
/-! texts -/
theorem v_catS {a b : List Nat} (h : a.length + b.length ≤ 100000) (q : k (tx (a ++ b)) O) : V2 O (fun x y H Q => ∃ i j, x = .str i ∧ y = .str j ∧ i.length + j.length ≤ sizeLine ∧ Q (.str (i ++ j)) H) (tx a) (tx b) k :=
  V2.sc (z := .str (S (a ++ b))) (fun _ _ q => ⟨_, _, rfl, rfl, szadd h, by rw [S_cat]; exact q⟩) q
theorem v_lenS {a : List Nat} (h : a.length ≤ 100000) (q : k (it (a.length : Int)) O) : Vn O (fun xs H Q => ∃ z, xs = [.str z] ∧ z.length ≤ sizeLine ∧ Q (.int z.length) H) [tx a] k :=
  Vn.sc1 (z := .int (a.length : Int)) (fun _ _ q => ⟨_, rfl, szS h, by rw [S_len]; exact q⟩) q
theorem v_inC {c : Nat} {l : List Nat} (q : k (bo (decide (c ∈ l))) O) : V2 O (fun x y H Q => ∃ (c : Nat) (z : Str), x = .str ⟨#[c]⟩ ∧ y = .str z ∧ Q (.bl (decide (c ∈ z.cps.toList))) H) (tx [c]) (tx l) k := V2.sc (fun _ _ q => ⟨_, _, rfl, rfl, q⟩) q
theorem v_niC {c : Nat} {l : List Nat} (q : k (bo (!decide (c ∈ l))) O) : V2 O (fun x y H Q => ∃ (c : Nat) (z : Str), x = .str ⟨#[c]⟩ ∧ y = .str z ∧ Q (.bl (!decide (c ∈ z.cps.toList))) H) (tx [c]) (tx l) k := V2.sc (fun _ _ q => ⟨_, _, rfl, rfl, q⟩) q
theorem v_ixS {a : List Nat} {i : Int} {c : Nat} (h : a.length ≤ 100000) (hc : atI a i = some c) (q : k (tx [c]) O) : V2 O rIxS (tx a) (it i) k := V2.sc (z := .str (S [c])) (fun _ _ q => ⟨_, _, c, rfl, rfl, szS h, hc, q⟩) q
theorem v_slS {a : List Nat} {lo hi : Option Int} (h : a.length ≤ 100000) (q : k (tx (cut a lo hi)) O) : Vs O rSlS (tx a) lo hi k := Vs.sc (z := .str (S (cut a lo hi))) (fun _ _ q => ⟨_, rfl, szS h, by rw [cutS_S]; exact q⟩) q
theorem v_startsw {a b : List Nat} (q : k (bo (b.isPrefixOf a)) O) : Vm O (fun x xs H Q => ∃ a b, x = .str a ∧ xs = [.str b] ∧ Q (.bl (Txt.startswith a b)) H) (tx a) [tx b] k := Vm.sc1 (z := .bl (b.isPrefixOf a)) (fun _ _ q => ⟨_, _, rfl, rfl, by rw [startswith_S]; exact q⟩) q
theorem v_endsw {a b : List Nat} (q : k (bo (b.isSuffixOf a)) O) : Vm O (fun x xs H Q => ∃ a b, x = .str a ∧ xs = [.str b] ∧ Q (.bl (Txt.endswith a b)) H) (tx a) [tx b] k := Vm.sc1 (z := .bl (b.isSuffixOf a)) (fun _ _ q => ⟨_, _, rfl, rfl, by rw [endswith_S]; exact q⟩) q
theorem v_count1 {a : List Nat} {c : Nat} (q : k (it ((parts c a).length - 1 : Int)) O) : Vm O (fun x xs H Q => ∃ a b, x = .str a ∧ xs = [.str b] ∧ Q (.int (Txt.count a b)) H) (tx a) [tx [c]] k := Vm.sc1 (z := .int ((parts c a).length - 1 : Int)) (fun _ _ q => ⟨_, _, rfl, rfl, by rw [count_S]; exact q⟩) q
theorem v_intS {a : List Nat} {n : Int} (h : PySem.intText? (S a) = some n) (hl : a.length ≤ 640) (q : k (it n) O) : Vn O (fun xs H Q => ∃ a n, xs = [.str a] ∧ PySem.intText? a = some n ∧ a.length ≤ 640 ∧ Q (.int n) H) [tx a] k := Vn.sc1 (fun _ _ q => ⟨_, _, rfl, h, by rw [S_len]; exact hl, q⟩) q
theorem v_intI {i : Int} (q : k (it i) O) : Vn O (fun xs H Q => (∃ i, xs = [.int i] ∧ Q (.int i) H) ∨ ∃ k, xs = [.bl k] ∧ Q (.int (if k then 1 else 0)) H) [it i] k := Vn.sc1 (fun _ _ q => .inl ⟨_, rfl, q⟩) q
theorem v_intB {b : Bool} (q : k (it (if b then 1 else 0)) O) : Vn O (fun xs H Q => (∃ i, xs = [.int i] ∧ Q (.int i) H) ∨ ∃ k, xs = [.bl k] ∧ Q (.int (if k then 1 else 0)) H) [bo b] k := Vn.sc1 (fun _ _ q => .inr ⟨_, rfl, q⟩) q
def numS (i : Int) : List Nat := (toString i : Str).cps.toList
theorem v_strI {i : Int} (h : i.natAbs.log2 < 1920) (q : k (tx (numS i)) O) : Vn O (fun xs H Q => ∃ i, xs = [.int i] ∧ i.natAbs.log2 < 1920 ∧ Q (.str (toString i)) H) [it i] k := Vn.sc1 (z := .str (S (numS i))) (fun _ _ q => ⟨_, rfl, h, by
  have e : S (numS i) = (toString i : Str) := by simp [S, numS]
  rw [← e]
  exact q⟩) q
theorem v_max2 {i j : Int} (q : k (it (if j > i then j else i)) O) : Vn O (fun xs H Q => ∃ i j, xs = [.int i, .int j] ∧ Q (.int (if j > i then j else i)) H) [it i, it j] k := Vn.sc2 (fun _ _ q => ⟨_, _, rfl, q⟩) q
theorem v_min2 {i j : Int} (q : k (it (if j < i then j else i)) O) : Vn O (fun xs H Q => ∃ i j, xs = [.int i, .int j] ∧ Q (.int (if j < i then j else i)) H) [it i, it j] k := Vn.sc2 (fun _ _ q => ⟨_, _, rfl, q⟩) q
/-! new lists of texts -/
theorem new_strs {E : List Addr} {G0 H0 G H : Hp} {Q : VK} {ys : List (List Nat)} {zs : List Str} (f : Fr E G0 H0 O G H) (zz : Post E G0 H0 G k Q) (e : zs.map V.str = ys.map vS) (q : k (lst K (ys.map tx)) O) : rNewStrs zs H Q := fun p np => by
  rw [e]
  have ex := Ext.new (o := .lst (ys.map vS)) f.gh np
  exact zz _ _ _ _ _ q (f.ext ex) ex.g ⟨p, _, rfl, upd_same, All2.map.mpr rfl⟩
theorem v_split {a : List Nat} {c : Nat} (hc : c < 256) (h : a.length ≤ 99998) (q : k (lst K ((parts c a).map tx)) O) :
    Vm O (fun x xs H Q => ∃ a b, x = .str a ∧ xs = [.str b] ∧ (b.length == 0) = false ∧ a.length + 2 ≤ sizeLine ∧ rNewStrs (Txt.split a b) H Q) (tx a) [tx [c]] k := fun E G0 H0 G H Q x xs f a' b zz => by
  cases b with
  | cons b r =>
    cases r
    obtain rfl : x = .str (S a) := a'
    obtain rfl := (show _ = V.str (S [c]) from b)
    exact ⟨_, _, rfl, rfl, rfl, by rw [S_len]; exact sz (by omega), new_strs f zz (split_S hc a) q⟩
theorem All2.strs {G : Hp} {ws : List (List Nat)} {vs : List V} (h : All2 G (ws.map tx) vs) : vs = (ws.map S).map V.str := by
  rw [All2.map.mp h, List.map_map]
  rfl
theorem v_join {a : List Nat} {ws : List (List Nat)} (h : (ws.map (·.length)).sum + ws.length * a.length ≤ 1000000) (q : k (tx (TL.joinL a ws)) O) : Vm O (rJoinQ K) (tx a) [lst K (ws.map tx)] k := fun E G0 H0 G H Q x xs f a' b zz => by
  cases b with
  | cons b r =>
    cases r
    obtain rfl : x = .str (S a) := a'
    obtain ⟨p, vs, rfl, h1, h2⟩ := b
    have e := h2.strs
    subst e
    refine ⟨S a, p, ws.map S, rfl, rfl, .inl (SqL.of (f.gh _ _ h1)), ?_, by rw [join_S]; exact zz _ _ _ _ _ q f (Same.refl _) rfl⟩
    rw [List.map_map, List.length_map, S_len, show ((fun x : Str => x.length) ∘ S : List Nat → Nat) = (·.length) from funext S_len]
    omega
/-! lists and tuples -/
theorem v_lenL {xs : List As} (q : k (it (xs.length : Int)) O) : Vn O (rLenQ K) [lst K xs] k := fun E G0 H0 G H Q vs f a zz => by
  cases a with
  | cons a r =>
    cases r
    obtain ⟨p, ws, rfl, h1, h2⟩ := a
    exact ⟨p, ws, rfl, .inl (SqL.of (f.gh _ _ h1)), by rw [h2.len]; exact zz _ _ _ _ _ q f (Same.refl _) rfl⟩
theorem v_lenT {xs : List As} (q : k (it (xs.length : Int)) O) : Vn O (rLenQ K) [tup K xs] k := fun E G0 H0 G H Q vs f a zz => by
  cases a with
  | cons a r =>
    cases r
    obtain ⟨p, ws, rfl, h1, h2⟩ := a
    exact ⟨p, ws, rfl, .inr (SqT.mono f.gh h1), by rw [h2.len]; exact zz _ _ _ _ _ q f (Same.refl _) rfl⟩
theorem at2 {G : Hp} {l : List As} {vs : List V} {i : Int} {A : As} (h : All2 G l vs) (e : atI l i = some A) : ∃ v, atI vs i = some v ∧ A.p G v := by
  unfold atI at e ⊢
  rw [h.len]
  cases hj : ixN l.length i with
  | none => rw [hj] at e; cases e
  | some j =>
    rw [hj] at e
    exact h.at (i := j) e
theorem v_ixL {xs : List As} {i : Int} {A : As} (h : atI xs i = some A) (q : k A O) : V2 O (rIxL K) (lst K xs) (it i) k := fun E G0 H0 G H Q x y f a b zz => by
  obtain ⟨p, ws, rfl, h1, h2⟩ := a
  obtain ⟨v, e, av⟩ := at2 h2 h
  exact ⟨p, ws, i, v, rfl, b, SqL.of (f.gh _ _ h1), e, zz _ _ _ _ _ q f (Same.refl _) av⟩
theorem v_ixT {xs : List As} {i : Int} {A : As} (h : atI xs i = some A) (q : k A O) : V2 O (rIxT K) (tup K xs) (it i) k := fun E G0 H0 G H Q x y f a b zz => by
  obtain ⟨p, ws, rfl, h1, h2⟩ := a
  obtain ⟨v, e, av⟩ := at2 h2 h
  exact ⟨p, ws, i, v, rfl, b, SqT.mono f.gh h1, e, zz _ _ _ _ _ q f (Same.refl _) av⟩
theorem All2.cut {G : Hp} {l : List As} {vs : List V} (h : All2 G l vs) (lo hi : Option Int) : All2 G (Cj.cut l lo hi) (cutV vs lo hi) := by
  unfold Cj.cut cutV
  rw [h.len]
  exact (h.drop _).take _
theorem v_slL {xs : List As} {lo hi : Option Int} (q : k (lst K (cut xs lo hi)) O) : Vs O (rSlL K) (lst K xs) lo hi k := fun E G0 H0 G H Q x f a zz => by
  obtain ⟨p, ws, rfl, h1, h2⟩ := a
  refine ⟨p, ws, rfl, SqL.of (f.gh _ _ h1), fun D nD => ?_⟩
  have ex := Ext.new (o := .lst (cutV ws lo hi)) f.gh nD
  exact zz _ _ _ _ _ q (f.ext ex) ex.g ⟨D, _, rfl, upd_same, (h2.cut lo hi).m ex.g⟩
theorem map_cst {α β : Type} {f : α → β} {g : β → V} (l : List α) : l.map (fun x => cst (g (f x))) = (l.map f).map fun y => cst (g y) := by rw [List.map_map]; rfl
theorem v_sum0 {ns : List Int} (q : k (it ns.sum) O) : Vn O (rSum K) [lst K (ns.map it)] k := fun E G0 H0 G H Q vs f a zz => by
  cases a with
  | cons a r =>
    cases r
    obtain ⟨p, ws, rfl, h1, h2⟩ := a
    obtain rfl := All2.map.mp h2
    exact ⟨p, ns, rfl, SqL.of (f.gh _ _ h1), zz _ _ _ _ _ q f (Same.refl _) rfl⟩
theorem v_sum {α : Type} {l : List α} {f : α → Int} (q : k (it (l.map f).sum) O) : Vn O (rSum K) [lst K (l.map fun x => it (f x))] k := by rw [map_cst (g := V.int)]; exact v_sum0 q
theorem v_all0 {bs : List Bool} (q : k (bo (bs.all id)) O) : Vn O (rAll K) [lst K (bs.map bo)] k := fun E G0 H0 G H Q vs f a zz => by
  cases a with
  | cons a r =>
    cases r
    obtain ⟨p, ws, rfl, h1, h2⟩ := a
    obtain rfl := All2.map.mp h2
    exact ⟨p, bs, rfl, SqL.of (f.gh _ _ h1), zz _ _ _ _ _ q f (Same.refl _) rfl⟩
theorem v_any0 {bs : List Bool} (q : k (bo (bs.any id)) O) : Vn O (rAny K) [lst K (bs.map bo)] k := fun E G0 H0 G H Q vs f a zz => by
  cases a with
  | cons a r =>
    cases r
    obtain ⟨p, ws, rfl, h1, h2⟩ := a
    obtain rfl := All2.map.mp h2
    exact ⟨p, bs, rfl, SqL.of (f.gh _ _ h1), zz _ _ _ _ _ q f (Same.refl _) rfl⟩
theorem v_all {α : Type} {l : List α} {f : α → Bool} (q : k (bo (l.all f)) O) : Vn O (rAll K) [lst K (l.map fun x => bo (f x))] k := by
  rw [map_cst (g := V.bl)]
  refine v_all0 ?_
  rw [List.all_map]
  exact q
theorem v_any {α : Type} {l : List α} {f : α → Bool} (q : k (bo (l.any f)) O) : Vn O (rAny K) [lst K (l.map fun x => bo (f x))] k := by
  rw [map_cst (g := V.bl)]
  refine v_any0 ?_
  rw [List.any_map]
  exact q
theorem v_joinF {α : Type} {l : List α} {f : α → List Nat} {a : List Nat} (h : ((l.map f).map (·.length)).sum + l.length * a.length ≤ 1000000) (q : k (tx (TL.joinL a (l.map f))) O) : Vm O (rJoinQ K) (tx a) [lst K (l.map fun x => tx (f x))] k := by
  rw [map_cst (g := fun z => V.str (S z))]
  exact v_join (by rw [List.length_map]; exact h) q
theorem v_joinE {α : Type} {l : List α} {f : α → List Nat} (h : ((l.map f).map (·.length)).sum ≤ 1000000) (q : k (tx (l.map f).flatten) O) : Vm O (rJoinQ K) (tx []) [lst K (l.map fun x => tx (f x))] k := by
  refine v_joinF (by rw [List.length_nil, Nat.mul_zero]; exact h) ?_
  have e : ∀ ws : List (List Nat), TL.joinL [] ws = ws.flatten := fun ws => by
    induction ws with
    | nil => rfl
    | cons w r ih =>
      cases r with
      | nil => simp [TL.joinL]
      | cons v r => simp [TL.joinL] at ih ⊢; exact ih
  rw [e]
  exact q
/-! truth -/
theorem ty_s {l : List Nat} : TyA K "str" (tx l) O := fun _ _ _ _ _ x _ a => by rw [show x = _ from a]; rfl
theorem ty_l {xs : List As} : TyA K "list" (lst K xs) O := fun _ _ _ _ _ x f a => by
  obtain ⟨p, ws, rfl, h1, h2⟩ := a
  exact .inl ⟨rfl, ws, SqL.of (f.gh _ _ h1)⟩
end
end Sy
namespace Sy
open PySem PySem.Spec PyProof.Rows L2
section
variable {K : PySem.W.Frag} {L : LL} {O : OO} {k : As → OO → Prop}
theorem All2.csts {G : Hp} : ∀ vs : List V, All2 G (vs.map cst) vs
  | [] => .nil
  | _ :: r => .cons rfl (All2.csts r)
/-- a written text -/
theorem Go.cS {z : Str} {l : List Nat} (h : z = SX.S l) (q : k (tx l) O) : Go L O (tC (.str z)) k := by rw [h]; exact Go.c q
/-- a written tuple -/
theorem Go.cW {a : Addr} {vs : List V} (h : ∀ H, SqT K H a vs) (q : k (Sy.tup K (vs.map cst)) O) : Go L O (tC (.ref a)) k := fun E G0 H0 σ G H Q f s z => z _ _ _ _ _ q f (Same.refl _) ⟨a, vs, rfl, h _, All2.csts vs⟩
end
end Sy
/-! ### rules for the stepping -/
namespace Sy
open PySem PySem.Spec PyProof.Rows L2
open SX (S S_len S_cat S_inj)
section
variable {K : PySem.W.Frag} {L : LL} {O : OO} {k : As → OO → Prop} {ta tb tc te : TE} {t : TA} {kb : Bool → OO → Prop} {tt uu : TT}
theorem fin_P {α : Type} {r : α → As} {a : α} {A : As} (h : A = r a) : (eR fun A O' => A = r a ∧ O' = []).rt A [] := ⟨h, rfl⟩
theorem Go.callP2 {α β : Type} {pre : α × β → Prop} {as : α × β → List As} {r : α × β → As} {X : XK}
    (h : GoA L O t fun l O1 => ∃ a b, l = as (a, b) ∧ pre (a, b) ∧ k (r (a, b)) O1) : Go L O (tCall (SpP pre as r) [] X t) k := Go.callP fun E G0 H0 σ G H Q f s z => h _ _ _ _ _ _ _ f s fun l O' G' H' vs q => z _ _ _ _ _ (by
    obtain ⟨a, b, h1, h2, h3⟩ := q
    exact ⟨(a, b), h1, h2, h3⟩)
theorem Go.callP3 {α β γ : Type} {pre : α × β × γ → Prop} {as : α × β × γ → List As} {r : α × β × γ → As} {X : XK}
    (h : GoA L O t fun l O1 => ∃ a b c, l = as (a, b, c) ∧ pre (a, b, c) ∧ k (r (a, b, c)) O1) : Go L O (tCall (SpP pre as r) [] X t) k := Go.callP fun E G0 H0 σ G H Q f s z => h _ _ _ _ _ _ _ f s fun l O' G' H' vs q => z _ _ _ _ _ (by
    obtain ⟨a, b, c, h1, h2, h3⟩ := q
    exact ⟨(a, b, c), h1, h2, h3⟩)
theorem Go.callP0 {pre : Unit → Prop} {as : Unit → List As} {r : Unit → As} {X : XK}
    (h : GoA L O t fun l O1 => l = as () ∧ pre () ∧ k (r ()) O1) : Go L O (tCall (SpP pre as r) [] X t) k := Go.callP fun E G0 H0 σ G H Q f s z => h _ _ _ _ _ _ _ f s fun l O' G' H' vs q => z _ _ _ _ _ ⟨(), q.1, q.2.1, q.2.2⟩
/-- pure tests, not split -/
theorem GoT.andJ {p q : Bool} (h1 : GoT L O tt fun b O1 => b = p ∧ O1 = O) (h2 : p = true → GoT L O uu fun b O1 => b = q ∧ O1 = O) (h : kb (p && q) O) : GoT L O (tAnd tt uu) kb := GoT.and (h1.imp fun b O1 e => by
  obtain ⟨rfl, rfl⟩ := e
  refine ⟨fun hb => (h2 hb).imp fun b' O2 e2 => ?_, fun hb => ?_⟩
  · obtain ⟨rfl, rfl⟩ := e2
    rw [hb, Bool.true_and] at h
    exact h
  · rw [hb, Bool.false_and] at h
    exact h)
theorem GoT.orJ {p q : Bool} (h1 : GoT L O tt fun b O1 => b = p ∧ O1 = O) (h2 : p = false → GoT L O uu fun b O1 => b = q ∧ O1 = O) (h : kb (p || q) O) : GoT L O (tOr tt uu) kb := GoT.or (h1.imp fun b O1 e => by
  obtain ⟨rfl, rfl⟩ := e
  refine ⟨fun hb => ?_, fun hb => (h2 hb).imp fun b' O2 e2 => ?_⟩
  · rw [hb, Bool.true_or] at h
    exact h
  · obtain ⟨rfl, rfl⟩ := e2
    rw [hb, Bool.false_or] at h
    exact h)
theorem Go.andVJ {p q : Bool} (h1 : Go L O ta fun A O1 => A = bo p ∧ O1 = O) (h2 : p = true → Go L O tb fun A O1 => A = bo q ∧ O1 = O) (h : k (bo (p && q)) O) : Go L O (tAndV ta tb) k := Go.andV (h1.imp fun b O1 e => by
  obtain ⟨rfl, rfl⟩ := e
  refine ⟨p, rfl, fun hb => (h2 hb).imp fun b' O2 e2 => ?_, fun hb => ?_⟩
  · obtain ⟨rfl, rfl⟩ := e2
    rw [hb, Bool.true_and] at h
    exact h
  · rw [hb, Bool.false_and] at h
    exact h)
theorem Go.orVJ {p q : Bool} (h1 : Go L O ta fun A O1 => A = bo p ∧ O1 = O) (h2 : p = false → Go L O tb fun A O1 => A = bo q ∧ O1 = O) (h : k (bo (p || q)) O) : Go L O (tOrV ta tb) k := Go.orV (h1.imp fun b O1 e => by
  obtain ⟨rfl, rfl⟩ := e
  refine ⟨p, rfl, fun hb => ?_, fun hb => (h2 hb).imp fun b' O2 e2 => ?_⟩
  · rw [hb, Bool.true_or] at h
    exact h
  · obtain ⟨rfl, rfl⟩ := e2
    rw [hb, Bool.false_or] at h
    exact h)
theorem Go.chainJ {r r' : R2} {p q : Bool} {B : As} (h : Go L O ta fun A O1 => Go L O1 tb fun B' O2 => V2 O2 r A B' fun C O3 => C = bo p ∧ O3 = O ∧ B' = B) (h2 : p = true → Go L O tc fun D O4 => V2 O4 r' B D fun C O5 => C = bo q ∧ O5 = O) (hk : k (bo (p && q)) O) : Go L O (tChain r r' ta tb tc) k :=
  Go.chain fun E G0 H0 σ G H Q f s z => h _ _ _ _ _ _ _ f s fun A O1 G1 H1 x hx f1 s1 a => z _ _ _ _ _ (fun E G0 H0 σ G H Q f s z => hx _ _ _ _ _ _ _ f s fun B' O2 G2 H2 y hy f2 s2 b => z _ _ _ _ _ (fun E G0 H0 G H Q x y f a b z => hy _ _ _ _ _ _ _ _ f a b fun C O3 G3 H3 v hv f3 s3 c => z _ _ _ _ _ (by
    obtain ⟨rfl, rfl, rfl⟩ := hv
    refine ⟨p, rfl, fun hb => (h2 hb).imp fun D O4 hD => fun E G0 H0 G H Q x y f a b z => hD _ _ _ _ _ _ _ _ f a b fun C O5 G5 H5 v hv f5 s5 c => z _ _ _ _ _ (by
      obtain ⟨rfl, rfl⟩ := hv
      rw [hb, Bool.true_and] at hk
      exact hk) f5 s5 c, fun hb => ?_⟩
    rw [hb, Bool.false_and] at hk
    exact hk) f3 s3 c) f2 s2 b) f1 s1 a
/-- by a test of two known ways -/
theorem Go.iteA {α : Type} {p : Bool} (A : α → As) {x y : α} (h : GoT L O tt fun b O1 => b = p ∧ O1 = O) (h1 : p = true → Go L O ta fun A' O1 => A' = A x ∧ O1 = O) (h2 : p = false → Go L O tb fun A' O1 => A' = A y ∧ O1 = O) (q : k (A (if p = true then x else y)) O) : Go L O (tIf tt ta tb) k := Go.ite (h.imp fun b O1 e => by
  obtain ⟨rfl, rfl⟩ := e
  refine ⟨fun hb => (h1 hb).imp fun b' O2 e2 => ?_, fun hb => (h2 hb).imp fun b' O2 e2 => ?_⟩
  · obtain ⟨rfl, rfl⟩ := e2
    rw [if_pos hb] at q
    exact q
  · obtain ⟨rfl, rfl⟩ := e2
    rw [if_neg (by rw [hb]; exact Bool.false_ne_true)] at q
    exact q)
/-- comprehensions whose items are told by functions -/
theorem GoG.imp {L : LL} {A : As} {g : TG} {k k' : LL → Prop} (h : GoG L A g k') (i : ∀ L', k' L' → k L') : GoG L A g k := fun σ G H Q x e s a z => h _ _ _ _ _ e s a fun L' σ' q' => z _ _ (i _ q')
abbrev HG (g : TG) (vs : List Nat) : Prop := ∀ (x : V) (σ : L2.St) (H : Hp) (Q : L2.St → Hp → Prop), g x (wipe σ vs) H (fun σ2 H2 => wipe σ2 vs = wipe σ vs → Q σ2 H2) → g x (wipe σ vs) H (fun σ2 H2 => wipe σ2 vs = wipe σ vs ∧ Q σ2 H2)
theorem Go.lcM {α : Type} {O9 : OO} {wi : TI} {g : TG} {vs : List Nat} {l : List α} {f B : α → As} (hg : HG g vs) (h : GoI L O wi fun xs O1 => O1 = O9 ∧ xs = l.map f)
    (he : ∀ x ∈ l, ∀ T, GoG (wipeL L vs) (f x) g fun L2 => Go L2 (O9 ++ T) te fun B' O3 => B' = B x ∧ O3 = O9 ++ T) (hl : l.length ≤ 100000) (q : k (Sy.lst K (l.map B)) O9) : Go L O (tLc wi g tYes te vs) k := by
  refine Go.lc (K := K) hg fun E G0 H0 σ G H R fr s z => h _ _ _ _ _ _ _ fr s fun xs O1 G1 H1 J e => z _ _ _ _ _ ?_
  obtain ⟨rfl, rfl⟩ := e
  refine ⟨fun i acc O' => O' = O1 ∧ acc = (l.take i).map B, ⟨rfl, rfl⟩, fun i A acc O' T hA e => ?_, fun acc O' e => ?_⟩
  · obtain ⟨rfl, rfl⟩ := e
    rw [List.getElem?_map] at hA
    cases hx : l[i]? with
    | none => rw [hx] at hA; cases hA
    | some x =>
      rw [hx] at hA
      obtain rfl := Option.some.inj hA
      have hi : i < l.length := (List.getElem?_eq_some_iff.mp hx).1
      refine (he x (List.mem_of_getElem? hx) T).imp fun L2 h2 => GoT.yes (ifT rfl (h2.imp fun B' O3 e => ?_))
      obtain ⟨rfl, rfl⟩ := e
      refine ⟨O', rfl, ?_, rfl, ?_⟩
      · rw [List.length_map, List.length_take]; omega
      · rw [List.take_add_one, hx, List.map_append]; rfl
  · obtain ⟨rfl, rfl⟩ := e
    rw [List.length_map, List.take_length]
    exact q
theorem Go.lcF {α : Type} {O9 : OO} {wi : TI} {g : TG} {vs : List Nat} {l : List α} {f B : α → As} {p : α → Bool} (hg : HG g vs) (h : GoI L O wi fun xs O1 => O1 = O9 ∧ xs = l.map f)
    (he : ∀ x ∈ l, ∀ T, GoG (wipeL L vs) (f x) g fun L2 => (GoT L2 (O9 ++ T) tt fun b O3 => b = p x ∧ O3 = O9 ++ T) ∧ (p x = true → Go L2 (O9 ++ T) te fun B' O3 => B' = B x ∧ O3 = O9 ++ T)) (hl : l.length ≤ 100000) (q : k (Sy.lst K ((l.filter p).map B)) O9) : Go L O (tLc wi g tt te vs) k := by
  refine Go.lc (K := K) hg fun E G0 H0 σ G H R fr s z => h _ _ _ _ _ _ _ fr s fun xs O1 G1 H1 J e => z _ _ _ _ _ ?_
  obtain ⟨rfl, rfl⟩ := e
  refine ⟨fun i acc O' => O' = O1 ∧ acc = ((l.take i).filter p).map B, ⟨rfl, rfl⟩, fun i A acc O' T hA e => ?_, fun acc O' e => ?_⟩
  · obtain ⟨rfl, rfl⟩ := e
    rw [List.getElem?_map] at hA
    cases hx : l[i]? with
    | none => rw [hx] at hA; cases hA
    | some x =>
      rw [hx] at hA
      obtain rfl := Option.some.inj hA
      have hi : i < l.length := (List.getElem?_eq_some_iff.mp hx).1
      have hm := List.mem_of_getElem? hx
      refine (he x hm T).imp fun L2 h2 => h2.1.imp fun b O3 e => ?_
      obtain ⟨rfl, rfl⟩ := e
      cases hp : p x with
      | true =>
        refine ifT rfl ((h2.2 hp).imp fun B' O3 e => ?_)
        obtain ⟨rfl, rfl⟩ := e
        refine ⟨O', rfl, ?_, rfl, ?_⟩
        · have := List.length_filter_le p (l.take i)
          rw [List.length_map]; rw [List.length_take] at this; omega
        · rw [List.take_add_one, hx, List.filter_append, List.map_append]
          simp [hp]
      | false =>
        rw [if_neg Bool.false_ne_true]
        refine ⟨O', rfl, rfl, ?_⟩
        rw [List.take_add_one, hx, List.filter_append, List.map_append]
        simp [hp]
  · obtain ⟨rfl, rfl⟩ := e
    rw [List.length_map, List.take_length]
    exact q
theorem hg2 {a b : Nat} (hab : a ≠ b) (x : V) (σ : L2.St) (H : Hp) (Q : L2.St → Hp → Prop) : gTup K 2 (gCons (gName a) (gCons (gName b) gNil)) x (wipe σ [a, b]) H (fun σ2 H2 => wipe σ2 [a, b] = wipe σ [a, b] → Q σ2 H2) →
    gTup K 2 (gCons (gName a) (gCons (gName b) gNil)) x (wipe σ [a, b]) H (fun σ2 H2 => wipe σ2 [a, b] = wipe σ [a, b] ∧ Q σ2 H2) := fun q => by
  obtain ⟨p, xs, h1, h2, h3, v, r, h4, w, r', h5, h6, q⟩ := q
  have e : wipe (((wipe σ [a, b]).set a (some v)).set b (some w)) [a, b] = wipe σ [a, b] := by
    refine List.ext_getElem? fun i => ?_
    simp only [wipe, List.getElem?_set, List.length_set]
    by_cases ha : a = i <;> by_cases hb : b = i <;> simp [ha, hb]
  exact ⟨p, xs, h1, h2, h3, v, r, h4, w, r', h5, h6, e, q e⟩
/-- less is known of the slots -/
theorem Slots.forget {G : Hp} : ∀ {L : LL} {σ : L2.St} (i : Nat), Slots G L σ → Slots G (delL L i) σ
  | _, _, _, .nil => .nil
  | _, _, 0, .un t => .un t
  | _, _, 0, .im _ t => .un t
  | _, _, i + 1, .un t => .un (Slots.forget i t)
  | _, _, i + 1, .im q t => .im q (Slots.forget i t)
theorem Slots.forgets {G : Hp} {L : LL} {σ : L2.St} (h : Slots G L σ) : ∀ vs : List Nat, Slots G (wipeL L vs) σ
  | [] => h
  | v :: vs => (Slots.forgets h vs).forget v
theorem GoS.weak {t : TS} {k : Es} (vs : List Nat) {L' : LL} (e : wipeL L vs = L') (h : GoS L' O t k) : GoS L O t k := fun E G0 H0 σ G H D f s e' => h _ _ _ _ _ _ _ f (e ▸ s.forgets vs) e'
/-- for, its slots by a state s; vs: what the body uses besides -/
theorem GoS.forS {τ : Type} {wi : TI} {g : TG} {tb : TS} {k : Es} (Ls : τ → LL) (vs : List Nat) (P : Nat → τ → OO → Prop) {n : Nat}
    (h : GoI L O wi fun xs O1 => xs.length = n ∧ (∃ s, wipeL L vs = Ls s ∧ P 0 s O1) ∧
      (∀ i A s O', xs[i]? = some A → P i s O' → GoG (Ls s) A g fun L2 => GoS L2 O' tb { k with nx := fun L' O'' => ∃ s', wipeL L' vs = Ls s' ∧ P (i + 1) s' O'', ct := fun L' O'' => ∃ s', wipeL L' vs = Ls s' ∧ P (i + 1) s' O'', bk := k.nx }) ∧
      (∀ s O', P n s O' → k.nx (Ls s) O')) (hk : ∀ L' O', k.nx (wipeL L' vs) O' → k.nx L' O') : GoS L O (tFor wi g tb) k := GoS.for fun E G0 H0 σ G H R fr s z => h _ _ _ _ _ _ _ fr s fun xs O1 G1 H1 J e => z _ _ _ _ _ (by
    obtain ⟨rfl, ⟨s0, e0, p0⟩, h1, h2⟩ := e
    refine ⟨fun i L' O' => ∃ s, wipeL L' vs = Ls s ∧ P i s O', ⟨s0, e0, p0⟩, fun i A L' O' hA ⟨s, es, p⟩ => ?_, fun L' O' ⟨s, es, p⟩ => hk _ _ (by rw [es]; exact h2 s O' p)⟩
    refine fun σ G H Q x sm sl a z => h1 i A s O' hA p _ _ _ _ _ sm (es ▸ sl.forgets vs) a z)
theorem Go.lcM1 {α : Type} {O9 : OO} {wi : TI} {nm : Str} {j : Nat} {l : List α} {f B : α → As} (h : GoI L O wi fun xs O1 => O1 = O9 ∧ xs = l.map f)
    (he : ∀ x ∈ l, ∀ T, Go (setL (wipeL L [j]) j (f x)) (O9 ++ T) te fun B' O3 => B' = B x ∧ O3 = O9 ++ T) (hl : l.length ≤ 100000) (q : k (Sy.lst K (l.map B)) O9) : Go L O (tLc wi (gName j) tYes te (List.map (fun x => x.snd) [(nm, j)])) k :=
  Go.lcM (vs := [j]) hg1 h (fun x hx T => GoG.name (he x hx T)) hl q
theorem Go.lcF1 {α : Type} {O9 : OO} {wi : TI} {nm : Str} {j : Nat} {l : List α} {f B : α → As} {p : α → Bool} (h : GoI L O wi fun xs O1 => O1 = O9 ∧ xs = l.map f)
    (he : ∀ x ∈ l, ∀ T, GoT (setL (wipeL L [j]) j (f x)) (O9 ++ T) tt fun b O3 => b = p x ∧ O3 = O9 ++ T)
    (hb : ∀ x ∈ l, p x = true → ∀ T, Go (setL (wipeL L [j]) j (f x)) (O9 ++ T) te fun B' O3 => B' = B x ∧ O3 = O9 ++ T) (hl : l.length ≤ 100000) (q : k (Sy.lst K ((l.filter p).map B)) O9) : Go L O (tLc wi (gName j) tt te (List.map (fun x => x.snd) [(nm, j)])) k :=
  Go.lcF (vs := [j]) hg1 h (fun x hx T => GoG.name ⟨he x hx T, fun hp => hb x hx hp T⟩) hl q
theorem Go.lcM2 {α : Type} {O9 : OO} {wi : TI} {nm nm2 : Str} {i j : Nat} {l : List α} {f g B : α → As} (hij : i ≠ j) (h : GoI L O wi fun xs O1 => O1 = O9 ∧ xs = l.map fun x => Sy.tup K [f x, g x])
    (he : ∀ x ∈ l, ∀ T, Go (setL (setL (wipeL L [i, j]) i (f x)) j (g x)) (O9 ++ T) te fun B' O3 => B' = B x ∧ O3 = O9 ++ T) (hl : l.length ≤ 100000) (q : k (Sy.lst K (l.map B)) O9) : Go L O (tLc wi (gTup K 2 (gCons (gName i) (gCons (gName j) gNil))) tYes te (List.map (fun x => x.snd) [(nm, i), (nm2, j)])) k :=
  Go.lcM (K := K) (vs := [i, j]) (hg2 hij) h (fun x hx T => GoG.tup rfl (GoGs.cons (GoG.name (GoGs.cons (GoG.name (GoGs.nil (he x hx T))))))) hl q
theorem Go.lcF2 {α : Type} {O9 : OO} {wi : TI} {nm nm2 : Str} {i j : Nat} {l : List α} {f g B : α → As} {p : α → Bool} (hij : i ≠ j) (h : GoI L O wi fun xs O1 => O1 = O9 ∧ xs = l.map fun x => Sy.tup K [f x, g x])
    (he : ∀ x ∈ l, ∀ T, GoT (setL (setL (wipeL L [i, j]) i (f x)) j (g x)) (O9 ++ T) tt fun b O3 => b = p x ∧ O3 = O9 ++ T)
    (hb : ∀ x ∈ l, p x = true → ∀ T, Go (setL (setL (wipeL L [i, j]) i (f x)) j (g x)) (O9 ++ T) te fun B' O3 => B' = B x ∧ O3 = O9 ++ T) (hl : l.length ≤ 100000) (q : k (Sy.lst K ((l.filter p).map B)) O9) :
    Go L O (tLc wi (gTup K 2 (gCons (gName i) (gCons (gName j) gNil))) tt te (List.map (fun x => x.snd) [(nm, i), (nm2, j)])) k :=
  Go.lcF (K := K) (vs := [i, j]) (hg2 hij) h (fun x hx T => GoG.tup rfl (GoGs.cons (GoG.name (GoGs.cons (GoG.name (GoGs.nil ⟨he x hx T, fun hp => hb x hx hp T⟩)))))) hl q
/-! membership in plain lists and tuples -/
theorem inV_it (n : Int) : ∀ ns : List Int, inV (.int n) (ns.map V.int) = decide (n ∈ ns)
  | [] => rfl
  | x :: r => by
    have e : inV (.int n) ((x :: r).map V.int) = ((x == n) || inV (.int n) (r.map V.int)) := rfl
    rw [e, inV_it n r]
    apply Bool.eq_iff_iff.mpr
    rw [Bool.or_eq_true, decide_eq_true_eq, decide_eq_true_eq, List.mem_cons, beq_iff_eq, eq_comm]
theorem inV_tx (n : List Nat) : ∀ ns : List (List Nat), inV (.str (S n)) (ns.map fun z => V.str (S z)) = decide (n ∈ ns)
  | [] => rfl
  | x :: r => by
    have e : inV (.str (S n)) ((x :: r).map fun z => V.str (S z)) = ((S x == S n) || inV (.str (S n)) (r.map fun z => V.str (S z))) := rfl
    rw [e, inV_tx n r, SX.S_beq_eq]
    apply Bool.eq_iff_iff.mpr
    rw [Bool.or_eq_true, decide_eq_true_eq, decide_eq_true_eq, decide_eq_true_eq, List.mem_cons, eq_comm]
theorem flat_map {α : Type} {f : α → V} (h : ∀ a, flatV (f a) = true) (l : List α) : (l.map f).all flatV = true := by
  rw [List.all_map]
  exact List.all_eq_true.mpr fun a _ => h a
theorem v_inG {A : As} {x : V} {xs : List V} {neg b : Bool} {l : List As} (hl : ∀ G vs, All2 G l vs → vs = xs) (hA : A = lst K l ∨ A = tup K l) (fx : flatV x = true) (fs : xs.all flatV = true) (e : inV x xs = b) (q : k (bo (if neg = true then !b else b)) O) : V2 O (rIn K neg) (cst x) A k := fun E G0 H0 G H Q x' y f a c zz => by
  obtain rfl : x' = x := a
  rcases hA with rfl | rfl
  · obtain ⟨p, ws, rfl, h1, h2⟩ := c
    obtain rfl := hl _ _ h2
    exact ⟨p, ws, rfl, .inl (SqL.of (f.gh _ _ h1)), fx, fs, by rw [e]; exact zz _ _ _ _ _ q f (Same.refl _) rfl⟩
  · obtain ⟨p, ws, rfl, h1, h2⟩ := c
    obtain rfl := hl _ _ h2
    exact ⟨p, ws, rfl, .inr (SqT.mono f.gh h1), fx, fs, by rw [e]; exact zz _ _ _ _ _ q f (Same.refl _) rfl⟩
theorem v_inTI {n : Int} {ns : List (Int)} (q : k (bo (decide (n ∈ ns))) O) : V2 O (rIn K false) (it n) (tup K (ns.map it)) k := v_inG (fun G vs h => All2.map.mp h) (.inr rfl) rfl (flat_map (fun _ => rfl) _) (inV_it n ns) q
theorem v_niTI {n : Int} {ns : List (Int)} (q : k (bo (!decide (n ∈ ns))) O) : V2 O (rIn K true) (it n) (tup K (ns.map it)) k := v_inG (fun G vs h => All2.map.mp h) (.inr rfl) rfl (flat_map (fun _ => rfl) _) (inV_it n ns) q
theorem v_inLI {n : Int} {ns : List (Int)} (q : k (bo (decide (n ∈ ns))) O) : V2 O (rIn K false) (it n) (lst K (ns.map it)) k := v_inG (fun G vs h => All2.map.mp h) (.inl rfl) rfl (flat_map (fun _ => rfl) _) (inV_it n ns) q
theorem v_niLI {n : Int} {ns : List (Int)} (q : k (bo (!decide (n ∈ ns))) O) : V2 O (rIn K true) (it n) (lst K (ns.map it)) k := v_inG (fun G vs h => All2.map.mp h) (.inl rfl) rfl (flat_map (fun _ => rfl) _) (inV_it n ns) q
theorem v_inTS {n : List Nat} {ns : List (List Nat)} (q : k (bo (decide (n ∈ ns))) O) : V2 O (rIn K false) (tx n) (tup K (ns.map tx)) k := v_inG (fun G vs h => All2.map.mp h) (.inr rfl) rfl (flat_map (fun _ => rfl) _) (inV_tx n ns) q
theorem v_niTS {n : List Nat} {ns : List (List Nat)} (q : k (bo (!decide (n ∈ ns))) O) : V2 O (rIn K true) (tx n) (tup K (ns.map tx)) k := v_inG (fun G vs h => All2.map.mp h) (.inr rfl) rfl (flat_map (fun _ => rfl) _) (inV_tx n ns) q
theorem v_inLS {n : List Nat} {ns : List (List Nat)} (q : k (bo (decide (n ∈ ns))) O) : V2 O (rIn K false) (tx n) (lst K (ns.map tx)) k := v_inG (fun G vs h => All2.map.mp h) (.inl rfl) rfl (flat_map (fun _ => rfl) _) (inV_tx n ns) q
theorem v_niLS {n : List Nat} {ns : List (List Nat)} (q : k (bo (!decide (n ∈ ns))) O) : V2 O (rIn K true) (tx n) (lst K (ns.map tx)) k := v_inG (fun G vs h => All2.map.mp h) (.inl rfl) rfl (flat_map (fun _ => rfl) _) (inV_tx n ns) q
/-! a number or None -/
@[reducible] def oV : Option Int → V
  | none => .non
  | some n => .int n
abbrev oI (o : Option Int) : As := cst (oV o)
theorem oV_non (o : Option Int) : decide (oV o = V.non) = o.isNone := by cases o <;> rfl
theorem v_isNO {o : Option Int} (q : k (bo o.isNone) O) : V2 O (fun x y H Q => y = V.non ∧ Q (V.bl (decide (x = V.non))) H) (oI o) (cst .non) k := v_isN (by rw [oV_non]; exact q)
theorem v_notNO {o : Option Int} (q : k (bo o.isSome) O) : V2 O (fun x y H Q => y = V.non ∧ Q (V.bl (!decide (x = V.non))) H) (oI o) (cst .non) k := v_notN (by rw [oV_non, Option.not_isNone]; exact q)
theorem inV_no : ∀ ns : List (Option Int), inV .non (ns.map oV) = ns.any (·.isNone)
  | [] => rfl
  | none :: r => rfl
  | some n :: r => by
    have e : inV .non ((some n :: r).map oV) = (false || inV .non (r.map oV)) := rfl
    rw [e, inV_no r]
    rfl
theorem v_noIn {α : Type} {l : List α} {f : α → Option Int} (q : k (bo (l.any fun x => (f x).isNone)) O) : V2 O (rIn K false) (cst .non) (lst K (l.map fun x => oI (f x))) k := by
  rw [map_cst (g := oV)]
  exact v_inG (fun G vs h => All2.map.mp h) (.inl rfl) rfl (flat_map (fun a => by cases a <;> rfl) _) (inV_no _) (by rw [List.any_map]; exact q)
theorem v_noNi {α : Type} {l : List α} {f : α → Option Int} (q : k (bo (!l.any fun x => (f x).isNone)) O) : V2 O (rIn K true) (cst .non) (lst K (l.map fun x => oI (f x))) k := by
  rw [map_cst (g := oV)]
  exact v_inG (fun G vs h => All2.map.mp h) (.inl rfl) rfl (flat_map (fun a => by cases a <;> rfl) _) (inV_no _) (by rw [List.any_map]; exact q)
/-! a def with a star parameter -/
theorem All2.split {G : Hp} : ∀ {l1 l2 : List As} {vs : List V}, All2 G (l1 ++ l2) vs → ∃ v1 v2, vs = v1 ++ v2 ∧ All2 G l1 v1 ∧ All2 G l2 v2
  | [], _, vs, h => ⟨[], vs, rfl, .nil, h⟩
  | _ :: _, _, _, .cons a t => by
    obtain ⟨v1, v2, rfl, h1, h2⟩ := All2.split t
    exact ⟨_ :: v1, v2, rfl, .cons a h1, h2⟩
end
section
variable {K : PySem.W.Frag} {L : LL} {O : OO} {k : As → OO → Prop}
theorem v_tupL {xs : List As} (q : k (tup K xs) O) : Vn O (rTupQ K) [lst K xs] k := fun E G0 H0 G H Q vs f a zz => by
  cases a with
  | cons a r =>
    cases r
    obtain ⟨p, ws, rfl, h1, h2⟩ := a
    refine ⟨p, ws, rfl, .inl ⟨SqL.of (f.gh _ _ h1), fun D nD => ?_⟩⟩
    have ex := Ext.new (o := .tup ws) f.gh nD
    exact zz _ _ _ _ _ q (f.ext ex) ex.g ⟨D, _, rfl, .inl (.inl upd_same), h2.m ex.g⟩
theorem v_tupT {xs : List As} (q : k (tup K xs) O) : Vn O (rTupQ K) [tup K xs] k := fun E G0 H0 G H Q vs f a zz => by
  cases a with
  | cons a r =>
    cases r
    obtain ⟨p, ws, rfl, h1, h2⟩ := a
    exact ⟨p, ws, rfl, .inr ⟨SqT.mono f.gh h1, zz _ _ _ _ _ q f (Same.refl _) ⟨p, ws, rfl, h1, h2⟩⟩⟩
theorem v_lstL {xs : List As} (q : k (lst K xs) O) : Vn O (rLstQ K) [lst K xs] k := fun E G0 H0 G H Q vs f a zz => by
  cases a with
  | cons a r =>
    cases r
    obtain ⟨p, ws, rfl, h1, h2⟩ := a
    refine ⟨p, ws, rfl, .inl (SqL.of (f.gh _ _ h1)), fun D nD => ?_⟩
    have ex := Ext.new (o := .lst ws) f.gh nD
    exact zz _ _ _ _ _ q (f.ext ex) ex.g ⟨D, _, rfl, upd_same, h2.m ex.g⟩
theorem v_lstT {xs : List As} (q : k (lst K xs) O) : Vn O (rLstQ K) [tup K xs] k := fun E G0 H0 G H Q vs f a zz => by
  cases a with
  | cons a r =>
    cases r
    obtain ⟨p, ws, rfl, h1, h2⟩ := a
    refine ⟨p, ws, rfl, .inr (SqT.mono f.gh h1), fun D nD => ?_⟩
    have ex := Ext.new (o := .lst ws) f.gh nD
    exact zz _ _ _ _ _ q (f.ext ex) ex.g ⟨D, _, rfl, upd_same, h2.m ex.g⟩
/-! lists joined: + of lists that are new -/
/-! what is owned, read and changed -/
theorem own_at {E : List Addr} {G0 H0 G H : Hp} {pre post : OO} {D : Addr} {c : OC} (f : Fr E G0 H0 (pre ++ (D, c) :: post) G H) : OcOk G H D c := (f.ow (D, c) (by simp)).2.2
theorem v_append {pre post : OO} {D : Addr} {xs : List As} {A : As} (hl : xs.length < 100000) (q : k no (pre ++ (D, .ol (xs ++ [A])) :: post)) : Vm (pre ++ (D, .ol xs) :: post) rAppend (pt D) [A] k := fun E G0 H0 G H Q x vs f a b zz => by
  obtain rfl : x = .ref D := a
  cases b with
  | cons b r =>
    cases r
    obtain ⟨ws, h1, h2⟩ := own_at f
    refine ⟨D, ws, _, rfl, rfl, h1, by rw [h2.len]; exact szlt (by omega), ?_⟩
    exact zz _ _ _ _ _ q (f.change (fun z => z) ⟨ws ++ [_], upd_same, h2.snoc b⟩) (Same.refl _) rfl
theorem ty_o {pre post : OO} {D : Addr} {xs : List As} : TyA K "list" (pt D) (pre ++ (D, .ol xs) :: post) := fun E G0 H0 G H x f a => by
  obtain rfl : x = .ref D := a
  obtain ⟨ws, h1, h2⟩ := own_at f
  exact .inl ⟨rfl, ws, SqL.of h1⟩
theorem v_lenO {pre post : OO} {D : Addr} {xs : List As} (q : k (it (xs.length : Int)) (pre ++ (D, .ol xs) :: post)) : Vn (pre ++ (D, .ol xs) :: post) (rLenQ K) [pt D] k := fun E G0 H0 G H Q vs f a zz => by
  cases a with
  | cons a r =>
    cases r
    obtain rfl := (show _ = V.ref D from a)
    obtain ⟨ws, h1, h2⟩ := own_at f
    exact ⟨D, ws, rfl, .inl (SqL.of h1), by rw [h2.len]; exact zz _ _ _ _ _ q f (Same.refl _) rfl⟩
/-- given up: from here on it is a value -/
theorem Go.frz {te : TE} (h : Go L O te fun A O1 => ∃ D xs pre post, A = pt D ∧ O1 = pre ++ (D, OC.ol xs) :: post ∧ k (Sy.lst K xs) (pre ++ post)) : Go L O te k := fun E G0 H0 σ G H Q f s z =>
  h _ _ _ _ _ _ _ f s fun A O1 G1 H1 v q f1 s1 a => by
    obtain ⟨D, xs, pre, post, rfl, rfl, q⟩ := q
    obtain rfl : v = .ref D := a
    obtain ⟨ws, h1, h2⟩ := own_at f1
    obtain ⟨fz, sz⟩ := f1.freeze rfl h1
    exact z _ _ _ _ _ q fz (s1.trans sz) ⟨D, ws, rfl, upd_same, h2.m sz⟩
/-- dicts with written keys -/
theorem AllK.val {G : Hp} : ∀ {l : List (Key × As)} {vs : List (Key × V)} (key : Key), AllK G l vs → (∀ A, (l.find? fun kv => decide (kv.1 = key)).map (·.2) = some A → ∃ v, valV vs key = some v ∧ A.p G v) ∧ ((l.find? fun kv => decide (kv.1 = key)) = none → valV vs key = none)
  | _, _, key, .nil => ⟨fun A h => by simp at h, fun _ => rfl⟩
  | _, _, key, @AllK.cons _ k0 A0 v0 l vs a t => by
    obtain ⟨i1, i2⟩ := AllK.val key t
    by_cases hk : k0 = key
    · refine ⟨fun A h => ?_, fun h => ?_⟩
      · rw [List.find?_cons, decide_eq_true hk] at h
        obtain rfl := Option.some.inj h
        exact ⟨v0, valV_pos hk, a⟩
      · rw [List.find?_cons, decide_eq_true hk] at h; cases h
    · refine ⟨fun A h => ?_, fun h => ?_⟩
      · rw [List.find?_cons, decide_eq_false hk] at h
        obtain ⟨v, h1, h2⟩ := i1 A h
        exact ⟨v, by rw [valV_neg hk]; exact h1, h2⟩
      · rw [List.find?_cons, decide_eq_false hk] at h
        rw [valV_neg hk]
        exact i2 h
theorem AllK.len {G : Hp} : ∀ {l : List (Key × As)} {vs : List (Key × V)}, AllK G l vs → vs.length = l.length
  | _, _, .nil => rfl
  | _, _, .cons _ t => congrArg (· + 1) (AllK.len t)
def getA (l : List (Key × As)) (key : Key) : Option As := (l.find? fun kv => decide (kv.1 = key)).map (·.2)
def putA (l : List (Key × As)) (key : Key) (A : As) : List (Key × As) := if (l.any fun kv => decide (kv.1 = key)) = true then l.map (fun kv => if kv.1 = key then (kv.1, A) else kv) else l ++ [(key, A)]
theorem AllK.any {G : Hp} (key : Key) : ∀ {l : List (Key × As)} {vs : List (Key × V)}, AllK G l vs → (vs.any fun kv => decide (kv.1 = key)) = (l.any fun kv => decide (kv.1 = key))
  | _, _, .nil => rfl
  | _, _, .cons _ t => by rw [List.any_cons, List.any_cons, AllK.any key t]
theorem AllK.upd {G : Hp} {A : As} {v : V} (key : Key) (a : A.p G v) : ∀ {l : List (Key × As)} {vs : List (Key × V)}, AllK G l vs → AllK G (l.map fun kv => if kv.1 = key then (kv.1, A) else kv) (vs.map fun kv => if kv.1 = key then (kv.1, v) else kv)
  | _, _, .nil => .nil
  | _, _, @AllK.cons _ k0 A0 v0 l vs b t => by
    rw [List.map_cons, List.map_cons]
    by_cases h : k0 = key
    · rw [if_pos h, if_pos h]; exact .cons a (AllK.upd key a t)
    · rw [if_neg h, if_neg h]; exact .cons b (AllK.upd key a t)
theorem AllK.app {G : Hp} : ∀ {l m : List (Key × As)} {vs ws : List (Key × V)}, AllK G l vs → AllK G m ws → AllK G (l ++ m) (vs ++ ws)
  | _, _, _, _, .nil, s => s
  | _, _, _, _, .cons h t, s => .cons h (AllK.app t s)
theorem AllK.put {G : Hp} {A : As} {v : V} (key : Key) (a : A.p G v) {l : List (Key × As)} {vs : List (Key × V)} (h : AllK G l vs) : AllK G (putA l key A) (putK vs key v) := by
  unfold putA putK
  rw [h.any key]
  split
  · exact h.upd key a
  · exact h.app (.cons a .nil)
theorem Go.dget {te ty : TE} (h : Go L O te fun D O1 => Go L O1 ty fun B O2 => ∃ pb d kvs pre post key, D = pt d ∧ B = cst (kV key) ∧ O2 = pre ++ (d, .od pb kvs) :: post ∧ ∃ A, getA kvs key = some A ∧ k A O2) : Go L O (tDGet te ty) k := fun E G0 H0 σ G H Q f s z =>
  h _ _ _ _ _ _ _ f s fun A O1 G1 H1 x hx f1 s1 a => hx _ _ _ _ _ _ _ f1 (s.m s1) fun B O2 G2 H2 y hy f2 s2 b => by
    obtain ⟨pb, d, kvs, pre, post, key, rfl, rfl, rfl, A, hg, q⟩ := hy
    obtain rfl : x = .ref d := a
    obtain rfl : y = kV key := b
    obtain ⟨vs, h1, h2⟩ := own_at f2
    obtain ⟨v, e, av⟩ := (h2.val key).1 A hg
    exact ⟨d, v, rfl, .inl ⟨vs, key, .inl h1, rfl, e.symm⟩, z _ _ _ _ _ q f2 (s1.trans s2) av⟩
theorem getA_none {kvs : List (Key × As)} {key : Key} {G : Hp} {vs : List (Key × V)} (h : AllK G kvs vs) : (valV vs key).isSome = (getA kvs key).isSome := by
  cases e : kvs.find? (fun kv => decide (kv.1 = key)) with
  | none => rw [(h.val key).2 e]; unfold getA; rw [e]; rfl
  | some p =>
    obtain ⟨v, hv, _⟩ := (h.val key).1 p.2 (by rw [e]; rfl)
    rw [hv]; unfold getA; rw [e]; rfl
theorem Go.din {te ty : TE} (h : Go L O ty fun B O1 => Go L O1 te fun D O2 => ∃ pb d kvs pre post key, D = pt d ∧ B = cst (kV key) ∧ O2 = pre ++ (d, .od pb kvs) :: post ∧ k (bo (getA kvs key).isSome) O2) : Go L O (tDIn ty te) k := fun E G0 H0 σ G H Q f s z =>
  h _ _ _ _ _ _ _ f s fun A O1 G1 H1 y hx f1 s1 b => hx _ _ _ _ _ _ _ f1 (s.m s1) fun B O2 G2 H2 x hy f2 s2 a => by
    obtain ⟨pb, d, kvs, pre, post, key, rfl, rfl, rfl, q⟩ := hy
    obtain rfl : x = .ref d := a
    obtain rfl : y = kV key := b
    obtain ⟨vs, h1, h2⟩ := own_at f2
    exact ⟨d, _, rfl, DGet.k h1, z _ _ _ _ _ q f2 (s1.trans s2) (by rw [getA_none h2]; rfl)⟩
theorem Go.dni {te ty : TE} (h : Go L O ty fun B O1 => Go L O1 te fun D O2 => ∃ pb d kvs pre post key, D = pt d ∧ B = cst (kV key) ∧ O2 = pre ++ (d, .od pb kvs) :: post ∧ k (bo (!(getA kvs key).isSome)) O2) : Go L O (tDNotIn ty te) k := fun E G0 H0 σ G H Q f s z =>
  h _ _ _ _ _ _ _ f s fun A O1 G1 H1 y hx f1 s1 b => hx _ _ _ _ _ _ _ f1 (s.m s1) fun B O2 G2 H2 x hy f2 s2 a => by
    obtain ⟨pb, d, kvs, pre, post, key, rfl, rfl, rfl, q⟩ := hy
    obtain rfl : x = .ref d := a
    obtain rfl : y = kV key := b
    obtain ⟨vs, h1, h2⟩ := own_at f2
    exact ⟨d, _, rfl, DGet.k h1, z _ _ _ _ _ q f2 (s1.trans s2) (by rw [getA_none h2]; rfl)⟩
theorem GoS.dput {td ty tv : TE} {k : Es} (h : Go L O tv fun A O1 => Go L O1 td fun D O2 => Go L O2 ty fun B O3 => ∃ pb d kvs pre post key, D = pt d ∧ B = cst (kV key) ∧ O3 = pre ++ (d, .od pb kvs) :: post ∧ kvs.length < 100000 ∧ k.nx L (pre ++ (d, .od pb (putA kvs key A)) :: post)) : GoS L O (sDPut td ty tv) k := fun E G0 H0 σ G H D f s e =>
  h _ _ _ _ _ _ _ f s fun A O1 G1 H1 v hv f1 s1 a => hv _ _ _ _ _ _ _ f1 (s.m s1) fun DD O2 G2 H2 x hx f2 s2 dd => hx _ _ _ _ _ _ _ f2 (s.m (s1.trans s2)) fun B O3 G3 H3 y hy f3 s3 b => by
    obtain ⟨pb, d, kvs, pre, post, key, rfl, rfl, rfl, hl, q⟩ := hy
    obtain rfl : x = .ref d := dd
    obtain rfl : y = kV key := b
    obtain ⟨vs, h1, h2⟩ := own_at f3
    have s13 := (s1.trans s2).trans s3
    refine ⟨d, _, rfl, DPut.k h1 (by rw [h2.len]; exact szlt (by omega)), e.nx _ _ _ _ _ q (f3.change (fun z => z) ⟨_, upd_same, h2.put key (A.m (s2.trans s3) a)⟩) s13 (s.m s13)⟩
theorem v_lenD {pre post : OO} {pb : Bool} {D : Addr} {kvs : List (Key × As)} (q : k (it (kvs.length : Int)) (pre ++ (D, .od pb kvs) :: post)) : Vn (pre ++ (D, .od pb kvs) :: post) (fun xs H Q => ∃ a kvs, xs = [.ref a] ∧ H a = some (.dK kvs) ∧ Q (.int kvs.length) H) [pt D] k := fun E G0 H0 G H Q vs f a zz => by
  cases a with
  | cons a r =>
    cases r
    obtain rfl := (show _ = V.ref D from a)
    obtain ⟨ws, h1, h2⟩ := own_at f
    exact ⟨D, ws, rfl, h1, by rw [h2.len]; exact zz _ _ _ _ _ q f (Same.refl _) rfl⟩
/-! lists: joined, more at the end, repeated -/
theorem v_cat {xs ys : List As} (hl : xs.length + ys.length ≤ 100000) (q : k (lst K (xs ++ ys)) O) : V2 O rCat (lst K xs) (lst K ys) k := fun E G0 H0 G H Q x y f a b zz => by
  obtain ⟨p, ws, rfl, h1, h2⟩ := a
  obtain ⟨p', us, rfl, h3, h4⟩ := b
  refine ⟨p, p', ws, us, rfl, rfl, f.gh _ _ h1, f.gh _ _ h3, by rw [h2.len, h4.len]; exact sz hl, fun D nD => ?_⟩
  have ex := Ext.new (o := .lst (ws ++ us)) f.gh nD
  exact zz _ _ _ _ _ q (f.ext ex) ex.g ⟨D, _, rfl, upd_same, (h2.app h4).m ex.g⟩
theorem v_extend {pre post : OO} {D : Addr} {xs ys : List As} (hl : xs.length + ys.length ≤ 100000) (q : k no (pre ++ (D, .ol (xs ++ ys)) :: post)) : Vm (pre ++ (D, .ol xs) :: post) rExtend (pt D) [lst K ys] k := fun E G0 H0 G H Q x vs f a b zz => by
  obtain rfl : x = .ref D := a
  cases b with
  | cons b r =>
    cases r
    obtain ⟨ws, h1, h2⟩ := own_at f
    obtain ⟨p, us, rfl, h3, h4⟩ := b
    refine ⟨D, p, ws, us, rfl, rfl, h1, f.gh _ _ h3, by rw [h2.len, h4.len]; exact sz hl, ?_⟩
    exact zz _ _ _ _ _ q (f.change (fun z => z) ⟨ws ++ us, upd_same, h2.app h4⟩) (Same.refl _) rfl
theorem v_slQ {xs : List As} {lo hi : Option Int} (q : k (lst K (Cj.cut xs lo hi)) O) : Vs O (rSlL K) (sql K xs) lo hi k := fun E G0 H0 G H Q x f a zz => by
  obtain ⟨p, ws, rfl, h1, h2⟩ := a
  refine ⟨p, ws, rfl, f.gh.seq h1, fun D nD => ?_⟩
  have ex := Ext.new (o := .lst (cutV ws lo hi)) f.gh nD
  exact zz _ _ _ _ _ q (f.ext ex) ex.g ⟨D, _, rfl, upd_same, (h2.cut lo hi).m ex.g⟩
theorem v_sumQ {ns : List Int} (q : k (it ns.sum) O) : Vn O (rSum K) [sql K (ns.map it)] k := fun E G0 H0 G H Q vs f a zz => by
  cases a with
  | cons a r =>
    cases r
    obtain ⟨p, ws, rfl, h1, h2⟩ := a
    obtain rfl := All2.map.mp h2
    exact ⟨p, ns, rfl, f.gh.seq h1, zz _ _ _ _ _ q f (Same.refl _) rfl⟩
theorem v_lenQ {xs : List As} (q : k (it (xs.length : Int)) O) : Vn O (rLenQ K) [sql K xs] k := fun E G0 H0 G H Q vs f a zz => by
  cases a with
  | cons a r =>
    cases r
    obtain ⟨p, ws, rfl, h1, h2⟩ := a
    exact ⟨p, ws, rfl, .inl (f.gh.seq h1), by rw [h2.len]; exact zz _ _ _ _ _ q f (Same.refl _) rfl⟩
/-! dicts that do not change any more -/
def dct (kvs : List (Key × As)) : As := ⟨fun G v => ∃ a vs, v = .ref a ∧ G a = some (.dK vs) ∧ AllK G kvs vs, fun e h => by
  obtain ⟨a, vs, h1, h2, h3⟩ := h
  exact ⟨a, vs, h1, e _ _ h2, h3.m e⟩⟩
theorem Go.dnew (h : k (dct []) O) : Go L O tDNewK k := fun E G0 H0 σ G H Q f s z p np => by
  have ex := Ext.new (o := .dK []) f.gh np
  exact z _ _ _ _ _ h (f.ext ex) ex.g ⟨p, [], rfl, upd_same, .nil⟩
theorem Go.dgetC {te ty : TE} (h : Go L O te fun D O1 => Go L O1 ty fun B O2 => ∃ kvs key, D = dct kvs ∧ B = cst (kV key) ∧ ∃ A, getA kvs key = some A ∧ k A O2) : Go L O (tDGet te ty) k := fun E G0 H0 σ G H Q f s z =>
  h _ _ _ _ _ _ _ f s fun A O1 G1 H1 x hx f1 s1 a => hx _ _ _ _ _ _ _ f1 (s.m s1) fun B O2 G2 H2 y hy f2 s2 b => by
    obtain ⟨kvs, key, rfl, rfl, A, hg, q⟩ := hy
    obtain rfl : y = kV key := b
    obtain ⟨d, vs, rfl, h1, h2⟩ := a
    obtain ⟨v, e, av⟩ := ((h2.m s2).val key).1 A hg
    exact ⟨d, v, rfl, .inl ⟨vs, key, .inl (f2.gh _ _ (s2 _ _ h1)), rfl, e.symm⟩, z _ _ _ _ _ q f2 (s1.trans s2) av⟩
theorem v_lenC {kvs : List (Key × As)} (q : k (it (kvs.length : Int)) O) : Vn O (fun xs H Q => ∃ a kvs, xs = [.ref a] ∧ H a = some (.dK kvs) ∧ Q (.int kvs.length) H) [dct kvs] k := fun E G0 H0 G H Q vs f a zz => by
  cases a with
  | cons a r =>
    cases r
    obtain ⟨p, ws, rfl, h1, h2⟩ := a
    exact ⟨p, ws, rfl, f.gh _ _ h1, by rw [h2.len]; exact zz _ _ _ _ _ q f (Same.refl _) rfl⟩
/-- what the def returns, told by a word on it -/
theorem Go.callG {α : Type} {pre : α → Prop} {as : α → List As} {post : α → As → OO → Prop} {X : XK}
    (h : GoA L O t fun l O1 => ∃ a, l = as a ∧ pre a ∧ ∀ A O', post a A O' → k A (O' ++ O1)) : Go L O (tCall (SpG pre as (fun _ => []) post) [] X t) k := Go.call (fun _ _ h => nomatch h) fun E G0 H0 σ G H Q f s z =>
  h _ _ _ _ _ _ _ f s fun l O' G' H' vs q => z _ _ _ _ _ (by
    obtain ⟨a, h1, h2, h3⟩ := q
    exact ⟨a, O', h1, rfl, h2, h3⟩)
/-! written tuples of texts, of numbers -/
theorem Go.cWS {a : Addr} {ws : List (List Nat)} (h : ∀ H, SqT K H a (ws.map fun l => V.str (S l))) (q : k (Sy.tup K (ws.map tx)) O) : Go L O (tC (.ref a)) k := Go.cW h (by rw [List.map_map]; exact q)
theorem Go.bmW {T : String} {a : Addr} {ws : List (List Nat)} {r : V → List V → Hp → VK → Prop} (hT : ∀ H, tyV K T (.ref a) H) (hs : ∀ H, SqT K H a (ws.map fun l => V.str (S l))) (h : GoA L O t fun l O2 => Vm O2 r (Sy.tup K (ws.map tx)) l k) : Go L O (tBM K T r (tC (.ref a)) t) k := fun E G0 H0 σ G H Q f s z =>
  ⟨hT _, h _ _ _ _ _ _ _ f s fun l O2 G2 H2 vs hk f2 s2 b => hk _ _ _ _ _ _ _ _ f2 ⟨a, _, rfl, hs _, All2.map.mpr rfl⟩ b fun C O3 G3 H3 v hk f3 s3 c => z _ _ _ _ _ hk f3 (s2.trans s3) c⟩
theorem idx_at {α : Type} [BEq α] [LawfulBEq α] : ∀ {l : List α} {a : α}, a ∈ l → l[l.idxOf a]? = some a ∧ ∀ m, m < l.idxOf a → l[m]? ≠ some a
  | x :: r, a, h => by
    by_cases e : x = a
    · subst e
      have ei : (x :: r).idxOf x = 0 := by rw [List.idxOf_cons, beq_self_eq_true]; rfl
      rw [ei]
      exact ⟨rfl, fun m hm => absurd hm (Nat.not_lt_zero m)⟩
    · have hr : a ∈ r := by
        rcases List.mem_cons.mp h with q | q
        · exact absurd q.symm e
        · exact q
      obtain ⟨h1, h2⟩ := idx_at hr
      have eb : (x == a) = false := beq_eq_false_iff_ne.mpr e
      have ei : (x :: r).idxOf a = r.idxOf a + 1 := by rw [List.idxOf_cons, eb]; rfl
      rw [ei]
      refine ⟨by simpa using h1, fun m hm => ?_⟩
      cases m with
      | zero => simpa using e
      | succ m => simpa using h2 m (by omega)
theorem v_tidxS {n : List Nat} {ws : List (List Nat)} (h : n ∈ ws) (q : k (it (ws.idxOf n : Int)) O) : Vm O (fun x xs H Q => ∃ p, ∃ ys : List Str, ∃ z j, x = .ref p ∧ xs = [.str z] ∧ SqT K H p (ys.map V.str) ∧ ys[j]? = some z ∧ (∀ m, m < j → ys[m]? ≠ some z) ∧ Q (.int (j : Nat)) H) (tup K (ws.map tx)) [tx n] k := fun E G0 H0 G H Q x vs f a b zz => by
  cases b with
  | cons b r =>
    cases r
    obtain rfl := (show _ = V.str (S n) from b)
    obtain ⟨p, us, rfl, h1, h2⟩ := a
    have e := h2.strs
    subst e
    obtain ⟨g1, g2⟩ := idx_at h
    refine ⟨p, ws.map S, S n, ws.idxOf n, rfl, rfl, SqT.mono f.gh h1, ?_, fun m hm z => ?_, zz _ _ _ _ _ q f (Same.refl _) rfl⟩
    · rw [List.getElem?_map, g1]; rfl
    · rw [List.getElem?_map] at z
      cases hq : ws[m]? with
      | none => rw [hq] at z; cases z
      | some y =>
        rw [hq] at z
        have : y = n := S_inj (Option.some.inj z)
        subst this
        exact g2 m hm hq
/-! compared with the empty list -/
theorem All2.nil_iff {G : Hp} {l : List As} {vs : List V} (h : All2 G l vs) : vs.isEmpty = l.isEmpty := by cases h <;> rfl
theorem v_eqE {xs : List As} (q : k (bo xs.isEmpty) O) : V2 O (rEqE K) (lst K xs) (lst K []) k := fun E G0 H0 G H Q x y f a b zz => by
  obtain ⟨p, ws, rfl, h1, h2⟩ := a
  obtain ⟨p', us, rfl, h3, h4⟩ := b
  cases h4
  refine ⟨p, p', ws, [], rfl, rfl, SqL.of (f.gh _ _ h1), SqL.of (f.gh _ _ h3), .inr rfl, ?_⟩
  rw [h2.nil_iff, show ([] : List V).isEmpty = true from rfl, Bool.and_true]
  exact zz _ _ _ _ _ q f (Same.refl _) rfl
theorem v_neE {xs : List As} (q : k (bo (!xs.isEmpty)) O) : V2 O (rNeE K) (lst K xs) (lst K []) k := fun E G0 H0 G H Q x y f a b zz => by
  obtain ⟨p, ws, rfl, h1, h2⟩ := a
  obtain ⟨p', us, rfl, h3, h4⟩ := b
  cases h4
  refine ⟨p, p', ws, [], rfl, rfl, SqL.of (f.gh _ _ h1), SqL.of (f.gh _ _ h3), .inr rfl, ?_⟩
  rw [h2.nil_iff, show ([] : List V).isEmpty = true from rfl, Bool.and_true]
  exact zz _ _ _ _ _ q f (Same.refl _) rfl
/-! walks over what is owned (given up there), new owned things by a name -/
theorem GoS.setO {k : Es} {t : TA} (i : Nat) (h : GoA L O t fun l O1 => l.length ≤ 100000 ∧ ∀ D, k.nx (setL L i (pt D)) (O1 ++ [(D, .ol l)])) : GoS L O (tAsg (tLst t) (gName i)) k := GoS.set (Go.lstO h)
theorem GoS.setD {k : Es} (i : Nat) (h : ∀ D, k.nx (setL L i (pt D)) (O ++ [(D, .od false [])])) : GoS L O (tAsg tDNewK (gName i)) k := GoS.set (Go.dnewO h)
/-- None told apart from values that never are None -/
def NN (A : As) : Prop := ∀ G v, A.p G v → v ≠ .non
theorem v_notOp {o : Option As} (h : ∀ A, o = some A → NN A) (q : k (bo o.isSome) O) : V2 O (fun x y H Q => y = V.non ∧ Q (V.bl (!decide (x = V.non))) H) (op o) (cst .non) k := fun E G0 H0 G H Q x y f a b zz => by
  refine ⟨b, ?_⟩
  cases o with
  | none =>
    obtain rfl : x = .non := a
    exact zz _ _ _ _ _ q f (Same.refl _) rfl
  | some A =>
    have n := h A rfl G x a
    rw [decide_eq_false n]
    exact zz _ _ _ _ _ q f (Same.refl _) rfl
theorem nn_tup {xs : List As} : NN (tup K xs) := fun G v h => by obtain ⟨p, ws, rfl, _⟩ := h; intro z; cases z
theorem at0 {α : Type} (x : α) (l : List α) : atI (x :: l) 0 = some x := atI_nat (j := 0) rfl
/-! isinstance -/
theorem v_isi {A : As} {T U : String} {b : Bool} (h : TyXA K A O (.type T)) (hb : kitB T U = some b) (q : k (bo b) O) : Vn O (rIsi K) [A, cst (.ty U)] k := fun E G0 H0 G H Q vs f a zz => by
  cases a with
  | cons a r =>
    cases r with
    | cons c r =>
      cases r
      obtain rfl := (show _ = V.ty U from c)
      exact ⟨_, .ty U, .type T, .type U, b, rfl, .ty _, h _ _ _ _ _ _ f a, kit_ty hb, zz _ _ _ _ _ q f (Same.refl _) rfl⟩
theorem tx_s {l : List Nat} : TyXA K (tx l) O (.type "str") := fun _ _ _ _ _ x _ a => by rw [show x = _ from a]; exact .base (.str _)
theorem tx_i {i : Int} : TyXA K (it i) O (.type "int") := fun _ _ _ _ _ x _ a => by rw [show x = _ from a]; exact .base (.int _)
theorem tx_b {i : Bool} : TyXA K (bo i) O (.type "bool") := fun _ _ _ _ _ x _ a => by rw [show x = _ from a]; exact .base (.bl _)
theorem tx_n : TyXA K no O (.type "NoneType") := fun _ _ _ _ _ x _ a => by rw [show x = _ from a]; exact .base .non
theorem tx_l {xs : List As} : TyXA K (lst K xs) O (.type "list") := fun _ _ _ _ _ x f a => by
  obtain ⟨p, ws, rfl, h1, h2⟩ := a
  exact .base (.lst (f.gh _ _ h1))
theorem tx_t {xs : List As} : TyXA K (tup K xs) O (.type "tuple") := fun _ _ _ _ _ x f a => by
  obtain ⟨p, ws, rfl, h1, h2⟩ := a
  rcases SqT.mono f.gh h1 with (h | ⟨o, h⟩) | ⟨o, its, n, h, c, _⟩
  · exact .base (.tup h)
  · exact .fTuple h
  · exact .kTuple h c
theorem tx_d {kvs : List (Key × As)} : TyXA K (dct kvs) O (.type "dict") := fun _ _ _ _ _ x f a => by
  obtain ⟨p, ws, rfl, h1, h2⟩ := a
  exact .base (.dK (f.gh _ _ h1))
theorem v_is_s_str {l : List Nat} (q : k (bo true) O) : Vn O (rIsi K) [tx l, cst (.ty "str")] k := v_isi tx_s (by decide +kernel) q
theorem v_is_s_int {l : List Nat} (q : k (bo false) O) : Vn O (rIsi K) [tx l, cst (.ty "int")] k := v_isi tx_s (by decide +kernel) q
theorem v_is_s_bool {l : List Nat} (q : k (bo false) O) : Vn O (rIsi K) [tx l, cst (.ty "bool")] k := v_isi tx_s (by decide +kernel) q
theorem v_is_s_tuple {l : List Nat} (q : k (bo false) O) : Vn O (rIsi K) [tx l, cst (.ty "tuple")] k := v_isi tx_s (by decide +kernel) q
theorem v_is_s_list {l : List Nat} (q : k (bo false) O) : Vn O (rIsi K) [tx l, cst (.ty "list")] k := v_isi tx_s (by decide +kernel) q
theorem v_is_s_dict {l : List Nat} (q : k (bo false) O) : Vn O (rIsi K) [tx l, cst (.ty "dict")] k := v_isi tx_s (by decide +kernel) q
theorem v_is_i_str {i : Int} (q : k (bo false) O) : Vn O (rIsi K) [it i, cst (.ty "str")] k := v_isi tx_i (by decide +kernel) q
theorem v_is_i_int {i : Int} (q : k (bo true) O) : Vn O (rIsi K) [it i, cst (.ty "int")] k := v_isi tx_i (by decide +kernel) q
theorem v_is_i_bool {i : Int} (q : k (bo false) O) : Vn O (rIsi K) [it i, cst (.ty "bool")] k := v_isi tx_i (by decide +kernel) q
theorem v_is_i_tuple {i : Int} (q : k (bo false) O) : Vn O (rIsi K) [it i, cst (.ty "tuple")] k := v_isi tx_i (by decide +kernel) q
theorem v_is_i_list {i : Int} (q : k (bo false) O) : Vn O (rIsi K) [it i, cst (.ty "list")] k := v_isi tx_i (by decide +kernel) q
theorem v_is_i_dict {i : Int} (q : k (bo false) O) : Vn O (rIsi K) [it i, cst (.ty "dict")] k := v_isi tx_i (by decide +kernel) q
theorem v_is_b_str {i : Bool} (q : k (bo false) O) : Vn O (rIsi K) [bo i, cst (.ty "str")] k := v_isi tx_b (by decide +kernel) q
theorem v_is_b_int {i : Bool} (q : k (bo true) O) : Vn O (rIsi K) [bo i, cst (.ty "int")] k := v_isi tx_b (by decide +kernel) q
theorem v_is_b_bool {i : Bool} (q : k (bo true) O) : Vn O (rIsi K) [bo i, cst (.ty "bool")] k := v_isi tx_b (by decide +kernel) q
theorem v_is_b_tuple {i : Bool} (q : k (bo false) O) : Vn O (rIsi K) [bo i, cst (.ty "tuple")] k := v_isi tx_b (by decide +kernel) q
theorem v_is_b_list {i : Bool} (q : k (bo false) O) : Vn O (rIsi K) [bo i, cst (.ty "list")] k := v_isi tx_b (by decide +kernel) q
theorem v_is_b_dict {i : Bool} (q : k (bo false) O) : Vn O (rIsi K) [bo i, cst (.ty "dict")] k := v_isi tx_b (by decide +kernel) q
theorem v_is_n_str (q : k (bo false) O) : Vn O (rIsi K) [no, cst (.ty "str")] k := v_isi tx_n (by decide +kernel) q
theorem v_is_n_int (q : k (bo false) O) : Vn O (rIsi K) [no, cst (.ty "int")] k := v_isi tx_n (by decide +kernel) q
theorem v_is_n_bool (q : k (bo false) O) : Vn O (rIsi K) [no, cst (.ty "bool")] k := v_isi tx_n (by decide +kernel) q
theorem v_is_n_tuple (q : k (bo false) O) : Vn O (rIsi K) [no, cst (.ty "tuple")] k := v_isi tx_n (by decide +kernel) q
theorem v_is_n_list (q : k (bo false) O) : Vn O (rIsi K) [no, cst (.ty "list")] k := v_isi tx_n (by decide +kernel) q
theorem v_is_n_dict (q : k (bo false) O) : Vn O (rIsi K) [no, cst (.ty "dict")] k := v_isi tx_n (by decide +kernel) q
theorem v_is_l_str {xs : List As} (q : k (bo false) O) : Vn O (rIsi K) [lst K xs, cst (.ty "str")] k := v_isi tx_l (by decide +kernel) q
theorem v_is_l_int {xs : List As} (q : k (bo false) O) : Vn O (rIsi K) [lst K xs, cst (.ty "int")] k := v_isi tx_l (by decide +kernel) q
theorem v_is_l_bool {xs : List As} (q : k (bo false) O) : Vn O (rIsi K) [lst K xs, cst (.ty "bool")] k := v_isi tx_l (by decide +kernel) q
theorem v_is_l_tuple {xs : List As} (q : k (bo false) O) : Vn O (rIsi K) [lst K xs, cst (.ty "tuple")] k := v_isi tx_l (by decide +kernel) q
theorem v_is_l_list {xs : List As} (q : k (bo true) O) : Vn O (rIsi K) [lst K xs, cst (.ty "list")] k := v_isi tx_l (by decide +kernel) q
theorem v_is_l_dict {xs : List As} (q : k (bo false) O) : Vn O (rIsi K) [lst K xs, cst (.ty "dict")] k := v_isi tx_l (by decide +kernel) q
theorem v_is_t_str {xs : List As} (q : k (bo false) O) : Vn O (rIsi K) [tup K xs, cst (.ty "str")] k := v_isi tx_t (by decide +kernel) q
theorem v_is_t_int {xs : List As} (q : k (bo false) O) : Vn O (rIsi K) [tup K xs, cst (.ty "int")] k := v_isi tx_t (by decide +kernel) q
theorem v_is_t_bool {xs : List As} (q : k (bo false) O) : Vn O (rIsi K) [tup K xs, cst (.ty "bool")] k := v_isi tx_t (by decide +kernel) q
theorem v_is_t_tuple {xs : List As} (q : k (bo true) O) : Vn O (rIsi K) [tup K xs, cst (.ty "tuple")] k := v_isi tx_t (by decide +kernel) q
theorem v_is_t_list {xs : List As} (q : k (bo false) O) : Vn O (rIsi K) [tup K xs, cst (.ty "list")] k := v_isi tx_t (by decide +kernel) q
theorem v_is_t_dict {xs : List As} (q : k (bo false) O) : Vn O (rIsi K) [tup K xs, cst (.ty "dict")] k := v_isi tx_t (by decide +kernel) q
theorem v_is_d_str {kvs : List (Key × As)} (q : k (bo false) O) : Vn O (rIsi K) [dct kvs, cst (.ty "str")] k := v_isi tx_d (by decide +kernel) q
theorem v_is_d_int {kvs : List (Key × As)} (q : k (bo false) O) : Vn O (rIsi K) [dct kvs, cst (.ty "int")] k := v_isi tx_d (by decide +kernel) q
theorem v_is_d_bool {kvs : List (Key × As)} (q : k (bo false) O) : Vn O (rIsi K) [dct kvs, cst (.ty "bool")] k := v_isi tx_d (by decide +kernel) q
theorem v_is_d_tuple {kvs : List (Key × As)} (q : k (bo false) O) : Vn O (rIsi K) [dct kvs, cst (.ty "tuple")] k := v_isi tx_d (by decide +kernel) q
theorem v_is_d_list {kvs : List (Key × As)} (q : k (bo false) O) : Vn O (rIsi K) [dct kvs, cst (.ty "list")] k := v_isi tx_d (by decide +kernel) q
theorem v_is_d_dict {kvs : List (Key × As)} (q : k (bo true) O) : Vn O (rIsi K) [dct kvs, cst (.ty "dict")] k := v_isi tx_d (by decide +kernel) q
abbrev SpQ {α : Type} (pre : α → Prop) (as : α → List As) (post : α → As → Prop) : Sp := SpG pre as (fun _ => []) fun a A O' => O' = [] ∧ post a A
theorem Go.callQ {α : Type} {pre : α → Prop} {as : α → List As} {post : α → As → Prop} {X : XK}
    (h : GoA L O t fun l O1 => ∃ a, l = as a ∧ pre a ∧ ∀ A, post a A → k A O1) : Go L O (tCall (SpQ pre as post) [] X t) k := Go.callG fun E G0 H0 σ G H Q f s z =>
  h _ _ _ _ _ _ _ f s fun l O' G' H' vs q => z _ _ _ _ _ (by
    obtain ⟨a, h1, h2, h3⟩ := q
    refine ⟨a, h1, h2, ?_⟩
    rintro A O2 ⟨rfl, h4⟩
    exact h3 A h4)
theorem and_T {b : Bool} {A B : Prop} (h : b = true) (q : A) : (b = true → A) ∧ (b = false → B) := ⟨fun _ => q, fun z => (by rw [h] at z; cases z)⟩
theorem and_F {b : Bool} {A B : Prop} (h : b = false) (q : B) : (b = true → A) ∧ (b = false → B) := ⟨fun z => (by rw [h] at z; cases z), fun _ => q⟩
/-! the source of drawn numbers -/
def drA (l c t : Int) : List (Key × As) := [(.inr (S [108, 101, 102, 116]), it l), (.inr (S [99, 101, 108, 108]), it c), (.inr (S [116, 117, 114, 110, 115]), it t)]
theorem left_S : ("left" : Str) = S [108, 101, 102, 116] := by decide +kernel
theorem cell_S : ("cell" : Str) = S [99, 101, 108, 108] := by decide +kernel
theorem turns_S : ("turns" : Str) = S [116, 117, 114, 110, 115] := by decide +kernel
theorem drA_ok {G H : Hp} {d : Addr} {n : Nat} (h : OcOk G H d (.dr n)) : ∃ l c t : Int, 0 ≤ t ∧ t ≤ n ∧ OcOk G H d (.od true (drA l c t)) := by
  obtain ⟨l, c, t, h1, h2, h3⟩ := h
  rw [left_S, cell_S, turns_S] at h1
  exact ⟨l, c, t, h2, h3, _, h1, .cons rfl (.cons rfl (.cons rfl .nil))⟩
theorem drA_dr {G H : Hp} {d : Addr} {n : Nat} {l c t : Int} (h0 : 0 ≤ t) (h1 : t ≤ n) (h : OcOk G H d (.od true (drA l c t))) : OcOk G H d (.dr n) := by
  obtain ⟨vs, h2, h3⟩ := h
  cases h3 with
  | cons a r => cases r with
    | cons b r => cases r with
      | cons c' r =>
        cases r
        rw [show _ = V.int l from a, show _ = V.int c from b, show _ = V.int t from c'] at h2
        exact ⟨l, c, t, by rw [left_S, cell_S, turns_S]; exact h2, h0, h1⟩
theorem Fr.head {E : List Addr} {G0 H0 G H : Hp} {d : Addr} {c c' : OC} {R : OO} (f : Fr E G0 H0 ((d, c) :: R) G H) (hp : c.par = true → c'.par = true) (h : OcOk G H d c → OcOk G H d c') : Fr E G0 H0 ((d, c') :: R) G H := by
  refine ⟨f.gg, f.gh, f.hh, f.hn, f.fr, fun x hx => ?_, f.nd⟩
  rcases List.mem_cons.mp hx with rfl | hx
  · obtain ⟨h1, h2, h3⟩ := f.ow (d, c) List.mem_cons_self
    exact ⟨h1, h2.imp (fun q => ⟨hp q.1, q.2⟩) id, h h3⟩
  · exact f.ow x (List.mem_cons_of_mem _ hx)
theorem GoS.openDr {d : Addr} {n : Nat} {R : OO} {t : TS} {k : Es} (h : ∀ l c u : Int, 0 ≤ u → u ≤ n → GoS L ((d, .od true (drA l c u)) :: R) t k) : GoS L ((d, .dr n) :: R) t k := fun E G0 H0 σ G H D f s e => by
  obtain ⟨l, c, u, h1, h2, h3⟩ := drA_ok (f.ow (d, .dr n) List.mem_cons_self).2.2
  exact h l c u h1 h2 _ _ _ _ _ _ _ (f.head (fun _ => rfl) fun _ => h3) s e
theorem Go.closeDr {d : Addr} {te : TE} (h : Go L O te fun A O1 => ∃ l c u R n, O1 = (d, .od true (drA l c u)) :: R ∧ 0 ≤ u ∧ u ≤ (n : Nat) ∧ k A ((d, .dr n) :: R)) : Go L O te k := fun E G0 H0 σ G H Q f s z =>
  h _ _ _ _ _ _ _ f s fun A O1 G1 H1 v q f1 s1 a => by
    obtain ⟨l, c, u, R, n, rfl, h1, h2, q⟩ := q
    exact z _ _ _ _ _ q (f1.head (fun _ => rfl) (drA_dr h1 h2)) s1 a
/-- a draw -/
abbrev SpDigit : Sp := SpG (fun a : Addr × Int × Nat => 0 < a.2.1 ∧ a.2.1 < 1000000000000 ∧ a.2.2 ≤ 100000000) (fun a => [pt a.1, it a.2.1]) (fun a => [(a.1, .dr a.2.2)]) (fun a A O' => ∃ i : Int, 0 ≤ i ∧ i < a.2.1 ∧ A = it i ∧ O' = [(a.1, .dr (a.2.2 + 4))])
theorem Go.digit {X : XK} (h : GoA L O t fun l O1 => ∃ d m n R, l = [pt d, it m] ∧ O1 = (d, .dr n) :: R ∧ (0 < m ∧ m < 1000000000000 ∧ n ≤ 100000000) ∧ ∀ i : Int, 0 ≤ i → i < m → k (it i) ((d, .dr (n + 4)) :: R)) : Go L O (tCall SpDigit [] X t) k := Go.call (fun a x hx => by rw [List.mem_singleton.mp hx]; rfl) fun E G0 H0 σ G H Q f s z => h _ _ _ _ _ _ _ f s fun l O' G' H' vs q => z _ _ _ _ _ (by
    obtain ⟨d, m, n, R, rfl, rfl, h1, h2⟩ := q
    refine ⟨(d, m, n), R, rfl, rfl, h1, ?_⟩
    rintro A O2 ⟨i, i1, i2, rfl, rfl⟩
    exact h2 i i1 i2)
theorem at_any {α : Type} {xs : List α} {i : Int} (h0 : 0 ≤ i) (h1 : i < xs.length) : ∃ v, atI xs i = some v ∧ v ∈ xs := by
  have h2 : i.toNat < xs.length := by omega
  refine ⟨xs[i.toNat], ?_, List.getElem_mem h2⟩
  unfold atI ixN
  rw [if_pos h0, if_pos h1]
  exact List.getElem?_eq_getElem h2
theorem v_ixLany {xs : List As} {i : Int} (h0 : 0 ≤ i) (h1 : i < xs.length) (q : ∀ A, A ∈ xs → k A O) : V2 O (rIxL K) (lst K xs) (it i) k := by
  obtain ⟨A, h2, h3⟩ := at_any h0 h1
  exact v_ixL h2 (q A h3)
theorem fmod_in {a m : Int} (h : 0 < m) : 0 ≤ a.fmod m ∧ a.fmod m < m := ⟨Int.fmod_nonneg_of_pos a h, Int.fmod_lt_of_pos a h⟩
abbrev SpDraw : Sp := SpG (fun a : Int × Int => 0 ≤ a.2 ∧ a.2 ≤ 100) (fun a => [it a.1, it a.2]) (fun _ => []) (fun _ A O' => ∃ d, A = pt d ∧ O' = [(d, .dr 100000)])
theorem draw_imp {vs : List V} {H : Hp} {Q : VK} {E : XK} (h : SpDraw vs H Q E) : ∃ c k : Int, vs = [.int c, .int k] ∧ 0 ≤ k ∧ k ≤ 100 ∧ ∀ H' d, Same H H' → H d = none → Dr d 100000 H' → Q (.ref d) H' := by
  obtain ⟨⟨c, k⟩, G, h1, h2, h3, h4⟩ := h
  cases h2 with
  | cons a r => cases r with
    | cons b r =>
      cases r
      refine ⟨c, k, by rw [show _ = V.int c from a, show _ = V.int k from b], h1.1, h1.2, fun H' d s n dr => ?_⟩
      have e := h3.ext (Ext.heap h3.gh s)
      refine h4 (pt d) [(d, .dr 100000)] G H' _ ⟨d, rfl, rfl⟩ ⟨e.gg, e.gh, e.hh, e.hn, e.fr, fun x hx => ?_, by simp⟩ rfl
      rw [List.mem_singleton] at hx
      subst hx
      exact ⟨h3.gh.free n, .inr n, dr⟩
theorem fin_Q {α : Type} {post : α → As → Prop} {a : α} {A : As} (h : post a A) : (eR fun A O' => O' = [] ∧ post a A).rt A [] := ⟨rfl, h⟩
theorem Go.callQ2 {α β : Type} {pre : α × β → Prop} {as : α × β → List As} {post : α × β → As → Prop} {X : XK}
    (h : GoA L O t fun l O1 => ∃ a b, l = as (a, b) ∧ pre (a, b) ∧ ∀ A, post (a, b) A → k A O1) : Go L O (tCall (SpQ pre as post) [] X t) k := Go.callQ fun E G0 H0 σ G H Q f s z => h _ _ _ _ _ _ _ f s fun l O' G' H' vs q => z _ _ _ _ _ (by
    obtain ⟨a, b, h1⟩ := q
    exact ⟨(a, b), h1⟩)
theorem Go.callQ3 {α β γ : Type} {pre : α × β × γ → Prop} {as : α × β × γ → List As} {post : α × β × γ → As → Prop} {X : XK}
    (h : GoA L O t fun l O1 => ∃ a b c, l = as (a, b, c) ∧ pre (a, b, c) ∧ ∀ A, post (a, b, c) A → k A O1) : Go L O (tCall (SpQ pre as post) [] X t) k := Go.callQ fun E G0 H0 σ G H Q f s z => h _ _ _ _ _ _ _ f s fun l O' G' H' vs q => z _ _ _ _ _ (by
    obtain ⟨a, b, c, h1⟩ := q
    exact ⟨(a, b, c), h1⟩)
/-! a pick out of a list -/
abbrev SpPick (K : PySem.W.Frag) : Sp := SpG (fun a : Addr × List As × Nat => 0 < a.2.1.length ∧ a.2.1.length ≤ 1000 ∧ a.2.2 ≤ 100000000) (fun a => [pt a.1, lst K a.2.1]) (fun a => [(a.1, .dr a.2.2)]) (fun a A O' => A ∈ a.2.1 ∧ O' = [(a.1, .dr (a.2.2 + 4))])
theorem Go.pick {X : XK} (h : GoA L O t fun l O1 => ∃ d xs n R, l = [pt d, Sy.lst K xs] ∧ O1 = (d, .dr n) :: R ∧ (0 < xs.length ∧ xs.length ≤ 1000 ∧ n ≤ 100000000) ∧ ∀ A : As, A ∈ xs → k A ((d, .dr (n + 4)) :: R)) : Go L O (tCall (SpPick K) [] X t) k := Go.call (fun a x hx => by rw [List.mem_singleton.mp hx]; rfl) fun E G0 H0 σ G H Q f s z => h _ _ _ _ _ _ _ f s fun l O' G' H' vs q => z _ _ _ _ _ (by
    obtain ⟨d, xs, n, R, rfl, rfl, h1, h2⟩ := q
    refine ⟨(d, xs, n), R, rfl, rfl, h1, ?_⟩
    rintro A O2 ⟨i, rfl⟩
    exact h2 A i)
/-! what is owned, otherwise told -/
def FrLe (O O' : OO) : Prop := ∀ (E : List Addr) (G0 H0 G H : Hp), Fr E G0 H0 O G H → Fr E G0 H0 O' G H
theorem FrLe.refl (O : OO) : FrLe O O := fun _ _ _ _ _ f => f
theorem FrLe.trans {O1 O2 O3 : OO} (a : FrLe O1 O2) (b : FrLe O2 O3) : FrLe O1 O3 := fun _ _ _ _ _ f => b _ _ _ _ _ (a _ _ _ _ _ f)
theorem FrLe.perm {O O' : OO} (p : O.Perm O') : FrLe O O' := fun E G0 H0 G H f => ⟨f.gg, f.gh, f.hh, f.hn, f.fr, fun x hx => f.ow x (p.mem_iff.mpr hx), (p.map _).nodup_iff.mp f.nd⟩
theorem FrLe.up {d : Addr} {n m : Nat} (R : OO) (h : n ≤ m) : FrLe ((d, .dr n) :: R) ((d, .dr m) :: R) := fun E G0 H0 G H f => f.head (fun z => z) fun o => Dr.mono o h
theorem FrLe.drop {x : Addr × OC} (R : OO) : FrLe (x :: R) R := fun E G0 H0 G H f => ⟨f.gg, f.gh, f.hh, f.hn, f.fr, fun y hy => f.ow y (List.mem_cons_of_mem _ hy), (List.nodup_cons.mp f.nd).2⟩
theorem GoS.le {O O' : OO} {t : TS} {k : Es} (e : FrLe O O') (h : GoS L O' t k) : GoS L O t k := fun E G0 H0 σ G H D f s z => h _ _ _ _ _ _ _ (e _ _ _ _ _ f) s z
theorem GoS.post {O : OO} {t : TS} {k : Es} (h : GoS L O t { k with nx := fun L' O' => ∃ O2, FrLe O' O2 ∧ k.nx L' O2 }) : GoS L O t k := fun E G0 H0 σ G H D f s e => h _ _ _ _ _ _ _ f s ⟨fun L O σ G H q f z s => by
    obtain ⟨O2, h1, h2⟩ := q
    exact e.nx _ _ _ _ _ h2 (h1 _ _ _ _ _ f) z s, e.rt, e.bk, e.ct⟩
def Hold (p : Prop) : Prop := p
theorem Hold.mk {p : Prop} (h : Hold p) : p := h
theorem GoS.mono {O : OO} {t : TS} {k : Es} (N : LL → OO → Prop) (h : GoS L O t { k with nx := N }) (n : ∀ L O, N L O → k.nx L O) : GoS L O t k := h.imp n (fun _ _ x => x) (fun _ _ x => x) fun _ _ x => x
theorem Go.le {te : TE} (h : Go L O te fun A O1 => ∃ O2, FrLe O1 O2 ∧ k A O2) : Go L O te k := fun E G0 H0 σ G H Q f s z => h _ _ _ _ _ _ _ f s fun A O1 G1 H1 v q f1 s1 a => by
    obtain ⟨O2, h1, h2⟩ := q
    exact z _ _ _ _ _ h2 (h1 _ _ _ _ _ f1) s1 a
/-- a value that is no text -/
def OddA (K : PySem.W.Frag) (U : String) (A : As) : Prop := ∃ T, kitB T U = some false ∧ ∀ (O : OO), TyXA K A O (.type T)
theorem v_isiOdd {A : As} {U : String} (h : OddA K U A) (q : k (bo false) O) : Vn O (rIsi K) [A, cst (.ty U)] k := by
  obtain ⟨T, h1, h2⟩ := h
  exact v_isi (h2 O) h1 q
theorem odd_s_n : OddA K "str" no := ⟨"NoneType", by decide +kernel, fun _ => tx_n⟩
theorem odd_s_i {i : Int} : OddA K "str" (it i) := ⟨"int", by decide +kernel, fun _ => tx_i⟩
theorem odd_s_b {i : Bool} : OddA K "str" (bo i) := ⟨"bool", by decide +kernel, fun _ => tx_b⟩
/-! numbers in figures -/
theorem numS_len {i : Int} (h0 : 0 ≤ i) (h1 : i < 1000000000000) : (numS i).length ≤ 12 := by
  obtain ⟨n, rfl⟩ := Int.eq_ofNat_of_zero_le h0
  rw [show numS (n : Int) = TL.numL n from TL.tl_num n]
  exact TL.numL_len (k := 12) (by decide) (by omega)
theorem nl1 {i : Int} {l : List Nat} (h0 : 0 ≤ i) (h1 : i < 1000000000000) (h : l.length ≤ 1000) : (numS i).length + l.length ≤ 100000 := by have := numS_len h0 h1; omega
theorem nl2 {i : Int} {l : List Nat} (h0 : 0 ≤ i) (h1 : i < 1000000000000) (h : l.length ≤ 1000) : l.length + (numS i).length ≤ 100000 := by have := numS_len h0 h1; omega
theorem nl3 {i : Int} {l m : List Nat} (h0 : 0 ≤ i) (h1 : i < 1000000000000) (h : l.length ≤ 1000) (h' : m.length ≤ 1000) : (l ++ numS i).length + m.length ≤ 100000 := by have := numS_len h0 h1; rw [List.length_append]; omega
theorem v_strN {i : Int} (h0 : 0 ≤ i) (h1 : i < 1000000000000) (q : k (tx (numS i)) O) : Vn O (fun xs H Q => ∃ i, xs = [.int i] ∧ i.natAbs.log2 < 1920 ∧ Q (.str (toString i)) H) [it i] k := v_strI (by
  by_cases z : i.natAbs = 0
  · rw [z]; decide
  · refine (Nat.log2_lt z).mpr (Nat.lt_of_lt_of_le (show i.natAbs < 2 ^ 40 by omega) (Nat.pow_le_pow_right (by decide) (by decide)))) q
/-! small and great letters, by the library's own tables -/
def lowL (a : List Nat) : List Nat := (Txt.lower (S a)).cps.toList
def upL (a : List Nat) : List Nat := (Txt.upper (S a)).cps.toList
theorem S_eta (x : Str) : S x.cps.toList = x := by simp [S]
theorem v_lower {a : List Nat} (h : a.length ≤ 100000) (q : k (tx (lowL a)) O) : Vm O (fun x xs H Q => ∃ a, x = .str a ∧ xs = [] ∧ a.length ≤ 5592405 ∧ Q (.str (Txt.lower a)) H) (tx a) [] k := Vm.sc0 (z := .str (S (lowL a))) (fun _ _ q => ⟨_, rfl, rfl, by rw [S_len]; omega, by rw [← S_eta (Txt.lower (S a))]; exact q⟩) q
theorem v_upper {a : List Nat} (h : a.length ≤ 100000) (q : k (tx (upL a)) O) : Vm O (fun x xs H Q => ∃ a, x = .str a ∧ xs = [] ∧ a.length ≤ 5592405 ∧ Q (.str (Txt.upper a)) H) (tx a) [] k := Vm.sc0 (z := .str (S (upL a))) (fun _ _ q => ⟨_, rfl, rfl, by rw [S_len]; omega, by rw [← S_eta (Txt.upper (S a))]; exact q⟩) q
end
section
variable {K : PySem.W.Frag}
def IsD (K : PySem.W.Frag) (A : As) (d : PyData) : Prop := ∀ G v, A.p G v → Dp K G v d
theorem isD_no : IsD K no .none := fun G v h => by rw [show v = V.non from h]; exact .non
theorem v_eqD {O : OO} {k : As → OO → Prop} {A B : As} {d e : PyData} (h1 : IsD K A d) (h2 : IsD K B e) (s1 : SeqAt.shaped d = true) (s2 : SeqAt.shaped e = true) (q : k (bo (PyData.eqv d e)) O) : V2 O (rEqD K) A B k := fun E G0 H0 G H Q x y f a b zz =>
  ⟨d, e, Dp.mono f.gh _ _ (h1 _ _ a), Dp.mono f.gh _ _ (h2 _ _ b), s1, s2, zz _ _ _ _ _ q f (Same.refl _) rfl⟩
theorem GoS.forE {L : LL} {O : OO} {wi : TI} {g : TG} {tb : TS} {k : Es} (vs : List Nat)
    (h : GoI L O wi fun xs O1 => ∃ (L9 : LL) (P : Nat → OO → Prop), wipeL L vs = L9 ∧ P 0 O1 ∧
      (∀ i A O', xs[i]? = some A → P i O' → GoG L9 A g fun L2 => GoS L2 O' tb { k with nx := fun L' O'' => wipeL L' vs = L9 ∧ P (i + 1) O'', ct := fun L' O'' => wipeL L' vs = L9 ∧ P (i + 1) O'', bk := k.nx }) ∧
      (∀ O', P xs.length O' → k.nx L9 O')) (hk : ∀ L' O', k.nx (wipeL L' vs) O' → k.nx L' O') : GoS L O (tFor wi g tb) k := GoS.for fun E G0 H0 σ G H R fr s z => h _ _ _ _ _ _ _ fr s fun xs O1 G1 H1 J e => z _ _ _ _ _ (by
    obtain ⟨L9, P, rfl, p0, h1, h2⟩ := e
    refine ⟨fun i L' O' => wipeL L' vs = wipeL L vs ∧ P i O', ⟨rfl, p0⟩, fun i A L' O' hA ⟨es, p⟩ => ?_, fun L' O' ⟨es, p⟩ => hk _ _ (by rw [es]; exact h2 O' p)⟩
    refine fun σ G H Q x sm sl a z => h1 i A O' hA p _ _ _ _ _ sm (es ▸ sl.forgets vs) a z)
inductive Keep (p : Prop) : Prop
  | mk (h : p)
  | mk2 (h : p)
theorem Keep.out {p : Prop} (h : Keep p) : p := by
  cases h with
  | mk h => exact h
  | mk2 h => exact h
theorem enA_at {K : PySem.W.Frag} {xs : List As} {i : Nat} {A : As} (h : (enA K xs)[i]? = some A) : ∃ B, xs[i]? = some B ∧ A = tup K [it i, B] := by
  unfold enA at h
  rw [List.getElem?_map] at h
  obtain ⟨⟨p1, p2⟩, hp, rfl⟩ := Option.map_eq_some_iff.mp h
  obtain ⟨h1, h2⟩ := List.getElem?_zip_eq_some.mp hp
  refine ⟨p2, h2, ?_⟩
  unfold nums at h1
  rw [List.getElem?_map] at h1
  obtain ⟨j, hj, rfl⟩ := Option.map_eq_some_iff.mp h1
  have := (List.getElem?_eq_some_iff.mp hj).2
  rw [List.getElem_range] at this
  rw [← this]
theorem enA_len {K : PySem.W.Frag} {xs : List As} : (enA K xs).length = xs.length := by
  unfold enA nums
  simp
theorem all2_it {G : Hp} : ∀ ns : List Int, All2 G (ns.map it) (ns.map V.int)
  | [] => .nil
  | _ :: r => .cons rfl (all2_it r)
end
end Sy
/-! ### more rules: while, divmod, zfill, find, index, order of tuples -/
namespace Sy
open PySem PySem.Spec PyProof.Rows L2
open SX (S S_len S_cat S_inj)
section
variable {K : PySem.W.Frag} {L : LL} {O : OO} {k : As → OO → Prop}
theorem v_find {a b : List Nat} (q : k (it (Txt.find (S a) (S b))) O) : Vm O (fun x xs H Q => ∃ a b, x = .str a ∧ xs = [.str b] ∧ Q (.int (Txt.find a b)) H) (tx a) [tx b] k := Vm.sc1 (z := .int (Txt.find (S a) (S b))) (fun _ _ q => ⟨_, _, rfl, rfl, q⟩) q
theorem v_slT {xs : List As} {lo hi : Option Int} (q : k (tup K (Cj.cut xs lo hi)) O) : Vs O (rSlA K) (tup K xs) lo hi k := fun E G0 H0 G H Q x f a zz => by
  obtain ⟨p, ws, rfl, h1, h2⟩ := a
  refine ⟨p, ws, rfl, SqT.mono f.gh h1, fun hw => ?_, fun _ D nD => ?_⟩
  · refine zz _ _ _ _ _ q f (Same.refl _) ⟨p, ws, rfl, h1, ?_⟩
    have := h2.cut lo hi
    rw [show cutV ws lo hi = ws by unfold cutV; rw [hw.1, hw.2]; simp] at this
    exact this
  · have ex := Ext.new (o := .tup (cutV ws lo hi)) f.gh nD
    exact zz _ _ _ _ _ q (f.ext ex) ex.g ⟨D, _, rfl, .inl (.inl upd_same), (h2.cut lo hi).m ex.g⟩
theorem v_neD {A B : As} {d e : PyData} (h1 : IsD K A d) (h2 : IsD K B e) (s1 : SeqAt.shaped d = true) (s2 : SeqAt.shaped e = true) (q : k (bo (!PyData.eqv d e)) O) : V2 O (rNeD K) A B k := fun E G0 H0 G H Q x y f a b zz =>
  ⟨d, e, Dp.mono f.gh _ _ (h1 _ _ a), Dp.mono f.gh _ _ (h2 _ _ b), s1, s2, zz _ _ _ _ _ q f (Same.refl _) rfl⟩
theorem isD_it {i : Int} : IsD K (it i) (.int i) := fun G v h => by rw [show v = V.int i from h]; exact .int _
theorem isD_tx {l : List Nat} : IsD K (tx l) (.str (S l)) := fun G v h => by rw [show v = V.str (S l) from h]; exact .str _
inductive IsDs (K : PySem.W.Frag) : List As → List PyData → Prop
  | nil : IsDs K [] []
  | cons {A : As} {d : PyData} {xs : List As} {ds : List PyData} : IsD K A d → IsDs K xs ds → IsDs K (A :: xs) (d :: ds)
theorem IsDs.all {G : Hp} : ∀ {xs : List As} {ds : List PyData} {vs : List V}, IsDs K xs ds → All2 G xs vs → DpAll K G vs ds
  | _, _, _, .nil, .nil => .nil
  | _, _, _, .cons h t, .cons a r => .cons (h _ _ a) (IsDs.all t r)
theorem isD_tup {xs : List As} {ds : List PyData} (h : IsDs K xs ds) : IsD K (tup K xs) (.tuple ds) := fun G v z => by
  obtain ⟨a, vs, rfl, h1, h2⟩ := z
  exact .tup h1 (h.all h2)
theorem isD_lst {xs : List As} {ds : List PyData} (h : IsDs K xs ds) : IsD K (lst K xs) (.list ds) := fun G v z => by
  obtain ⟨a, vs, rfl, h1, h2⟩ := z
  exact .lst (SqL.of h1) (h.all h2)
theorem strOk_S {l : List Nat} (h : l.all (fun c => decide (c < 1114112)) = true) : PyData.strOk (S l) = true := by
  unfold PyData.strOk S
  simpa using h
theorem v_neSame {A B : As} {d : PyData} (h1 : IsD K A d) (h2 : IsD K B d) (s : SeqAt.shaped d = true) (q : k (bo false) O) : V2 O (rNeD K) A B k := v_neD h1 h2 s s (by rw [SeqAt.eqv_refl _ (SeqAt.canLay_of_shaped s)]; exact q)
end
end Sy
namespace Sy
open PySem PySem.Spec PyProof.Rows L2
end Sy
namespace Sy
open PySem PySem.Spec PyProof.Rows L2
end Sy
namespace Sy
open PySem PySem.Spec PyProof.Rows L2
open SX (S S_len S_cat S_inj)
section
variable {K : PySem.W.Frag} {L : LL} {O : OO} {k : As → OO → Prop}
theorem ixn {n j : Nat} (hj : j < n) : ixN n (j : Int) = some j := by
  unfold ixN
  rw [if_pos (by omega), if_pos (by omega)]
  simp
/-! owned lists, read -/
/-! targets that store in what is owned -/
def GoGh (L : LL) (O : OO) (A : As) (g : TG) (k : LL → OO → Prop) : Prop :=
  ∀ (E : List Addr) (G0 H0 : Hp) (σ : L2.St) (G H : Hp) (Q : L2.St → Hp → Prop) (x : V), Fr E G0 H0 O G H → Slots G L σ → A.p G x → (∀ L' O' σ' G' H', k L' O' → Fr E G0 H0 O' G' H' → Same G G' → Slots G' L' σ' → Q σ' H') → g x σ H Q
def GoGhs (L : LL) (O : OO) (l : List As) (g : TGs) (k : LL → OO → Prop) : Prop :=
  ∀ (E : List Addr) (G0 H0 : Hp) (σ : L2.St) (G H : Hp) (Q : L2.St → Hp → Prop) (xs : List V), Fr E G0 H0 O G H → Slots G L σ → All2 G l xs → (∀ L' O' σ' G' H', k L' O' → Fr E G0 H0 O' G' H' → Same G G' → Slots G' L' σ' → Q σ' H') → g xs σ H Q
theorem GoS.asgH {k : Es} {te : TE} {g : TG} (h : Go L O te fun A O1 => GoGh L O1 A g k.nx) : GoS L O (tAsg te g) k := fun E G0 H0 σ G H D f s e =>
  h _ _ _ _ _ _ _ f s fun A O1 G1 H1 v q f1 s1 a => q _ _ _ _ _ _ _ _ f1 (s.m s1) a fun L' O' σ' G' H' hk f2 s2 sl => e.nx _ _ _ _ _ hk f2 (s1.trans s2) sl
theorem GoGhs.nil {k : LL → OO → Prop} (q : k L O) : GoGhs L O [] gNil k := fun E G0 H0 σ G H Q xs f s a z => by
  cases a
  exact ⟨rfl, z _ _ _ _ _ q f (Same.refl _) s⟩
theorem GoGhs.cons {A : As} {l : List As} {g : TG} {u : TGs} {k : LL → OO → Prop} (h : GoGh L O A g fun L' O' => GoGhs L' O' l u k) : GoGhs L O (A :: l) (gCons g u) k := fun E G0 H0 σ G H Q xs f s a z => by
  cases a with
  | cons a r => exact ⟨_, _, rfl, h _ _ _ _ _ _ _ _ f s a fun L' O' σ' G' H' q' f' s' sl => q' _ _ _ _ _ _ _ _ f' sl (r.m s') fun L2 O2 σ2 G2 H2 hk f2 s2 sl2 => z _ _ _ _ _ hk f2 (s'.trans s2) sl2⟩
theorem GoGh.tup {l : List As} {n : Nat} {u : TGs} {k : LL → OO → Prop} (hn : l.length = n) (h : GoGhs L O l u k) : GoGh L O (tup K l) (gTup K n u) k := fun E G0 H0 σ G H Q x f s a z => by
  obtain ⟨p, vs, rfl, h1, h2⟩ := a
  exact ⟨p, vs, rfl, SqT.mono f.gh h1, by rw [h2.len, hn], h _ _ _ _ _ _ _ _ f s h2 z⟩
theorem All2.setAt {G : Hp} {A : As} {v : V} (a : A.p G v) : ∀ {l : List As} {vs : List V} (n : Nat), All2 G l vs → All2 G (l.set n A) (vs.set n v)
  | _, _, _, .nil => .nil
  | _, _, 0, .cons _ t => .cons a t
  | _, _, n + 1, .cons h t => .cons h (All2.setAt a n t)
theorem GoGh.sub {to ti : TE} {A : As} {k : LL → OO → Prop} (h : Go L O to fun B O1 => Go L O1 ti fun C O2 => ∃ (D : Addr) (xs : List As) (pre post : OO) (n : Nat), B = pt D ∧ C = it (n : Int) ∧ O2 = pre ++ (D, .ol xs) :: post ∧ n < xs.length ∧ k L (pre ++ (D, .ol (xs.set n A)) :: post)) : GoGh L O A (gSub to ti rSetL) k := fun E G0 H0 σ G H Q x f s a z =>
  h _ _ _ _ _ _ _ f s fun B O1 G1 H1 v q f1 s1 b => q _ _ _ _ _ _ _ f1 (s.m s1) fun C O2 G2 H2 w q2 f2 s2 c => by
    obtain ⟨D, xs, pre, post, n, rfl, rfl, rfl, hn, hk⟩ := q2
    obtain ⟨us, u1, u2⟩ := own_at f2
    have hv : v = .ref D := b
    have hw : w = .int (n : Int) := c
    have hl := u2.len
    refine ⟨D, us, (n : Int), n, hv, hw, u1, ?_, z _ _ _ _ _ hk (Fr.change f2 (fun z => z) ⟨us.set n x, upd_same, u2.setAt (A.m (s1.trans s2) a) n⟩) (s1.trans s2) (s.m (s1.trans s2))⟩
    exact ixn (by omega)
end
end Sy
/-! ### defs called where no repr is under way (guards known): repr of data -/
section
/-- as FnOk, where the guards are known to be none -/
structure FnG (P : Program) (w : World) (K : PySem.W.Frag) (mg : Str → Option Value) (base : Heap) (CX : CXT) (k : Nat) (f : Addr) (fd : FuncData) (ps : List Str) (sp : Sp) : Prop where
  len : ∀ vs H Q E, sp vs H Q E → vs.length = ps.length
  go : ∀ (A : Around) (outer : List Env) (s : Shared) (H : Hp) (args : Args) (us : List Value) (vs : List V) (Q : VK) (E : XK), Room k A → A.guards = some [] → Env0 P w K mg base A outer s H → BindsTo s fd args (ps.zip us) →
    Vals vs us → sp vs H Q E → codeAny (model P w) A (.call (.ref f) args) (CR CX outer P w H s Q E) s
variable {P : Program} {w : World} {K : PySem.W.Frag} {mg : Str → Option Value} {base : Heap} {CX : CXT} {k j : Nat} {f : Addr} {fd : FuncData} {ps : List Str} {sp sp' : Sp}
theorem FnG.imp (F : FnG P w K mg base CX k f fd ps sp) (h : ∀ vs H Q E, sp' vs H Q E → sp vs H Q E) : FnG P w K mg base CX k f fd ps sp' :=
  ⟨fun vs H Q E q => F.len vs H Q E (h _ _ _ _ q), fun A outer s H args us vs Q E hr hg he hb hv hs => F.go A outer s H args us vs Q E hr hg he hb hv (h _ _ _ _ hs)⟩
theorem Fun.okG {x qual : Str} {st : Stmt} {N : List Str} (F : Fun K x qual st f fd) (Sc : FnScope N ps (defScope st)) (len : ∀ vs H Q E, sp vs H Q E → vs.length = ps.length)
    (body : ∀ (cdv : Value) (A : Around) (outer : List Env) (s : Shared) (H : Hp) (vs : List V) (Q : VK) (E : XK), Room k (A.deeper (envOfC qual (defScope st) s.heap.objs.size f cdv)) → A.guards = some [] → sp vs H Q E →
      ∃ t, PSs (cxOf CX0 P w K mg base N qual (defScope st) f cdv A outer s H E).nox (defBody st) t ∧ t { nx := fun _ H' => Q .non H', rt := Q } (L2.start N vs) H) : FnG P w K mg base CX0 (k + 1) f fd ps sp := by
  obtain ⟨oc, od, kV, doc, pm, an, cdv, ct, osl, rfl, lk, hcd⟩ := F.ex
  refine ⟨len, fun A outer s H args us vs Q E hr hg e0 hb r hsp => ?_⟩
  have hl := len _ _ _ _ hsp
  refine StX.run_bnd lk hcd Sc hr e0 (G := fun xs H2 => xs = vs ∧ H2 = H) (fun A' Ex Q' h => ?_) (fun s2 H2 xs g hr' => ?_)
  · exact hb _ _ _ _ (h s H vs us e0 Un.refl rfl (fun _ _ z => z) r hl ⟨rfl, rfl⟩)
  · obtain ⟨rfl, rfl⟩ := g
    obtain ⟨t, ht, q⟩ := body cdv A outer s2 H2 xs Q E hr' hg hsp
    exact ⟨t, ht.nox, q⟩
end
section
variable {X : Cx} {CX : CXT} {k : Nat} {f : Addr} {fd : FuncData} {ps : List Str} {sp : Sp} {x : Str} {p pos : Pos} {e : Expr} {es : List Expr} {t : TA} {ds : List Value} {dvs : List V} {E : XK}
theorem run_fnG {pins : List (Addr × Obj)} {σ : L2.St} {H : Hp} {s : Shared} {Q : VK} {us : List Value} {vs : List V} (F : FnG X.prog X.w X.K X.mg X.base CX k f fd ps sp) (hr : Room k X.A) (gd : X.A.guards = some []) (hb : Binds X.K fd ps ds) (hd : Vals dvs ds) (hx : Passes CX X E)
    (I : Inv X pins σ H s) (r : Vals vs us) (h : sp (vs ++ dvs) H Q E) : wpAny (model X.prog X.w) X.A (PySem.call (.ref f) us) (EP X pins σ Q) X.xe s := by
  have hl := F.len _ _ _ _ h
  have rr := r.append hd
  refine wpAny_call (codeAny_mono (F.go X.A X.stack s H ⟨us, []⟩ (us ++ ds) (vs ++ dvs) Q E hr gd I.env0 (hb s us I.kIn (rr.length.symm.trans hl)) rr h) fun res s' hq => ?_)
  match res, hq with
  | .error u, hq => exact hx pins σ H s u s' I hq
  | .ok (.ret u), hq => exact I.after hq
  | .ok .next, hq => exact hq.elim
  | .ok .brk, hq => exact hq.elim
  | .ok .cont, hq => exact hq.elim
theorem pe_callG (F : FnG X.prog X.w X.K X.mg X.base CX k f fd ps sp) (hr : Room k X.A) (gd : X.A.guards = some []) (hg : Gl X x) (hm : X.mg x = some (.ref f)) (hk : PySem.W.keepIn X.K (.ref f) = true) (hb : Binds X.K fd ps ds) (hd : Vals dvs ds) (hx : Passes CX X E)
    (ha : PA X (e :: es) t) (hdb : (x == ("__debug__" : Str)) = false := by decide) (he : starEach (e :: es) X.env = (false, eval e X.env) :: starEach es X.env := by rfl) (hpl : (backTo pos (starEach es X.env)).any (·.1) = false := by rfl) :
    PE X (.Call (.Name x p) (e :: es) [] pos) (tCall sp dvs E t) := ⟨fun pins s σ H Q I h => wpAny_Call_Name_kw (ld_glob I hg hm (PySem.W.callWith_K (h₀ := X.base) I.ok.mod.kin hk (thn (ha.run pos pins s σ H _ I h) fun _ _ ⟨_, _, I1, r, q⟩ => ⟨I1.kIn, run_fnG F hr gd hb hd hx I1 r q⟩) he hpl) hdb)⟩
end
section
theorem law_runG {P : Program} {w : World} {K : PySem.W.Frag} {mg mb : Str → Option Value} {CX : CXT} {k : Nat} {fa a : Addr} {fd : FuncData} {x : Str} {sp : Sp} {st : Shared} {vs : List Value} {ns : List Int}
    (KX : K.In st.heap) (n1 : st.heap.Ns mainGlobals mg) (n2 : st.heap.Ns builtinsNs mb) (bb : ∀ x : Str, x ≠ "__name__" → mb x = bootBuiltins x) (lim : st.heap.NoLimit) (gs : st.gens = #[])
    (ha : st.heap.get? a = some { cls := .type "list", data := .seq vs.toArray }) (hi : IntsAre vs ns) (hl : ns.length ≤ sizeLine) (hr : Room k callerA)
    (F : ∀ base : Heap, K.In base → base.Ns mainGlobals mg → FnG P w K mg base CX k fa fd [x] sp) (hbind : ∀ (s : Shared) (u : Value), BindsTo s fd ⟨[u], []⟩ [(x, u)])
    (hsp : ∀ H : Hp, Only H → SqL K H a (ns.map V.int) → sp [.ref a] H (fun v _ => v = .bl true) fun _ _ _ => False) (hCX : ∀ H e s', CX [] H st (fun _ _ _ => False) e s' → False) :
    codeAny (model P w) callerA (.call (.ref fa) ⟨[.ref a], []⟩) (fun r s' => r = .ok (.ret (.bool true)) ∧ OldK st.heap s'.heap ∧ s'.os = st.os ∧ AllBare s'.gens) st := by
  have lenV := hi.length
  have main : ∀ H : Hp, Only H → SqL K H a (ns.map V.int) → HOk P w H st.heap → (∀ b, H b ≠ none → b = a ∧ K.lookup a = none) →
      codeAny (model P w) callerA (.call (.ref fa) ⟨[.ref a], []⟩) (fun r s' => r = .ok (.ret (.bool true)) ∧ OldK st.heap s'.heap ∧ s'.os = st.os ∧ AllBare s'.gens) st := by
    intro H hO hS ok own
    have out : ∀ {b : Addr} {o : Obj}, st.heap.get? b = some o → b ≠ a → (hidT st.heap H).get? b = some o := fun {b o} e n => by
      refine hidT_get e ?_
      cases q : H b with
      | none => rfl
      | some u => exact absurd (own b (by rw [q]; simp)).1 n
    have names : ∀ {b : Addr} {m : Str → Option Value}, st.heap.Ns b m → (hidT st.heap H).Ns b m := by
      rintro b m ⟨o, es, ep, e, d, r⟩
      refine ⟨o, es, ep, out e fun z => ?_, d, r⟩
      subst z
      rw [ha] at e
      cases e
      cases d
    have kin : K.In (hidT st.heap H) := fun b o e => by
      cases q : H b with
      | none => exact hidT_get (KX b o e) q
      | some u =>
        obtain ⟨rfl, z⟩ := own b (by rw [q]; simp)
        rw [z] at e
        cases e
    obtain ⟨mc, c1, c2⟩ := lim
    have e0 : Env0 P w K mg (hidT st.heap H) callerA [] st H := ⟨rfl, ⟨kin, names n1, ⟨mb, names n2, bb⟩, mc, names c1, c2⟩, fun b o e => of_hidT e, Nat.le_of_eq (hidT_size _ _), trivial, (fun b z => nomatch z), ok, .of_eq gs⟩
    refine codeAny_mono ((F _ kin (names n1)).go callerA [] st H ⟨[.ref a], []⟩ [.ref a] [.ref a] _ _ hr rfl e0 (hbind st (.ref a)) (.cons rfl .nil) (hsp H hO hS)) fun res s' h => ?_
    match res, h with
    | .error e, h => exact (hCX H e s' h).elim
    | .ok .next, h => exact h.elim
    | .ok .brk, h => exact h.elim
    | .ok .cont, h => exact h.elim
    | .ok (.ret u), h =>
      obtain ⟨v, H', os, bare, un, ok', rv, q⟩ := h
      obtain rfl : v = .bl true := q
      obtain rfl : u = Value.bool true := rv
      refine ⟨rfl, OldK.of_keep fun b o e => ?_, os, bare⟩
      rcases hO b with z | ⟨ob, xs, z⟩
      · exact un.keep b o e z (fun y => nomatch y) (fun y => nomatch y)
      · obtain ⟨e1, _⟩ := ok b _ z
        obtain ⟨e2, _⟩ := ok' b _ (un.frzs b ob _ z)
        rw [e1] at e
        cases e
        exact e2
  have rv := vals_ints hi
  cases hk : K.lookup a with
  | some o =>
    have e := KX a o hk
    rw [ha] at e
    cases e
    exact main (fun _ => none) (fun _ => .inl rfl) (.inr ⟨_, vs.toArray, _, hk, rfl, rfl, rfl, by rw [List.size_toArray, lenV]; exact hl, by simpa using rv⟩) (fun b u z => nomatch (show (none : Option HO) = some u from z)) fun b z => absurd rfl z
  | none =>
    have at_a : ∀ b u, (if b = a then some (HO.frz { cls := .type "list", data := .seq vs.toArray } (.lst (ns.map V.int))) else none) = some u → b = a ∧ u = HO.frz { cls := .type "list", data := .seq vs.toArray } (.lst (ns.map V.int)) := fun b u z => by
      by_cases hb : b = a
      · rw [if_pos hb] at z
        exact ⟨hb, (Option.some.inj z).symm⟩
      · rw [if_neg hb] at z
        cases z
    refine main (fun b => if b = a then some (.frz { cls := .type "list", data := .seq vs.toArray } (.lst (ns.map V.int))) else none) (fun b => ?_) (.inl (.inr ⟨{ cls := .type "list", data := .seq vs.toArray }, if_pos rfl⟩)) (fun b u z => ?_) (fun b z => ⟨?_, hk⟩)
    · by_cases hb : b = a
      · exact .inr ⟨_, _, if_pos hb⟩
      · exact .inl (if_neg hb)
    · obtain ⟨rfl, rfl⟩ := at_a b u z
      exact ⟨ha, by rw [List.length_map]; exact hl, vs, _, rv, ha⟩
    · cases q : (if b = a then some (HO.frz { cls := .type "list", data := .seq vs.toArray } (.lst (ns.map V.int))) else none) with
      | none => exact absurd q z
      | some u => exact (at_a b u q).1
/-- the end of a law whose defs want the guards known -/
theorem walk_G {l : PySem.W.OpenLaw} {n k : Nat} {q : Program} {loose : List Str} {XP : (Str → Option Value) → Heap → Prop} {YP : World → Heap → Prop} {d : DefRec} {K : Params → PySem.W.Frag} {CX : World → CXT} {sp : World → Sp} {x : Str}
    (hn : l.most = some n) (h2 : n ≤ sizeLine) (hdf : d.params.defaults = []) (hr : Room k callerA) (hY : ∀ (w : World) (h : Heap), YP w h → (K w.params).In h)
    (F : ∀ (w : World) (mg : Str → Option Value) (fa : Addr) (h : Heap), (K w.params).In h → h.Ns mainGlobals mg → mg d.name = some (.ref fa) →
      ∃ fd : FuncData, (∀ (s : Shared) (u : Value), BindsTo s fd ⟨[u], []⟩ [(x, u)]) ∧ ∀ base : Heap, (K w.params).In base → base.Ns mainGlobals mg → FnG l.prog w (K w.params) mg base (CX w) k fa fd [x] (sp w))
    (hsp : ∀ (w : World) (H : Hp) (a : Addr) (ns : List Int), ns.length ≤ n → Only H → SqL (K w.params) H a (ns.map V.int) → sp w [.ref a] H (fun v _ => v = .bl true) fun _ _ _ => False)
    (hCX : ∀ (w : World) (H : Hp) (s : Shared) (e : Value) (s' : Shared), CX w [] H s (fun _ _ _ => False) e s' → False) : PySem.W.WalkO q loose XP YP l.row.toRowW d [] (fun f vs => PySem.call f vs) :=
  Att.attach_call hn hdf fun w s₀ st mg mb fa o pm cd doc a vs ns G Y ho hd hcd hmg hobj hints hlen hg => by
    obtain ⟨fd, hb, hF⟩ := F w mg fa _ (hY w _ Y) G.T.g hmg
    exact law_runG (hY w _ Y) G.T.g G.T.b G.T.builtins G.T.nolimit hg hobj hints (Nat.le_trans hlen h2) hr hF hb (fun H hO hS => hsp w H a ns hlen hO hS) fun H e s' => hCX w H st e s'
end
/-! ### repr in the symbolic layer; defs under known guards -/
namespace Sy
open PySem PySem.Spec PyProof.Rows L2
open SX (S S_len S_cat S_inj)
theorem fnG_sy {P : Program} {w : World} {K : PySem.W.Frag} {mg : Str → Option Value} {base : Heap} {α : Type} {pre : α → Prop} {as : α → List As} {oin : α → OO} {post : α → As → OO → Prop} {x qual : Str} {st : Stmt} {f : Addr} {fd : FuncData} {N ps : List Str} {k : Nat}
    (F : Fun K x qual st f fd) (Sc : FnScope N ps (defScope st)) (len : ∀ a, pre a → (as a).length = ps.length)
    (body : ∀ (a : α) (cdv : Value) (A : Around) (outer : List Env) (s : Shared) (H : Hp) (E : XK), Room k (A.deeper (envOfC qual (defScope st) s.heap.objs.size f cdv)) → A.guards = some [] → pre a →
      ∃ t, PSs (cxOf CX0 P w K mg base N qual (defScope st) f cdv A outer s H E).nox (defBody st) t ∧ GoS (startL N (as a)) (oin a) t (eR (post a))) :
    FnG P w K mg base CX0 (k + 1) f fd ps (SpG pre as oin post) := by
  refine Cj.Fun.okG F Sc (fun vs H Q E h => ?_) (fun cdv A outer s H vs Q E hr gd h => ?_)
  · obtain ⟨a, G, h1, h2, _⟩ := h
    rw [h2.len, len a h1]
  · obtain ⟨a, G, h1, h2, h3, h4⟩ := h
    obtain ⟨t, ht, hg⟩ := body a cdv A outer s H E hr gd h1
    refine ⟨t, ht, hg _ _ _ _ _ _ _ h3 ?_ ⟨fun L O σ G' H' q f z s => h4 _ _ _ _ _ q f rfl, fun A O G' H' v q f z a => h4 _ _ _ _ _ q f a, fun _ _ _ _ _ q => q.elim, fun _ _ _ _ _ q => q.elim⟩⟩
    have e : L2.start N vs = vs.map some ++ List.replicate (N.length - (as a).length) none := by
      unfold L2.start
      rw [h2.len]
    rw [e]
    exact Slots.start _ h2
section
variable {K : PySem.W.Frag} {O : OO} {k : As → OO → Prop}
def shw (d : PyData) : List Nat := d.shown.cps.toList
end
end Sy
/-! ### own error classes: __init__ says super().__init__(text), then keeps one field -/
namespace ExS
open PySem PySem.Spec PyProof.Rows L2 PySem.W PySem.Calls NdefX
/-- what the written part says of the class at C: its __init__ is the def at fI, closed over C itself -/
structure ExcK (P : Program) (K : Frag) (C fI : Addr) : Prop where
  T : OexC K C
  iC : findIn K (.ref C) "__init__" = some (some (.ref fI))
  tI : typeIn K (.ref fI) = some (.type "function")
  me : mroIn K C (.ref C) = some true
  any : nsIn K cStatics "thirdparty.any" = some none
  up : ks_superIn K C C "__init__" = some (some (.builtin "ValueError.__init__"))
  isV : subIn K (.ref C) (.type "ValueError") = some true
  top : (P.main.scope.names.lookup ("super" : Str)).isSome = false
/-- the promise of such an __init__ -/
def spI (C : Addr) (fld : Str) : Sp := fun vs H Q _ => ∃ (a : Addr) (y : V), vs = [.ref a, y] ∧ H a = some (exo a C none) ∧
  ∀ dx, H dx = none → dx ≠ a → Q .non (upd (upd H dx (exd dx [(fld, y)])) a (exo a C (some dx)))
abbrev iBody (pn fld txt : Str) (j : Nat) (p0 p1 p2 p3 p4 p5 q0 q1 q2 q3 : Pos) : List Stmt :=
  [.Expr (.Call (.Attribute (.Call (.Name "super" p0) [] [] p1) "__init__" p2) [.Constant (.str txt) j p3] [] p4) p5, .Assign [.Attribute (.Name "self" q0) fld q1] (.Name pn q2) q3]
section
variable {X : Cx} {pins : List (Addr × Obj)} {σ : L2.St} {H : Hp} {s : Shared} {C x u : Addr} {rest : List Value} {A : Around} {E : Value → Shared → Prop} {Q : Value → Shared → Prop}
/-- the bound ValueError.__init__ called: nothing of it is told -/
theorem call_mw (T : OexC X.K C) (I : Inv X pins σ H s) (e : H x = some (exo x C none)) (hu : s.heap.get? u = some (kxs_mw "ValueError.__init__" x)) (hz : rest.length ≤ sizeLine) (h : ∀ s', Inv X pins σ H s' → Q .none s') :
    wpAny (model X.prog X.w) A (call (.ref u) rest) Q E s := by
  obtain ⟨nm, q, N, bs, bm, sn, sub, ab, col, dd, k0, k1, k2, k3, k5, hC, hbm⟩ := T.cls
  obtain ⟨t1, ho⟩ := exo_at I.hok e
  have hCs := I.kIn _ _ hC
  obtain ⟨hp, g, d, t, os⟩ := s
  refine wpAny_call (codeAny_of_tree (show wpAny _ A.in1 (callAny (.ref u) ⟨rest, []⟩) _ _ _ from ?_))
  simp only [callAny]
  refine wpAny_bind (wpAny_load hu ?_)
  have m1 : (Value.type "method-wrapper" == Value.type "method" || Value.type "method-wrapper" == Value.type "builtin_function_or_method" || Value.type "method-wrapper" == Value.type "method-wrapper") = true := by decide
  simp only [kxs_mw, m1, if_true]
  refine KFB.if_so (by decide) (wpAny_bind (check_bound_init F.excBase_ValueError.toExcCallFacts hCs ho rfl (wpAny_bind (wpAny_pure (wpAny_pure ⟨plainId_quiet F.excBase_ValueError.init.plain _, codeAny_builtin F.excBase_ValueError.initEntry ?_⟩)))))
  refine exc_init_tree (cls := .ref C) (t0 := t1) (dv := none) (c2 := .none) (c3 := .none) (b4 := .bool false) ho hz fun h' k hx _ => ?_
  have J := I.write (t' := t) (x := x) (e := x) (o := exo x C none) (by rw [e]; trivial) (.inl rfl) k ⟨_, hx⟩ (exo_ok hx)
  have eu : upd H x (exo x C none) = H := funext fun b => by
    by_cases hb : b = x
    · rw [hb, upd_same, e]
    · exact upd_ne hb
  exact h _ (eu ▸ J)
end
theorem mc_same {o : Expr} {name : Str} {apos pos : Pos} {env : Env} {ov : Value} {n : Nat} {args : List (Bool × Sem Value)} (hf : methodCallForm n args [] = true) (hl : (apos.endLine == pos.line) = true) :
    methodCall o name apos pos env ov n args [] = (do let (f, first) ← holding [ov] (getMethod ov name (do return (← importBound o env).getD true)); callWith pos f first args []) := by
  unfold methodCall methodCallPos calleeOf
  simp only [hf, hl, Bool.not_true, Bool.false_or, if_true, pure_bind]
section
variable {P : Program} {w : World} {K : Frag} {mg : Str → Option Value} {base : Heap} {C fI cc cda : Addr} {qual pn fld txt : Str} {params : Arguments} {body : List Stmt} {scope : Scope} {dV kV doc pm ct oc ccl cl : Value} {an od cdd cld : Option Addr}
  {osl ccs csl : Array (Option Value)} {vs : Array Value} {file : Str} {tf : Tok} {p0 p1 p2 p3 p4 p5 q0 q1 q2 q3 : Pos} {j k : Nat} {ar : Arg}
theorem init_ok (X : ExcK P K C fI) (lk : K.lookup fI = some ⟨oc, od, .func (ksFn "__init__" qual params body scope dV kV doc pm an (.ref cda) ct cc), osl⟩) (hcd : codeIn K (.ref cda) qual = true) (hcode : K.lookup cda = some ⟨ccl, cdd, .fields vs, ccs⟩)
    (hvs : vs[2]? = some (.str file tf)) (hfile : ((P.main.file : Str) == file) = true) (hcell : K.lookup cc = some ⟨cl, cld, .cell (some (.ref C)), csl⟩) (hS : mg "super" = none) (hno : findIn K (.ref C) fld = some none)
    (hB : body = iBody pn fld txt j p0 p1 p2 p3 p4 p5 q0 q1 q2 q3) (hp : (params.posonlyargs ++ params.args).head? = some ar) (ha : ar.arg = "self") (Sc : NScope ["self", pn, "__class__"] ["self", pn] ["__class__"] scope)
    (hks : scope.names.lookup ("super" : Str) = some .globalImplicit) (hln : (p2.endLine == p4.line) = true) (hpd : (pn == ("__debug__" : Str)) = false) (hpc : (pn == ("__classdict__" : Str)) = false) :
    FnOk P w K mg base CX0 (k + 1) fI (ksFn "__init__" qual params body scope dV kV doc pm an (.ref cda) ct cc) ["self", pn] (spI C fld) := by
  subst hB
  refine ⟨fun vs H Q E ⟨a, y, e, _⟩ => by rw [e]; rfl, fun A outer s H args us ws Q E hr e0 hb r hsp => ?_⟩
  obtain ⟨a, y, rfl, hae, hq⟩ := hsp
  obtain ⟨u0, u, rfl, r0, r1⟩ : ∃ u0 u, us = [u0, u] ∧ RelV (.ref a) u0 ∧ RelV y u := by
    cases r with
    | cons ra r' =>
      cases r' with
      | cons rb r'' =>
        cases r''
        exact ⟨_, _, rfl, ra, rb⟩
  obtain rfl : u0 = Value.ref a := r0
  obtain ⟨nm, q, N, bs, bm, sn, sub, ab, col, dd, k0, k1, k2, k3, k5, hC, hbm⟩ := X.T.cls
  have hcl : clsIn K C = some { name := nm, bases := bs, mro := .ref C :: bm, ns := N, qualname := q, hasDict := true, slotNames := sn, subclasses := sub, abstract := ab, collection := col, hasDel := false } := by
    unfold clsIn
    rw [hC]
  have up := X.up
  unfold ks_superIn at up
  rw [hcl] at up
  have KX : K.In s.heap := e0.mod.kin.keeps fun b o e => (e0.bs b o e).1
  have nd := Sc.nd
  have nd2 : (["self", pn] : List Str).Nodup := nd.sublist (by simp)
  have hcb : ∀ o, K.lookup cc = some o → H cc = none := fun o e => (e0.bs cc o (e0.mod.kin cc o e)).2
  have Cl : CellsAt [("__class__", cc)] ["__class__"] [none] s.heap H := by
    have key : ∀ {z : Str} {c : Addr}, ([("__class__", cc)] : List (Str × Addr)).lookup z = some c → z = "__class__" ∧ c = cc := fun {z c} e => by
      by_cases hz : z = "__class__"
      · subst hz
        exact ⟨rfl, by simpa [List.lookup] using e.symm⟩
      · have hf : (z == ("__class__" : Str)) = false := by simpa using hz
        simp [List.lookup, hf] at e
    refine ⟨rfl, fun z c e => ?_, fun z z' c e1 e2 => (key e1).1.trans (key e2).1.symm, fun i z e => ?_⟩
    · obtain ⟨_, rfl⟩ := key e
      exact ⟨hcb _ hcell, _, _, KX _ _ hcell, rfl⟩
    · match i, e with
      | 0, e =>
        obtain rfl : "__class__" = z := by simpa using e
        exact ⟨cc, rfl, fun v e => by cases e⟩
      | i + 1, e => simp at e
  refine ks_codeAny_call_defAt (binds := (["self", pn] : List Str).zip [Value.ref a, u]) hr.depth (KX _ _ lk) rfl (e0.mod.nolimit.keeps fun b o e => (e0.bs b o e).1) (codeRec_of KX hcd) rfl hb Sc.nocell (fun ⟨z, _⟩ hz => Sc.par z (List.of_mem_zip hz).1) (fun h₁ hns kp => ?_) Sc.co Sc.gen Sc.kind
  have I : Inv (ncx CX0 P w K mg base ["self", pn, "__class__"] ⟨"__init__", qual, params, iBody pn fld txt j p0 p1 p2 p3 p4 p5 q0 q1 q2 q3, scope, [("__class__", cc)], cda⟩ fI A outer s H E) [] (startF ["self", pn, "__class__"] [.ref a, y] [none]) H
      { s with heap := h₁, toks := s.toks + ((["self", pn] : List Str).zip [Value.ref a, u]).length } := inv_startN Sc hr.hd e0 rfl (.cons rfl (.cons r1 .nil)) Cl hns kp
  have K1 : K.In h₁ := I.kIn
  obtain ⟨t1, ho⟩ := exo_at I.hok hae
  obtain ⟨mb, hmb, hbb⟩ := e0.mod.blt
  have k1 : ∀ b o, base.get? b = some o → h₁.get? b = some o := I.bk
  have hne : a ≠ C := fun z => by
    have e1 := K1 _ _ hC
    rw [← z] at e1
    rw [show h₁.get? a = _ from ho] at e1
    cases e1
  have hi : interactive (callEnv (ksFn "__init__" qual params (iBody pn fld txt j p0 p1 p2 p3 p4 p5 q0 q1 q2 q3) scope dV kV doc pm an (.ref cda) ct cc) s.heap.objs.size fI) = false := by
    have hk : (callEnv (ksFn "__init__" qual params (iBody pn fld txt j p0 p1 p2 p3 p4 p5 q0 q1 q2 q3) scope dV kV doc pm an (.ref cda) ct cc) s.heap.objs.size fI).scope.kind = .function := Sc.kind
    unfold interactive
    rw [hk]
    rfl
  refine ks_wpAt_execs_cons (ks_wpAt_Expr_any (hi := hi) (ks_wpAt_MethodCall (pl := (do return (← importBound (.Call (.Name "super" p0) [] [] p1) (callEnv (ksFn "__init__" qual params (iBody pn fld txt j p0 p1 p2 p3 p4 p5 q0 q1 q2 q3) scope dV kV doc pm an (.ref cda) ct cc) s.heap.objs.size fI)).getD true)) (he := by
    refine Eq.trans (b := (do
      let ov ← attributeBase (.Call (.Name "super" p0) [] [] p1) "__init__" (callEnv (ksFn "__init__" qual params (iBody pn fld txt j p0 p1 p2 p3 p4 p5 q0 q1 q2 q3) scope dV kV doc pm an (.ref cda) ct cc) s.heap.objs.size fI) (eval (.Call (.Name "super" p0) [] [] p1) (callEnv (ksFn "__init__" qual params (iBody pn fld txt j p0 p1 p2 p3 p4 p5 q0 q1 q2 q3) scope dV kV doc pm an (.ref cda) ct cc) s.heap.objs.size fI))
      standAt p2.atName
      methodCall (.Call (.Name "super" p0) [] [] p1) "__init__" p2 p4 (callEnv (ksFn "__init__" qual params (iBody pn fld txt j p0 p1 p2 p3 p4 p5 q0 q1 q2 q3) scope dV kV doc pm an (.ref cda) ct cc) s.heap.objs.size fI) ov 1 (backTo p4 (starEach [.Constant (.str txt) j p3] (callEnv (ksFn "__init__" qual params (iBody pn fld txt j p0 p1 p2 p3 p4 p5 q0 q1 q2 q3) scope dV kV doc pm an (.ref cda) ct cc) s.heap.objs.size fI))) [])) rfl ?_
    simp only [mc_same (show methodCallForm 1 (backTo p4 (starEach [.Constant (.str txt) j p3] (callEnv (ksFn "__init__" qual params (iBody pn fld txt j p0 p1 p2 p3 p4 p5 q0 q1 q2 q3) scope dV kV doc pm an (.ref cda) ct cc) s.heap.objs.size fI))) [] = true from rfl) hln]) (ks_wpAt_super_base hks (Sc.frk _ (by simp)) (by decide) rfl (K1 _ _ lk) rfl hp rfl (K1 _ _ hcode) rfl hvs hfile X.top ?_)))
  refine ks_loadName_global Sc.kind hks (loadGlobal_builtin (e0.mod.glob.keeps k1) hS (hmb.keeps k1) ((hbb _ (by decide +kernel)).trans (by kernel_rfl)) ⟨rfl, ?_⟩)
  refine wpAny_loadName_free Sc.kind (Sc.frk _ (by simp)) rfl ⟨_, K1 _ _ hcell, rfl⟩ ?_
  rw [ha]
  refine wpAny_loadName_local Sc.kind (Sc.par _ (by simp)) hns (zip_look (i := 0) nd2 rfl rfl) (ks_wpAny_isType_cls (K1 _ _ hC) rfl ⟨rfl, ?_⟩)
  refine ks_wpAny_call_super (K1 _ _ hC) rfl ho rfl (fun c e => by cases e) (looks_mroIn K1 X.me) fun h2 e2 kp2 => ?_
  have I2 := I.kept (t' := s.toks + ((["self", pn] : List Str).zip [Value.ref a, u]).length) kp2
  have K2 : K.In h2 := I2.kIn
  have IA : InstAt h2 a _ C none := ⟨kp2 _ _ ho, rfl, rfl, trivial⟩
  refine kxs_getMethod kxs_ValueError e2 (looks_opaque K2 X.any) (l₀ := .ref C :: bm) (fun A Q E s k q => wpAny_bind ((looks_clsIn K2 hcl) A _ E s k (wpAny_pure q))) rfl K2 up (IA.type.andThen (looks_subIn K2 X.isV)) hne (by decide) ?_
  have kp3 : ∀ b o, h2.get? b = some o → (h2.push (kxs_mw "ValueError.__init__" a)).get? b = some o := fun b o e => Heap.get?_push_of_some _ e
  refine kxs_callWith (i := "ValueError.__init__") (x := a) rfl (evalArgs_plain (spliced_cons (Constant_str (x := txt) (k := j) (pos := p3) (spliced_nil ?_))))
  refine ⟨Heap.get?_push_size h2 rfl, ?_⟩
  refine call_mw X.T (I2.kept kp3) hae (Heap.get?_push_size h2 rfl) (by show 1 ≤ sizeLine; rw [sizeLine_eq]; omega) fun s3 I3 => ?_
  refine wpAt_of_wpAny (wpAny_mono ((pss_one (ps_ost (f := fld) (pe_var (i := 0) rfl (.inl (Sc.par _ (by simp)))) (pe_var (i := 1) rfl (.inl (Sc.par _ (by simp))) hpd hpc))).run [] s3 _ H { nx := fun _ H' => Q .non H', rt := Q } I3 ?_) (fun fl s' hs => ?_) fun e s' hs => hs)
  · exact ⟨y, rfl, .ref a, rfl, a, C, rfl, X.T, hno, .inl ⟨hae, fun dx n1 n2 => hq dx n1 n2⟩⟩
  · cases fl with
    | next =>
      obtain ⟨σ', H', J, q⟩ := hs
      exact ⟨V.non, H', J.os, J.bare, J.base, J.hok, rfl, q⟩
    | ret u =>
      obtain ⟨v, σ', H', J, rv, q⟩ := hs
      exact ⟨v, H', J.os, J.bare, J.base, J.hok, rv, q⟩
    | brk =>
      obtain ⟨_, _, _, q⟩ := hs
      exact q.elim
    | cont =>
      obtain ⟨_, _, _, q⟩ := hs
      exact q.elim
end
end ExS
/-! ### raising: what is wished of an exception, told by its class, its fields, the slots and what is owned -/
namespace Sy
open PySem PySem.Spec PyProof.Rows L2
open SX (S S_len S_cat S_inj)
abbrev XP := Value → List (Str × As) → LL → OO → Prop
/-- the fields of an exception's dict -/
def FsOk (G : Hp) (fs : List (Str × As)) (vs : List (Str × V)) : Prop := ∀ f A, fs.lookup f = some A → ∃ v, vs.lookup f = some v ∧ A.p G v
theorem FsOk.m {G G' : Hp} {fs : List (Str × As)} {vs : List (Str × V)} (h : FsOk G fs vs) (e : Same G G') : FsOk G' fs vs := fun f A q => by
  obtain ⟨v, h1, h2⟩ := h f A q
  exact ⟨v, h1, A.m e h2⟩
theorem look_cons {β : Type} (f g : Str) (y : β) (fs : List (Str × β)) : ((f, y) :: fs).lookup g = if g = f then some y else fs.lookup g := by
  by_cases h : g = f
  · subst h
    simp [List.lookup]
  · have e : (g == f) = false := by simpa using h
    rw [if_neg h]
    simp [List.lookup, e]
theorem FsOk.one {G : Hp} {f : Str} {A : As} {v : V} (h : A.p G v) : FsOk G [(f, A)] [(f, v)] := fun g B q => by
  rw [look_cons] at q
  by_cases e : g = f
  · rw [if_pos e] at q
    cases q
    exact ⟨v, by rw [look_cons, if_pos e], h⟩
  · rw [if_neg e] at q
    cases q
/-- an exception with what x says is taken by the wish W -/
def Acc (W : WX) (x : XP) (E : List Addr) (G0 H0 G : Hp) : Prop :=
  ∀ cls fs L O σ G' H' dx vs, x cls fs L O → Fr E G0 H0 O G' H' → Same G G' → Slots G' L σ → G' dx = some (.xd vs) → FsOk G' fs vs → W cls (some dx) σ H'
theorem Acc.m {W : WX} {x : XP} {E : List Addr} {G0 H0 G G' : Hp} (h : Acc W x E G0 H0 G) (s : Same G G') : Acc W x E G0 H0 G' := fun cls fs L O σ G2 H2 dx vs q f z => h cls fs L O σ G2 H2 dx vs q f (s.trans z)
def GoW (W : WX) (x : XP) (L : LL) (O : OO) (t : TE) (k : As → OO → Prop) : Prop :=
  ∀ (E : List Addr) (G0 H0 : Hp) (σ : L2.St) (G H : Hp) (Q : VK), Fr E G0 H0 O G H → Slots G L σ → Post E G0 H0 G k Q → Acc W x E G0 H0 G → t σ H Q
def GoWA (W : WX) (x : XP) (L : LL) (O : OO) (t : TA) (k : List As → OO → Prop) : Prop :=
  ∀ (E : List Addr) (G0 H0 : Hp) (σ : L2.St) (G H : Hp) (Q : List V → Hp → Prop), Fr E G0 H0 O G H → Slots G L σ → (∀ l O' G' H' vs, k l O' → Fr E G0 H0 O' G' H' → Same G G' → All2 G' l vs → Q vs H') → Acc W x E G0 H0 G → t σ H Q
def GoWT (W : WX) (x : XP) (L : LL) (O : OO) (t : TT) (k : Bool → OO → Prop) : Prop :=
  ∀ (E : List Addr) (G0 H0 : Hp) (σ : L2.St) (G H : Hp) (Q : Bool → Hp → Prop), Fr E G0 H0 O G H → Slots G L σ → (∀ b O' G' H', k b O' → Fr E G0 H0 O' G' H' → Same G G' → Q b H') → Acc W x E G0 H0 G → t σ H Q
def GoSW (W : WX) (x : XP) (L : LL) (O : OO) (t : TS) (k : Es) : Prop :=
  ∀ (E : List Addr) (G0 H0 : Hp) (σ : L2.St) (G H : Hp) (D : Ends), Fr E G0 H0 O G H → Slots G L σ → EndsOk E G0 H0 G D k → Acc W x E G0 H0 G → t D σ H
/-- raise C(..) -/
def tRz (W : WX) (t : L2.St → Hp → XK → Prop) : TS := fun _ σ H => t σ H fun cls d H' => W cls d σ H'
theorem ps_rz {X : Cx} {W : WX} {e : Expr} {t : L2.St → Hp → XK → Prop} {pos : Pos} (hc : X.calm = true) (tk : Takes X W) (he : PMk X e t) : PS X (.Raise (some e) none pos) (tRz W t) := ps_raise hc tk he
/-- a promise that tells of what is raised, too -/
def SpX {α : Type} (pre : α → Prop) (as : α → List As) (oin : α → OO) (post : α → As → OO → Prop) (rp : α → Value → List (Str × As) → OO → Prop) : Sp := fun vs H Q E => ∃ a G, pre a ∧ All2 G (as a) vs ∧ Fr ((oin a).map (·.1)) G H (oin a) G H ∧
  (∀ A O' G' H' v, post a A O' → Fr ((oin a).map (·.1)) G H O' G' H' → A.p G' v → Q v H') ∧
  ∀ cls fs O' G' H' dx ds, rp a cls fs O' → Fr ((oin a).map (·.1)) G H O' G' H' → G' dx = some (.xd ds) → FsOk G' fs ds → E cls (some dx) H'
theorem passF {X : Cx} {P : Program} {w : World} : Passes (L2.CX P w) X (fun _ _ _ => False) := fun _ _ _ _ _ _ _ ⟨_, _, _, _, _, _, _, _, _, _, _, _, h⟩ => h.elim
section
variable {K : PySem.W.Frag} {L : LL} {O : OO} {W : WX} {x : XP} {k : As → OO → Prop} {ta tb te : TE} {t : TA} {tt : TT}
theorem GoW.up (h : Go L O te k) : GoW W x L O te k := fun E G0 H0 σ G H Q f s z _ => h E G0 H0 σ G H Q f s z
theorem GoWA.up {k : List As → OO → Prop} (h : GoA L O t k) : GoWA W x L O t k := fun E G0 H0 σ G H Q f s z _ => h E G0 H0 σ G H Q f s z
theorem GoWT.up {k : Bool → OO → Prop} (h : GoT L O tt k) : GoWT W x L O tt k := fun E G0 H0 σ G H Q f s z _ => h E G0 H0 σ G H Q f s z
theorem GoSW.up {u : TS} {k : Es} (h : GoS L O u k) : GoSW W x L O u k := fun E G0 H0 σ G H D f s e _ => h E G0 H0 σ G H D f s e
theorem GoWA.cons {k : List As → OO → Prop} (h : GoW W x L O ta fun A O1 => GoWA W x L O1 t fun l O2 => k (A :: l) O2) : GoWA W x L O (tCons ta t) k := fun E G0 H0 σ G H Q f s z c =>
  h _ _ _ _ _ _ _ f s (fun A O1 G1 H1 y hr f1 s1 a => hr _ _ _ _ _ _ _ f1 (s.m s1) (fun l O2 G2 H2 vs hk f2 s2 b => z _ _ _ _ _ hk f2 (s1.trans s2) (.cons (A.m s2 a) b)) (c.m s1)) c
theorem GoW.tup (h : GoWA W x L O t fun l O1 => l.length ≤ 100000 ∧ k (tup K l) O1) : GoW W x L O (tTup t) k := fun E G0 H0 σ G H Q f s z c =>
  h _ _ _ _ _ _ _ f s (fun l O1 G1 H1 vs hk f1 s1 a => ⟨a.sz hk.1, fun p np => by
    have e := Ext.new (o := .tup vs) f1.gh np
    exact z _ _ _ _ _ hk.2 (f1.ext e) (s1.trans e.g) ⟨p, vs, rfl, .inl (.inl upd_same), a.m e.g⟩⟩) c
theorem GoW.lst (h : GoWA W x L O t fun l O1 => l.length ≤ 100000 ∧ k (lst K l) O1) : GoW W x L O (tLst t) k := fun E G0 H0 σ G H Q f s z c =>
  h _ _ _ _ _ _ _ f s (fun l O1 G1 H1 vs hk f1 s1 a => ⟨a.sz hk.1, fun p np => by
    have e := Ext.new (o := .lst vs) f1.gh np
    exact z _ _ _ _ _ hk.2 (f1.ext e) (s1.trans e.g) ⟨p, vs, rfl, upd_same, a.m e.g⟩⟩) c
theorem GoW.op {r : R2} (h : GoW W x L O ta fun A O1 => GoW W x L O1 tb fun B O2 => V2 O2 r A B k) : GoW W x L O (tOp r ta tb) k := fun E G0 H0 σ G H Q f s z c =>
  h _ _ _ _ _ _ _ f s (fun A O1 G1 H1 x hb f1 s1 a => hb _ _ _ _ _ _ _ f1 (s.m s1) (fun B O2 G2 H2 y hr f2 s2 b => hr _ _ _ _ _ _ _ _ f2 (A.m s2 a) b fun C O3 G3 H3 v hk f3 s3 c => z _ _ _ _ _ hk f3 ((s1.trans s2).trans s3) c) (c.m s1)) c
/-- a def that may raise, called where it does not -/
theorem Go.callX {α : Type} {pre : α → Prop} {as : α → List As} {oin : α → OO} {post : α → As → OO → Prop} {rp : α → Value → List (Str × As) → OO → Prop} {X : XK} (hI : ∀ a, ∀ x ∈ oin a, x.2.par = true)
    (h : GoA L O t fun l O1 => ∃ a R, l = as a ∧ O1 = oin a ++ R ∧ pre a ∧ (∀ cls fs O', ¬ rp a cls fs O') ∧ ∀ A O', post a A O' → k A (O' ++ R)) : Go L O (tCall (SpX pre as oin post rp) [] X t) k := fun E G0 H0 σ G H Q f s z =>
  h _ _ _ _ _ _ _ f s fun l O1 G1 H1 vs hk f1 s1 b => by
    obtain ⟨a, R, rfl, rfl, hp, hn, hq⟩ := hk
    refine ⟨a, G1, hp, ?_, f1.part (hI a), fun A O' G' H' v q g c => z _ _ _ _ _ (hq _ _ q) (f1.frame g) (s1.trans g.gg) c, fun cls fs O' G' H' dx ds q => absurd q (hn _ _ _)⟩
    rw [List.append_nil]
    exact b
/-- .. where it may -/
theorem GoW.call {α : Type} {pre : α → Prop} {as : α → List As} {oin : α → OO} {post : α → As → OO → Prop} {rp : α → Value → List (Str × As) → OO → Prop} (hI : ∀ a, ∀ x ∈ oin a, x.2.par = true)
    (h : GoWA W x L O t fun l O1 => ∃ a R, l = as a ∧ O1 = oin a ++ R ∧ pre a ∧ (∀ cls fs O', rp a cls fs O' → x cls fs L (O' ++ R)) ∧ ∀ A O', post a A O' → k A (O' ++ R)) : GoW W x L O (L2.tCallS (SpX pre as oin post rp) (WE W) t) k := fun E G0 H0 σ G H Q f s z c =>
  h _ _ _ _ _ _ _ f s (fun l O1 G1 H1 vs hk f1 s1 b => by
    obtain ⟨a, R, rfl, rfl, hp, hn, hq⟩ := hk
    exact ⟨a, G1, hp, b, f1.part (hI a), fun A O' G' H' v q g c => z _ _ _ _ _ (hq _ _ q) (f1.frame g) (s1.trans g.gg) c, fun cls fs O' G' H' dx ds q g e d => c _ _ _ _ _ _ _ _ _ (hn _ _ _ q) (f1.frame g) (s1.trans g.gg) (s.m (s1.trans g.gg)) e d⟩) c
/-- a field of a caught exception -/
def exA (a dx : Addr) (fs : List (Str × As)) : As := ⟨fun G v => v = .ref a ∧ ∃ ds, G dx = some (.xd ds) ∧ FsOk G fs ds, fun e h => by
  obtain ⟨h1, ds, h2, h3⟩ := h
  exact ⟨h1, ds, e _ _ h2, h3.m e⟩⟩
theorem Go.xf {a dx C : Addr} {f : Str} {cls : Value} (h : Go L O te fun A O1 => ∃ fs B, A = exA a dx fs ∧ cls = .ref C ∧ fs.lookup f = some B ∧ k B O1) : Go L O (tXf a cls (some dx) C f te) k := fun E G0 H0 σ G H Q fr s z =>
  h _ _ _ _ _ _ _ fr s fun A O1 G1 H1 v q f1 s1 a1 => by
    obtain ⟨fs, B, rfl, hc, hl, hk⟩ := q
    obtain ⟨rfl, ds, h2, h3⟩ := a1
    obtain ⟨y, h4, h5⟩ := h3 _ _ hl
    exact ⟨rfl, hc, dx, ds, y, rfl, f1.gh _ _ h2, h4, z _ _ _ _ _ hk f1 s1 h5⟩
end
section
variable {K : PySem.W.Frag} {L : LL} {O : OO} {W : WX} {x : XP} {k : Es} {te : TE} {t u : TS} {tt : TT} {ta : TA}
theorem GoSW.seq (h : GoSW W x L O t (k.then fun L' O' => GoSW W x L' O' u k)) : GoSW W x L O (tSeq t u) k := fun E G0 H0 σ G H D f s e c =>
  h _ _ _ _ _ _ _ f s ⟨fun L O σ G H q f' z s' => q _ _ _ _ _ _ _ f' s' (e.m z) (c.m z), e.rt, e.bk, e.ct⟩ c
theorem GoSW.cut (h : GoSW W x L O t (k.then fun L' O' => GoSW W x L' O' u k)) : GoSW W x L O (C8.tCut t u) k := fun E G0 H0 σ G H D f s e c =>
  ⟨fun σ' H' => ∃ L' O' G', GoSW W x L' O' u k ∧ Fr E G0 H0 O' G' H' ∧ Same G G' ∧ Slots G' L' σ', h _ _ _ _ _ _ _ f s ⟨fun L O σ G H q f' z s' => ⟨_, _, _, q, f', z, s'⟩, e.rt, e.bk, e.ct⟩ c, fun σ' H' ⟨L', O', G', q, f', z, s'⟩ => q _ _ _ _ _ _ _ f' s' (e.m z) (c.m z)⟩
theorem GoSW.drop (h : GoW W x L O te fun _ O1 => k.nx L O1) : GoSW W x L O (tDrop te) k := fun E G0 H0 σ G H D f s e c =>
  h _ _ _ _ _ _ _ f s (fun A O1 G1 H1 v q f1 s1 a => e.nx _ _ _ _ _ q f1 s1 (s.m s1)) c
theorem GoSW.ret (h : GoW W x L O te fun A O1 => k.rt A O1) : GoSW W x L O (tRet te) k := fun E G0 H0 σ G H D f s e c =>
  h _ _ _ _ _ _ _ f s (fun A O1 G1 H1 v q f1 s1 a => e.rt _ _ _ _ _ q f1 s1 a) c
theorem GoSW.ite (h : GoWT W x L O tt fun b O1 => (b = true → GoSW W x L O1 t k) ∧ (b = false → GoSW W x L O1 u k)) : GoSW W x L O (tIfS tt t u) k := fun E G0 H0 σ G H D f s e c =>
  h _ _ _ _ _ _ _ f s (fun b O1 G1 H1 q f1 s1 => by
    cases b with
    | true => exact iteT (q.1 rfl _ _ _ _ _ _ _ f1 (s.m s1) (e.m s1) (c.m s1))
    | false => exact iteF (q.2 rfl _ _ _ _ _ _ _ f1 (s.m s1) (e.m s1) (c.m s1))) c
theorem GoSW.set {i : Nat} (h : GoW W x L O te fun A O1 => k.nx (setL L i A) O1) : GoSW W x L O (tAsg te (gName i)) k := fun E G0 H0 σ G H D f s e c =>
  h _ _ _ _ _ _ _ f s (fun A O1 G1 H1 v q f1 s1 a => e.nx _ _ _ _ _ q f1 s1 ((s.m s1).set a i)) c
theorem GoSW.imp {k' : Es} (h : GoSW W x L O t k') (n : ∀ L O, k'.nx L O → k.nx L O) (r : ∀ A O, k'.rt A O → k.rt A O) (b : ∀ L O, k'.bk L O → k.bk L O) (c : ∀ L O, k'.ct L O → k.ct L O) : GoSW W x L O t k := fun E G0 H0 σ G H D f s e =>
  h _ _ _ _ _ _ _ f s ⟨fun L O σ G H q => e.nx L O σ G H (n _ _ q), fun A O G H v q => e.rt A O G H v (r _ _ q), fun L O σ G H q => e.bk L O σ G H (b _ _ q), fun L O σ G H q => e.ct L O σ G H (c _ _ q)⟩
/-- raise C(e), C's __init__ keeping one field -/
theorem GoSW.raise {C : Addr} {fld : Str} (h : GoA L O ta fun l O1 => ∃ A, l = [A] ∧ x (.ref C) [(fld, A)] L O1) : GoSW W x L O (tRz W (tMkO C (ExS.spI C fld) [] ta)) k := fun E G0 H0 σ G H D f s e c =>
  h _ _ _ _ _ _ _ f s fun l O1 G1 H1 vs q f1 s1 b => by
    obtain ⟨A, rfl, hx⟩ := q
    cases b with
    | @cons _ y _ _ hy b =>
      cases b
      refine ⟨by simp, fun a na => ⟨a, y, rfl, upd_same, fun dx n1 n2 => ?_⟩⟩
      have nd : H1 dx = none := by rw [upd_ne n2] at n1; exact n1
      have eh : upd (del (upd (upd (upd H1 a (exo a C none)) dx (exd dx [(fld, y)])) a (exo a C (some dx))) a) dx (.xd [(fld, y)]) = upd H1 dx (.xd [(fld, y)]) := funext fun b => by
        by_cases hb : b = dx
        · rw [hb, upd_same, upd_same]
        · rw [upd_ne hb, upd_ne hb]
          by_cases ha : b = a
          · rw [ha, del_same, na]
          · rw [del_ne ha, upd_ne ha, upd_ne hb, upd_ne ha]
      refine ⟨rfl, dx, [(fld, y)], upd_same, by rw [upd_ne n2, upd_same], nd, ?_⟩
      rw [eh]
      have ex := Ext.new (o := .xd [(fld, y)]) f1.gh nd
      exact c _ _ _ _ _ _ _ _ _ hx (f1.ext ex) (s1.trans ex.g) (s.m (s1.trans ex.g)) upd_same (FsOk.one (A.m ex.g hy))
theorem GoS.ofW (h : GoSW (fun _ _ _ _ => False) (fun _ _ _ _ => False) L O t k) : GoS L O t k := fun E G0 H0 σ G H D f s e => h _ _ _ _ _ _ _ f s e fun _ _ _ _ _ _ _ _ _ q => q.elim
theorem GoSW.for {wi : TI} {g : TG} {tb : TS} (h : GoI L O wi fun xs O1 => ∃ J : Nat → LL → OO → Prop, J 0 L O1 ∧
    (∀ i A L' O', xs[i]? = some A → J i L' O' → GoG L' A g fun L2 => GoSW W x L2 O' tb { k with nx := J (i + 1), ct := J (i + 1), bk := k.nx }) ∧ ∀ L' O', J xs.length L' O' → k.nx L' O') : GoSW W x L O (tFor wi g tb) k := fun E G0 H0 σ G H D f s e c =>
  h _ _ _ _ _ _ _ f s fun xs O1 G1 H1 It q f1 s1 ok => by
    obtain ⟨J, j0, js, jd⟩ := q
    obtain ⟨Gp, Y, w, gp, yy⟩ := ok
    refine for_it w (fun i σ' H' => ∃ L' O' G', J i L' O' ∧ Fr E G0 H0 O' G' H' ∧ Same G1 G' ∧ Slots G' L' σ') ⟨L, O1, G1, j0, f1, Same.refl _, s.m s1⟩ (fun i σ' H' _ ⟨_, _, G', _, f', z, _⟩ => gp _ (z.trans f'.gh)) (fun i x σ' H' H'' hi ⟨L', O', G', j', f', z, s'⟩ y => ?_)
      (fun σ' H' ⟨L', O', G', j', f', z, s'⟩ => e.nx _ _ _ _ _ (jd _ _ j') f' (s1.trans z) s')
    obtain ⟨A, G2, hA, ex, a⟩ := yy i H' x H'' hi y G' z f'.gh
    have f2 := f'.ext ex
    have z2 := z.trans ex.g
    refine js i A L' O' hA j' _ _ _ _ _ f2.gh (s'.m ex.g) a fun L2 σ2 q2 s2 => ?_
    exact q2 _ _ _ _ _ _ _ f2 s2 ⟨fun L O σ G H q f z s => ⟨_, _, _, q, f, z2.trans z, s⟩, fun A O G H v q f z a => e.rt _ _ _ _ _ q f ((s1.trans z2).trans z) a, fun L O σ G H q f z s => e.nx _ _ _ _ _ q f ((s1.trans z2).trans z) s, fun L O σ G H q f z s => ⟨_, _, _, q, f, z2.trans z, s⟩⟩ (c.m (s1.trans z2))
end
section
variable {P : Program} {w : World} {K : PySem.W.Frag} {mg : Str → Option Value} {base : Heap}
/-- a def that may raise, by its body -/
theorem fnx_sy {α : Type} {pre : α → Prop} {as : α → List As} {oin : α → OO} {post : α → As → OO → Prop} {rp : α → Value → List (Str × As) → OO → Prop} {y qual : Str} {st : Stmt} {f : Addr} {fd : FuncData} {N ps : List Str} {k : Nat} (F : Fun K y qual st f fd) (S : FnScope N ps (defScope st)) (len : ∀ a, pre a → (as a).length = ps.length)
    (body : ∀ (a : α) (cdv : Value) (A : Around) (outer : List Env) (s : Shared) (H : Hp) (E : XK), Room k (A.deeper (envOfC qual (defScope st) s.heap.objs.size f cdv)) → pre a →
      ∃ t, PSs (cxOf (L2.CX P w) P w K mg base N qual (defScope st) f cdv A outer s H E) (defBody st) t ∧ GoSW (fun cls d _ H => E cls d H) (fun cls fs _ O' => rp a cls fs O') (startL N (as a)) (oin a) t (eR (post a))) :
    FnOk P w K mg base (L2.CX P w) (k + 1) f fd ps (SpX pre as oin post rp) := by
  obtain ⟨oc, od, kV, doc, pm, an, cdv, ct, osl, rfl, lk, hcd⟩ := F.ex
  refine fn_of lk hcd S (fun vs H Q E h => ?_) (fun A outer s H vs Q E hr h => ?_)
  · obtain ⟨a, G, h1, h2, _⟩ := h
    rw [h2.len, len a h1]
  · obtain ⟨a, G, h1, h2, h3, h4, h5⟩ := h
    obtain ⟨t, ht, hg⟩ := body a cdv A outer s H E hr h1
    refine ⟨t, ht, hg _ _ _ _ _ _ _ h3 ?_ ⟨fun L O σ G' H' q f z s => h4 _ _ _ _ _ q f rfl, fun A O G' H' v q f z a => h4 _ _ _ _ _ q f a, fun _ _ _ _ _ q => q.elim, fun _ _ _ _ _ q => q.elim⟩ fun cls fs L O σ G' H' dx ds q f z s e1 e2 => h5 _ _ _ _ _ _ _ q f e1 e2⟩
    have e : L2.start N vs = vs.map some ++ List.replicate (N.length - (as a).length) none := by
      unfold L2.start
      rw [h2.len]
    rw [e]
    exact Slots.start _ h2
/-- its wish about exceptions -/
theorem takesD {N : List Str} {qual : Str} {scope : Scope} {f : Addr} {cdv : Value} {A : Around} {outer : List Env} {s : Shared} {H : Hp} {E : XK} : Takes (cxOf (L2.CX P w) P w K mg base N qual scope f cdv A outer s H E) (fun cls d _ H => E cls d H) := takes_of rfl rfl rfl rfl
end
end Sy
/-! ### an error class of the text, and raising it -/
namespace ExS
open PySem PySem.Spec PyProof.Rows L2 PySem.W PySem.Calls NdefX
/-- the i-th statement of a class -/
def inCls : Stmt → Nat → Stmt
  | .ClassDef _ _ _ b _ _ _ _ _ _ _, i => b.getD i (.Pass ⟨0, 0, 0, 0⟩)
  | s, _ => s
structure ExcT (pw : Program) (K : Frag) (mg : Str → Option Value) (nm qual : Str) (st : Stmt) (C fI : Addr) (fld : Str) : Prop where
  g : mg nm = some (.ref C)
  X : ExcK pw K C fI
  ex : ∃ (oc kV doc pm ct ccl cl : Value) (an od cdd cld : Option Addr) (osl ccs csl : Array (Option Value)) (vs : Array Value) (cda cc : Addr) (file : Str) (tf : Tok),
    K.lookup fI = some ⟨oc, od, .func (ksFn "__init__" qual (defArgs st) (defBody st) (defScope st) .none kV doc pm an (.ref cda) ct cc), osl⟩ ∧ codeIn K (.ref cda) qual = true ∧ K.lookup cda = some ⟨ccl, cdd, .fields vs, ccs⟩ ∧
      vs[2]? = some (.str file tf) ∧ ((pw.main.file : Str) == file) = true ∧ K.lookup cc = some ⟨cl, cld, .cell (some (.ref C)), csl⟩
  no : findIn K (.ref C) fld = some none
  sg : mg "super" = none
  xf : XfC K C
  cls : isClsIn K C = true
theorem exm_pair {K : Frag} {D : Value} {C : Addr} {b : Bool} (h1 : subIn K (.ref C) (.type "BaseException") = some true) (h2 : isClsIn K C = true) (h3 : typeIn K (.ref C) = some (.type "type")) (h4 : subIn K D (.ref C) = some b) : exmOne K D (.ref C) = some b := by
  have h2' : (clsIn K C).isSome = true := h2
  unfold exmOne
  rw [if_pos (by rw [h1]; rfl)]
  show (if ((clsIn K C).isSome && typeIn K (.ref C) == some (.type "type")) = true then subIn K D (.ref C) else none) = some b
  rw [if_pos (by rw [h2', h3]; rfl)]
  exact h4
section
variable {pw : Program} {K : Frag} {mg : Str → Option Value} {nm qual fld : Str} {st : Stmt} {C fI : Addr}
theorem ExcT.exm (T : ExcT pw K mg nm qual st C fI fld) {D : Value} {b : Bool} (h : subIn K D (.ref C) = some b) : exmOne K D (.ref C) = some b := exm_pair T.X.T.exC T.cls T.X.T.tyC h
theorem ExcT.me (T : ExcT pw K mg nm qual st C fI fld) : exmOne K (.ref C) (.ref C) = some true := T.exm T.X.me
theorem pmk_ex {X : Cx} {e : Expr} {es : List Expr} {ta : TA} {p pos : Pos} {pn txt : Str} {j : Nat} {p0 p1 p2 p3 p4 p5 q0 q1 q2 q3 : Pos} {ar : Arg} (T : ExcT pw K mg nm qual st C fI fld) (hK : X.K = K) (hm : X.mg = mg) (hP : X.prog = pw) (hr : Room 2 X.A)
    (hB : defBody st = iBody pn fld txt j p0 p1 p2 p3 p4 p5 q0 q1 q2 q3) (hp : ((defArgs st).posonlyargs ++ (defArgs st).args).head? = some ar) (ha : ar.arg = "self") (Sc : NScope ["self", pn, "__class__"] ["self", pn] ["__class__"] (defScope st))
    (hks : (defScope st).names.lookup ("super" : Str) = some .globalImplicit) (hln : (p2.endLine == p4.line) = true) (hpd : (pn == ("__debug__" : Str)) = false) (hpc : (pn == ("__classdict__" : Str)) = false)
    (hbd : ∀ (kV doc pm cdv ct : Value) (an : Option Addr) (cc : Addr) (a b : Value), bindArgs (ksFn "__init__" qual (defArgs st) (defBody st) (defScope st) .none kV doc pm an cdv ct cc) ⟨[a, b], []⟩ = pure [(("self" : Str), a), (pn, b)])
    (hg : Gl X nm) (hA : PA X (e :: es) ta) (hdb : (nm == ("__debug__" : Str)) = false := by decide) (he : starEach (e :: es) X.env = (false, eval e X.env) :: starEach es X.env := by rfl) (hpl : (backTo pos (starEach es X.env)).any (·.1) = false := by rfl) :
    PMk X (.Call (.Name nm p) (e :: es) [] pos) (tMkO C (spI C fld) [] ta) := by
  subst hK
  subst hm
  subst hP
  obtain ⟨oc, kV, doc, pm, ct, ccl, cl, an, od, cdd, cld, osl, ccs, csl, vs, cda, cc, file, tf, lk, hcd, hcode, hvs, hfile, hcell⟩ := T.ex
  refine pmk_oex (k := 1) T.X.T T.X.iC T.X.tI (init_ok T.X lk hcd hcode hvs hfile hcell T.sg T.no hB hp ha Sc hks hln hpd hpc) hr (ps := ["self", pn]) (ds := []) (dvs := []) (.all fun us hl => ?_) .nil (CX := CX0) pass0 hg T.g hA hdb he hpl
  match us, hl with
  | [a, b], _ => exact hbd kV doc pm (.ref cda) ct an cc a b
end
end ExS
/-! ### repr of any value: None, truth values, numbers, texts, lists, tuples, the empty dict -/
namespace Sy
open PySem PySem.Spec PyProof.Rows L2
open SX (S S_len S_cat S_inj)
/-- a key of a dict as data -/
def keyD : Key → PyData
  | .inl i => .int i
  | .inr x => .str x
mutual
inductive Dx (K : PySem.W.Frag) (H : Hp) : V → PyData → Prop
  | non : Dx K H .non .none
  | bl (b : Bool) : Dx K H (.bl b) (.bool b)
  | int (i : Int) : Dx K H (.int i) (.int i)
  | str (x : Str) : Dx K H (.str x) (.str x)
  | lst {a : Addr} {xs : List V} {ds : List PyData} : SqL K H a xs → a ≠ sysModules → DxAll K H xs ds → Dx K H (.ref a) (.list ds)
  | tup {a : Addr} {xs : List V} {ds : List PyData} : SqT K H a xs → DxAll K H xs ds → Dx K H (.ref a) (.tuple ds)
  | dct {a : Addr} {vs : List (Key × V)} {kds : List (PyData × PyData)} : H a = some (.dK vs) → DxKV K H vs kds → Dx K H (.ref a) (.dict kds)
inductive DxAll (K : PySem.W.Frag) (H : Hp) : List V → List PyData → Prop
  | nil : DxAll K H [] []
  | cons {v : V} {vs : List V} {d : PyData} {ds : List PyData} : Dx K H v d → DxAll K H vs ds → DxAll K H (v :: vs) (d :: ds)
inductive DxKV (K : PySem.W.Frag) (H : Hp) : List (Key × V) → List (PyData × PyData) → Prop
  | nil : DxKV K H [] []
  | cons {k : Key} {v : V} {vs : List (Key × V)} {d : PyData} {kds : List (PyData × PyData)} : Dx K H v d → DxKV K H vs kds → DxKV K H ((k, v) :: vs) ((keyD k, d) :: kds)
end
theorem DxKV.keys {K : PySem.W.Frag} {H : Hp} : ∀ {vs : List (Key × V)} {kds : List (PyData × PyData)}, DxKV K H vs kds → kds.map (·.1) = vs.map fun p => keyD p.1
  | _, _, .nil => rfl
  | _, _, .cons _ t => by rw [List.map_cons, List.map_cons, DxKV.keys t]
theorem pairs_vals {P : Program} {w : World} : ∀ {es : List DictEntry} {ws : List (Key × Value)}, Pairs (mixKind P w) es ws → es.map (·.val) = ws.map (·.2)
  | _, _, .nil => rfl
  | _, _, .cons _ h t => by rw [List.map_cons, List.map_cons, h, pairs_vals t]
theorem pairs_keys {P : Program} {w : World} {h : Heap} : ∀ {es : List DictEntry} {ws : List (Key × Value)}, Pairs (mixKind P w) es ws → ∃ as, ReadsAll h (es.map (·.key)) (ws.map fun p => keyD p.1) as ∧ sysModules ∉ as
  | _, _, .nil => ⟨_, .nil, by simp⟩
  | _, _, @Pairs.cons _ _ _ _ _ e kv es kvs h1 h2 t => by
    obtain ⟨as, r, n⟩ := pairs_keys (h := h) t
    rw [List.map_cons, List.map_cons]
    rcases keyIs_shape (show keyIs kv.1 e.key = true from h1) with ⟨i, t9, e1, e2⟩ | ⟨x, t9, e1, e2⟩
    · rw [e1, e2]
      exact ⟨_, .cons (.int i t9) r, by simpa using n⟩
    · rw [e1, e2]
      exact ⟨_, .cons (.str x t9) r, by simpa using n⟩
section
variable {X : Cx} {pins : List (Addr × Obj)} {σ : L2.St} {H : Hp} {s : Shared}
mutual
theorem Dx.reads (I : Inv X pins σ H s) : ∀ (d : PyData) (v : V) (u : Value), Dx X.K H v d → RelV v u → ∃ as, Reads s.heap u d as ∧ sysModules ∉ as
  | .none, _, _, h, r => by
    cases h
    cases r
    exact ⟨_, Reads.none, by simp⟩
  | .bool b, _, _, h, r => by
    cases h
    cases r
    exact ⟨_, Reads.bool b, by simp⟩
  | .int i, _, _, h, r => by
    cases h
    obtain ⟨t, rfl⟩ := r
    exact ⟨_, Reads.int i t, by simp⟩
  | .str x, _, _, h, r => by
    cases h
    obtain ⟨t, rfl⟩ := r
    exact ⟨_, Reads.str x t, by simp⟩
  | .list ds, _, _, h, r => by
    cases h with
    | lst hs hne ha =>
      cases r
      obtain ⟨its, rv, ⟨o, n, ho, hc, _, hd⟩, _⟩ := I.list hs
      obtain ⟨as, hr, hn⟩ := Dx.readsAll I ds _ its ha rv
      refine ⟨_, Reads.list ho hc hd hr, fun z => ?_⟩
      rcases List.mem_cons.mp z with z | z
      · exact hne z.symm
      · exact hn z
  | .tuple ds, _, _, h, r => by
    cases h with
    | tup hs ha =>
      cases r
      obtain ⟨its, rv, ⟨o, ho, hc, n, hd⟩, _⟩ := I.tuple hs
      obtain ⟨as, hr, hn⟩ := Dx.readsAll I ds _ its ha rv
      exact ⟨_, Reads.tuple ho hc hd hr, hn⟩
  | .dict kds, _, _, h, r => by
    cases h with
    | dct e hk =>
      cases r
      obtain ⟨_, hs, vs, rel, o, es, ep, ho, hx, hd, _, hp, _⟩ := dk_of I.hok e
      obtain ⟨as, r1, n1⟩ := pairs_keys (h := s.heap) hp
      obtain ⟨bs, r2, n2⟩ := Dx.readsKV I kds _ vs hk rel
      refine ⟨_, Reads.dict (as := as) (bs := bs) ho hx.1 hd ?_ (by rw [pairs_vals hp]; exact r2), fun z => ?_⟩
      · rw [hk.keys, show (fun p : Key × V => keyD p.1) = keyD ∘ (·.1) from rfl, ← List.map_map, rel.keys, List.map_map]
        exact r1
      · rcases List.mem_append.mp z with z | z
        · rcases List.mem_cons.mp z with z | z
          · rw [← z] at hs
            simp at hs
          · exact n1 z
        · exact n2 z
theorem Dx.readsAll (I : Inv X pins σ H s) : ∀ (ds : List PyData) (vs : List V) (us : List Value), DxAll X.K H vs ds → Vals vs us → ∃ as, ReadsAll s.heap us ds as ∧ sysModules ∉ as
  | [], _, _, h, r => by
    cases h
    cases r
    exact ⟨_, ReadsAll.nil, by simp⟩
  | d :: ds, _, _, h, r => by
    cases h with
    | cons h1 h2 =>
      cases r with
      | cons r1 r2 =>
        obtain ⟨as, q1, n1⟩ := Dx.reads I d _ _ h1 r1
        obtain ⟨bs, q2, n2⟩ := Dx.readsAll I ds _ _ h2 r2
        exact ⟨_, ReadsAll.cons q1 q2, fun z => (List.mem_append.mp z).elim n1 n2⟩
theorem Dx.readsKV (I : Inv X pins σ H s) : ∀ (kds : List (PyData × PyData)) (vs : List (Key × V)) (ws : List (Key × Value)), DxKV X.K H vs kds → KV vs ws → ∃ as, ReadsAll s.heap (ws.map (·.2)) (kds.map (·.2)) as ∧ sysModules ∉ as
  | [], _, _, h, r => by
    cases h
    unfold KV at r
    cases r
    exact ⟨_, ReadsAll.nil, by simp⟩
  | (kd, d) :: kds, _, _, h, r => by
    cases h with
    | cons h1 h2 =>
      unfold KV at r
      cases r with
      | cons r1 r2 =>
        obtain ⟨as, q1, n1⟩ := Dx.reads I d _ _ h1 r1.2
        obtain ⟨bs, q2, n2⟩ := Dx.readsKV I kds _ _ h2 r2
        exact ⟨_, ReadsAll.cons q1 q2, fun z => (List.mem_append.mp z).elim n1 n2⟩
end
/-- data without a dict, or data whose lists do not stand where sys.modules does -/
def Dxx (K : PySem.W.Frag) (H : Hp) (v : V) (d : PyData) : Prop := (Dp K H v d ∧ d.hasDict = false) ∨ Dx K H v d
theorem Dxx.reads (I : Inv X pins σ H s) {d : PyData} {v : V} {u : Value} (h : Dxx X.K H v d) (r : RelV v u) : ∃ as, Reads s.heap u d as ∧ (d.hasDict = true → sysModules ∉ as) := by
  rcases h with ⟨h, hn⟩ | h
  · obtain ⟨as, rd⟩ := Dp.reads I d v u h r
    exact ⟨as, rd, fun z => by rw [hn] at z; cases z⟩
  · obtain ⟨as, rd, n⟩ := Dx.reads I d v u h r
    exact ⟨as, rd, fun _ => n⟩
/-- repr(x) -/
def rReprX (K : PySem.W.Frag) : List V → Hp → VK → Prop := fun xs H Q => ∃ (v : V) (d : PyData), xs = [v] ∧ Dxx K H v d ∧ d.showable = true ∧ d.depth ≤ 60 ∧ d.shown.length ≤ sizeLine ∧ Q (.str d.shown) H
theorem call_reprX (K : PySem.W.Frag) (hK : X.K = K) (gd : X.A.guards = some []) (hu : X.A.units + 64 < cLine) : CallR X (.builtin "repr") (rReprX K) := by
  subst hK
  intro pins s σ H xs us Q I r h
  obtain ⟨v, d, rfl, hd, hs, hp, hz, q⟩ := h
  obtain ⟨u, rfl, ru⟩ := vals1 r
  obtain ⟨as, rd, hn⟩ := hd.reads I ru
  cases rd with
  | none =>
    refine P.repr_of_none ⟨.str _, H, I.tok _, ⟨_, rfl⟩, ?_⟩
    simpa only [PyData.shown] using q
  | bool b =>
    refine P.repr_of_bool ⟨.str _, H, I.tok _, ⟨_, rfl⟩, ?_⟩
    simpa only [PyData.shown] using q
  | int i t =>
    refine P.repr_of_int (by simpa only [PyData.showable, decide_eq_true_eq] using hs) ⟨.str _, H, I.tok _, ⟨_, rfl⟩, ?_⟩
    simpa only [PyData.shown] using q
  | str x t =>
    refine P.repr_of_str ⟨.str _, H, I.tok _, ⟨_, rfl⟩, ?_⟩ (by simpa only [PyData.shown] using hz)
    simpa only [PyData.shown] using q
  | list h1 h2 h3 h4 =>
    refine PySem.repr_of_reads' (.list h1 h2 h3 h4) hs hn gd (by omega) (fun _ _ z => z) (fun h' u tk hk => ?_) hz
    exact ⟨.str _, H, I.kept hk, ⟨u, rfl⟩, q⟩
  | tuple h1 h2 h3 h4 =>
    refine PySem.repr_of_reads' (.tuple h1 h2 h3 h4) hs hn gd (by omega) (fun _ _ z => z) (fun h' u tk hk => ?_) hz
    exact ⟨.str _, H, I.kept hk, ⟨u, rfl⟩, q⟩
  | dict h1 h2 h3 h4 h5 =>
    refine PySem.repr_of_reads' (.dict h1 h2 h3 h4 h5) hs hn gd (by omega) (fun _ _ z => z) (fun h' u tk hk => ?_) hz
    exact ⟨.str _, H, I.kept hk, ⟨u, rfl⟩, q⟩
end
section
variable {K : PySem.W.Frag} {O : OO} {k : As → OO → Prop} {G G' : Hp}
/-- A tells data that show as d -/
def IsX (K : PySem.W.Frag) (A : As) (d : PyData) : Prop := ∀ G H v, Same G H → A.p G v → Dxx K H v d
theorem isX_of {A : As} {d : PyData} (h : IsD K A d) (n : d.hasDict = false) : IsX K A d := fun G H v e a => .inl ⟨Dp.mono e d v (h _ _ a), n⟩
theorem isD_bo {b : Bool} : IsD K (bo b) (.bool b) := fun G v h => by rw [show v = V.bl b from h]; exact .bl _
theorem v_reprX {A : As} {d : PyData} (h1 : IsX K A d) (s : d.showable = true ∧ d.depth ≤ 60) (hz : d.shown.length ≤ sizeLine) (q : k (tx (shw d)) O) : Vn O (rReprX K) [A] k := fun E G0 H0 G H Q vs f a zz => by
  cases a with
  | cons a r =>
    cases r
    refine ⟨_, d, rfl, h1 _ _ _ f.gh a, s.1, s.2, hz, ?_⟩
    rw [← S_eta d.shown]
    exact zz _ _ _ _ _ q f (Same.refl _) rfl
end
end Sy
/-! ### the least of some texts: min(..), sorted(..)[0] -/
namespace Sy
open PySem PySem.Spec PyProof.Rows L2
open SX (S S_len S_cat S_inj)
end Sy
/-! ### list.index of data -/
namespace Sy
open PySem PySem.Spec PyProof.Rows L2
theorem hu65 {k : Nat} {A : Around} (hr : Room k A) : A.units + 65 < cLine := by
  have := hr.un
  omega
end Sy
/-! ### a text times a number; comprehensions whose elements draw -/
namespace Sy
open PySem PySem.Spec PyProof.Rows L2
open SX (S S_len S_cat S_inj)
def repL (l : List Nat) (i : Int) : List Nat := (List.replicate i.toNat l).flatten
theorem repL_len (l : List Nat) (i : Int) : (repL l i).length = i.toNat * l.length := by simp [repL]
theorem fold_arr (a : Array Nat) : ∀ (n : Nat) (b : Array Nat), ((List.replicate n a).foldl (· ++ ·) b).toList = b.toList ++ (List.replicate n a.toList).flatten
  | 0, b => by simp
  | n + 1, b => by
    rw [List.replicate_succ, List.foldl_cons, fold_arr a n, List.replicate_succ, List.flatten_cons, Array.toList_append, List.append_assoc]
theorem mul_S {l : List Nat} {i : Int} (h0 : 0 ≤ i) : Txt.mul (S l) i = S (repL l i) := by
  unfold Txt.mul
  split
  · obtain rfl : i = 0 := by omega
    rfl
  split
  · rename_i h1 h2
    rw [Bool.or_eq_true] at h2
    rcases h2 with h2 | h2
    · obtain rfl : i = 1 := by simpa using h2
      simp [repL]
    · obtain rfl : l = [] := by
        rw [S_len] at h2
        simpa using h2
      unfold repL
      rw [show (List.replicate i.toNat ([] : List Nat)).flatten = [] by simp]
  · refine PySem.Str.ext' (Array.toList_inj.mp ?_)
    rw [fold_arr]
    simp [repL, S]
def rRepS : R2 := fun x y H Q => ∃ (a : Str) (i : Int), x = .str a ∧ y = .int i ∧ 0 ≤ i ∧ i ≤ 1000000 ∧ a.length * i.toNat ≤ 1000000 ∧ Q (.str (Txt.mul a i)) H
section
variable {K : PySem.W.Frag} {O : OO} {k : As → OO → Prop}
theorem v_repS {l : List Nat} {i : Int} (h0 : 0 ≤ i) (h1 : i ≤ 1000000) (h : l.length * i.toNat ≤ 1000000) (q : k (tx (repL l i)) O) : V2 O rRepS (tx l) (it i) k :=
  V2.sc (z := .str (S (repL l i))) (fun _ _ q => ⟨_, _, rfl, rfl, h0, h1, by rw [S_len]; exact h, by rw [mul_S h0]; exact q⟩) q
end
end Sy
/-! ### enumerate of a text; the place of the first sign -/
namespace ES
open PySem PySem.Spec PyProof.Rows L2
def ItS (x : Str) : It := ⟨fun i _ => i < x.cps.size,
  fun i H v H' => ∃ T c, v = .ref T ∧ H T = none ∧ H' = upd H T (.tup [.int (i : Nat), .str ⟨#[c]⟩]) ∧ x.cps[i]? = some c,
  fun i _ => x.cps.size = i⟩
theorem walk_es {x : Str} : Walk (ItS x) x.cps.size (fun _ => True) (YPair (fun i => some (.int (i : Nat))) (fun i => x.cps[i]?.map fun c => .str ⟨#[c]⟩)) := by
  refine ⟨fun i _ hi _ => hi, fun _ _ => rfl, fun i H v H' _ _ y => ?_⟩
  obtain ⟨T, c, h1, h2, h3, h4⟩ := y
  exact ⟨T, .int (i : Nat), _, h1, h2, h3, rfl, (by show (x.cps[i]?).map _ = _; rw [h4]; rfl)⟩
def iEs (ta : TA) : TI := fun σ H R => ta σ H fun vs H1 => ∃ x, vs = [.str x] ∧ R (ItS x) H1
end ES
namespace Sy
open PySem PySem.Spec PyProof.Rows L2
open SX (S S_len S_cat S_inj)
theorem GoI.enumS {K : PySem.W.Frag} {L : LL} {O : OO} {ta : TA} {k : List As → OO → Prop} (h : GoA L O ta fun l O1 => ∃ z, l = [tx z] ∧ k (enA K (z.map fun c => tx [c])) O1) : GoI L O (ES.iEs ta) k := fun E G0 H0 σ G H R f s zz =>
  h _ _ _ _ _ _ _ f s fun l O1 G1 H1 vs q f1 s1 a => by
    obtain ⟨z, rfl, q⟩ := q
    cases a with
    | cons a r =>
      cases r
      have size : (S z).cps.size = z.length := by simp [S]
      refine ⟨S z, by rw [show _ = V.str (S z) from a], zz _ _ _ _ _ q f1 s1 (pair_ok (n := (S z).cps.size) ES.walk_es (by simp [nums, size]) (by simp [size]) (fun H e => trivial) (fun i v hi e => ?_) (fun i v hi e => ?_))⟩
      · obtain rfl := Option.some.inj e
        exact nums_at (by rw [List.length_map, ← size]; exact hi)
      · obtain ⟨c, hc, rfl⟩ := Option.map_eq_some_iff.mp e
        have hc' : z[i]? = some c := by
          have : (S z).cps[i]? = z[i]? := by simp [S]
          rw [← this]
          exact hc
        exact ⟨tx [c], by rw [List.getElem?_map, hc']; rfl, rfl⟩
end Sy
namespace Sy
open PySem PySem.Spec PyProof.Rows L2
open SX (S S_len S_cat S_inj)
theorem occ_sign {l : List Nat} {c i : Nat} (h1 : l[i]? = some c) (h2 : ∀ k < i, l[k]? ≠ some c) : ∃ r, Builtin.Str.occurrences (S l) (S [c]) 0 (S l).length 1 = i :: r := by
  have e : ∀ j, StrLaws.At (S l) (S [c]) (S l).length j ↔ l[j]? = some c := fun j => StrLaws.subAt_one (S l) c j
  rcases StrLaws.occ_head (S l) (S [c]) 1 (Nat.le_refl 1) with ⟨_, hn⟩ | ⟨j, r, h0, hi, hn⟩
  · exact absurd ((e i).mpr h1) (hn i)
  · have hj := (e j).mp hi
    rcases Nat.lt_trichotomy i j with z | z | z
    · exact absurd ((e i).mpr h1) (hn i z)
    · subst z; exact ⟨r, h0⟩
    · exact absurd hj (h2 j z)
/-- what stands ahead of the first c -/
def upto (c : Nat) (l : List Nat) : List Nat := l.takeWhile (· != c)
theorem upto_at {c : Nat} : ∀ {l : List Nat}, c ∈ l → l[(upto c l).length]? = some c ∧ ∀ k < (upto c l).length, l[k]? ≠ some c
  | [], h => by cases h
  | a :: l, h => by
    unfold upto
    by_cases e : a = c
    · subst e
      rw [List.takeWhile_cons_of_neg (by simp)]
      exact ⟨rfl, fun k hk => absurd hk (Nat.not_lt_zero _)⟩
    · rw [List.takeWhile_cons_of_pos (by simpa using e)]
      have hm : c ∈ l := by
        rcases List.mem_cons.mp h with h | h
        · exact absurd h.symm e
        · exact h
      obtain ⟨i1, i2⟩ := upto_at hm
      unfold upto at i1 i2
      refine ⟨by simpa using i1, fun k hk => ?_⟩
      cases k with
      | zero => simpa using e
      | succ k => simpa using i2 k (by simpa using hk)
end Sy
/-! ### text.strip(signs), text.find(sign) -/
namespace Sy
open PySem PySem.Spec PyProof.Rows L2
open SX (S S_len S_cat S_inj)
/-- without the signs that p names at both ends -/
def trimL (p : Nat → Bool) (l : List Nat) : List Nat := ((l.dropWhile p).reverse.dropWhile p).reverse
theorem drop_tw (p : Nat → Bool) (l : List Nat) : l.drop (l.takeWhile p).length = l.dropWhile p := by
  conv => lhs; rhs; rw [← List.takeWhile_append_dropWhile (p := p) (l := l)]
  rw [List.drop_left]
theorem stripBy_S (p : Nat → Bool) (l : List Nat) : Txt.stripBy p true true (S l) = S (trimL p l) := by
  rw [stripBy_eq]
  have e0 : stripLo p true (S l) = (l.takeWhile p).length := by
    unfold stripLo
    rw [if_pos rfl]
  have e1 : stripHi p true (S l) (l.takeWhile p).length = l.length - ((l.dropWhile p).reverse.takeWhile p).length := by
    unfold stripHi
    rw [if_pos rfl, S_len, ← drop_tw]
  rw [e0, e1]
  refine PySem.Str.ext' (Array.toList_inj.mp ?_)
  show ((S l).cps.extract _ _).toList = trimL p l
  rw [Array.toList_extract]
  show ((l.drop (l.takeWhile p).length).take (l.length - ((l.dropWhile p).reverse.takeWhile p).length - (l.takeWhile p).length)) = _
  rw [drop_tw]
  unfold trimL
  rw [← drop_tw p (l.dropWhile p).reverse, List.reverse_drop, List.reverse_reverse, List.length_reverse]
  congr 1
  have h : (l.takeWhile p).length + (l.dropWhile p).length = l.length := by rw [← List.length_append, List.takeWhile_append_dropWhile]
  omega
theorem strip_S (l b : List Nat) : Txt.stripChars (S l) (S b) = S (trimL (fun c => decide (c ∈ b)) l) := by
  unfold Txt.stripChars
  have : (S b).cps.contains = fun c => decide (c ∈ b) := funext fun c => by
    show b.toArray.contains c = _
    rw [List.contains_toArray]
    by_cases h : c ∈ b
    · rw [decide_eq_true h]; exact List.contains_iff_mem.mpr h
    · rw [decide_eq_false h]
      exact Bool.eq_false_iff.mpr fun z => h (List.contains_iff_mem.mp z)
  rw [this, stripBy_S]
theorem trimL_len (p : Nat → Bool) (l : List Nat) : (trimL p l).length ≤ l.length := by
  unfold trimL
  rw [List.length_reverse]
  have h1 := (List.dropWhile_suffix (l := (l.dropWhile p).reverse) p).length_le
  have h2 := (List.dropWhile_suffix (l := l) p).length_le
  rw [List.length_reverse] at h1
  omega
theorem v_strip {O : OO} {k : As → OO → Prop} {l b : List Nat} (hl : l.length ≤ 100000) (q : k (tx (trimL (fun c => decide (c ∈ b)) l)) O) : Vm O (fun x xs H Q => ∃ a b, x = .str a ∧ xs = [.str b] ∧ a.length ≤ sizeLine ∧ Q (.str (Txt.stripChars a b)) H) (tx l) [tx b] k :=
  Vm.sc1 (z := .str (S (trimL (fun c => decide (c ∈ b)) l))) (fun _ _ q => ⟨_, _, rfl, rfl, by rw [S_len]; exact Nat.le_trans hl (by decide), by rw [strip_S]; exact q⟩) q
def findI (c : Nat) (l : List Nat) : Int := if decide (c ∈ l) = true then ((upto c l).length : Int) else -1
theorem find_S (l : List Nat) (c : Nat) : Txt.find (S l) (S [c]) = findI c l := by
  unfold findI Txt.find
  by_cases h : c ∈ l
  · obtain ⟨h1, h2⟩ := upto_at h
    obtain ⟨r, hr⟩ := occ_sign h1 h2
    rw [hr, if_pos (decide_eq_true h)]
  · rw [if_neg (by simpa using h)]
    have e : ∀ j, StrLaws.At (S l) (S [c]) (S l).length j ↔ l[j]? = some c := fun j => StrLaws.subAt_one (S l) c j
    rcases StrLaws.occ_head (S l) (S [c]) 1 (Nat.le_refl 1) with ⟨h0, _⟩ | ⟨j, r, h0, hi, _⟩
    · rw [h0]
    · exact absurd (List.mem_of_getElem? ((e j).mp hi)) h
theorem v_find1 {O : OO} {k : As → OO → Prop} {l : List Nat} {c : Nat} (q : k (it (findI c l)) O) : Vm O (fun x xs H Q => ∃ a b, x = .str a ∧ xs = [.str b] ∧ Q (.int (Txt.find a b)) H) (tx l) [tx [c]] k := v_find (by rw [find_S]; exact q)
end Sy
/-! ### the rules found by their heads: one step -/
namespace Sy
open PySem PySem.Spec PyProof.Rows L2
open SX (S S_len S_cat S_inj)
/-- the question g is answered by p -/
class Stp (g : Prop) (p : outParam Prop) : Prop where
  go : p → g
theorem ff9 {p : Prop} (h : false = true) : p := by cases h
theorem tf9 {p : Prop} (h : true = false) : p := by cases h
class LitS (z : Str) (l : outParam (List Nat)) : Prop where
  eq : z = S l
/-- a side condition of a product -/
inductive Sde (p : Prop) : Prop
  | mk (h : p)
  | mk2 (h : p)
theorem Sde.out {p : Prop} (h : Sde p) : p := by
  cases h with
  | mk h => exact h
  | mk2 h => exact h
/-- the place of an owned object -/
class OwnAt (O : OO) (D : Addr) (pre : outParam OO) (c : outParam OC) (post : outParam OO) : Prop where
  eq : O = pre ++ (D, c) :: post
instance OwnAt.tl {x : Addr × OC} {O pre post : OO} {D : Addr} {c : OC} [h : OwnAt O D pre c post] : OwnAt (x :: O) D (x :: pre) c post := ⟨by rw [h.eq]; rfl⟩
instance OwnAt.hd {O : OO} {D : Addr} {c : OC} : OwnAt ((D, c) :: O) D [] c O := ⟨rfl⟩
instance OwnAt.atl {x : Addr × OC} {l r pre post : OO} {D : Addr} {c : OC} [h : OwnAt (l ++ r) D pre c post] : OwnAt ((x :: l) ++ r) D (x :: pre) c post := ⟨by rw [List.cons_append, h.eq]; rfl⟩
instance OwnAt.ahd {l r : OO} {D : Addr} {c : OC} : OwnAt (((D, c) :: l) ++ r) D [] c (l ++ r) := ⟨rfl⟩
instance OwnAt.anl {r pre post : OO} {D : Addr} {c : OC} [h : OwnAt r D pre c post] : OwnAt ([] ++ r) D pre c post := ⟨h.eq⟩
class MapTx (l : List As) (ns : outParam (List (List Nat))) : Prop where
  eq : l = ns.map tx
instance : MapTx [] [] := ⟨rfl⟩
instance {a : List Nat} {l : List As} {ns : List (List Nat)} [h : MapTx l ns] : MapTx (tx a :: l) (a :: ns) := ⟨by rw [h.eq]; rfl⟩
instance {ns : List (List Nat)} : MapTx (ns.map tx) ns := ⟨rfl⟩
instance {ns : List (List Nat)} : MapTx (ns.map fun x => tx x) ns := ⟨rfl⟩
class MapIt (l : List As) (ns : outParam (List Int)) : Prop where
  eq : l = ns.map it
instance : MapIt [] [] := ⟨rfl⟩
instance {a : Int} {l : List As} {ns : List Int} [h : MapIt l ns] : MapIt (it a :: l) (a :: ns) := ⟨by rw [h.eq]; rfl⟩
instance {ns : List Int} : MapIt (ns.map it) ns := ⟨rfl⟩
class KeyA (A : As) (key : outParam Key) : Prop where
  eq : A = cst (kV key)
instance {l : List Nat} : KeyA (tx l) (.inr (S l)) := ⟨rfl⟩
instance {i : Int} : KeyA (it i) (.inl i) := ⟨rfl⟩
instance {O pre post : OO} {D : Addr} {B : As} {key : Key} {pb : Bool} {kvs : List (Key × As)} {P : Bool → Addr → List (Key × As) → OO → OO → Key → Prop} [h : KeyA B key] [g : OwnAt O D pre (.od pb kvs) post] :
    Stp (∃ (pb' : Bool) (d : Addr) (kvs' : List (Key × As)) (pre' post' : OO) (key' : Key), pt D = pt d ∧ B = cst (kV key') ∧ O = pre' ++ (d, .od pb' kvs') :: post' ∧ P pb' d kvs' pre' post' key') (P pb D kvs pre post key) := ⟨fun q => ⟨pb, D, kvs, pre, post, key, rfl, h.eq, g.eq, q⟩⟩
section
variable {K : PySem.W.Frag} {L : LL} {O : OO} {te tb ta tc : TE} {t : TA} {tt : TT} {u v : TS} {E : Es} {k : As → OO → Prop} {kb : Bool → OO → Prop} {kl : List As → OO → Prop}
/-! statements -/
instance : Stp (GoS L O tNext E) (E.nx L O) := ⟨GoS.nil⟩
instance : Stp (GoS L O (tSeq u v) E) (GoS L O u (E.then fun L' O' => GoS L' O' v E)) := ⟨GoS.seq⟩
instance : Stp (GoS L O (C8.tCut u v) E) (GoS L O u (E.then fun L' O' => GoS L' O' v E)) := ⟨GoS.cut⟩
instance : Stp (GoS L O tRetN E) (E.rt no O) := ⟨GoS.retN⟩
instance : Stp (GoS L O tBreak E) (E.bk L O) := ⟨GoS.brk⟩
instance : Stp (GoS L O tCont E) (E.ct L O) := ⟨GoS.cont⟩
instance : Stp (GoS L O (tDrop te) E) (Go L O te fun _ O1 => E.nx L O1) := ⟨GoS.drop⟩
instance {i : Nat} : Stp (GoS L O (tAsg te (gName i)) E) (Go L O te fun A O1 => E.nx (setL L i A) O1) := ⟨GoS.set⟩
instance (priority := low) {g : TG} : Stp (GoS L O (tAsg te g) E) (Go L O te fun A O1 => GoG L A g fun L' => E.nx L' O1) := ⟨GoS.asg⟩
instance {i j : Nat} : Stp (GoS L O (tPar i j t) E) (GoA L O t fun l O1 => ∃ A B, l = [A, B] ∧ E.nx (setL (setL L i A) j B) O1) := ⟨GoS.par⟩
instance {i j m : Nat} : Stp (GoS L O (tPar3 i j m t) E) (GoA L O t fun l O1 => ∃ A B C, l = [A, B, C] ∧ E.nx (setL (setL (setL L i A) j B) m C) O1) := ⟨GoS.par3⟩
instance {A : As} {i : Nat} {kk : LL → Prop} : Stp (GoG L A (gName i) kk) (kk (setL L i A)) := ⟨GoG.name⟩
instance {kk : LL → Prop} : Stp (GoGs L [] gNil kk) (kk L) := ⟨GoGs.nil⟩
instance {A : As} {l : List As} {g : TG} {gs : TGs} {kk : LL → Prop} : Stp (GoGs L (A :: l) (gCons g gs) kk) (GoG L A g fun L' => GoGs L' l gs kk) := ⟨GoGs.cons⟩
instance {l : List As} {n : Nat} {gs : TGs} {kk : LL → Prop} : Stp (GoG L (tup K l) (gTup K n gs) kk) (l.length = n ∧ GoGs L l gs kk) := ⟨fun h => GoG.tup h.1 h.2⟩
/-! ends -/
instance {α : Type} {r : α → As} {a : α} {A : As} : Stp ((eR fun A O' => A = r a ∧ O' = []).rt A []) (A = r a) := ⟨fin_P⟩
instance {α : Type} {post : α → As → Prop} {a : α} {A : As} : Stp ((eR fun A O' => O' = [] ∧ post a A).rt A []) (post a A) := ⟨fin_Q⟩
/-! expressions -/
instance {i : Int} : Stp (Go L O (tC (.int i)) k) (k (it i) O) := ⟨Go.c⟩
instance {b : Bool} : Stp (Go L O (tC (.bl b)) k) (k (bo b) O) := ⟨Go.c⟩
instance : Stp (Go L O (tC .non) k) (k no O) := ⟨Go.c⟩
instance {T : String} : Stp (Go L O (tC (.ty T)) k) (k (cst (.ty T)) O) := ⟨Go.c⟩
instance {z : Str} {l : List Nat} [h : LitS z l] : Stp (Go L O (tC (.str z)) k) (k (tx l) O) := ⟨Go.cS h.eq⟩
instance {r : R2} : Stp (Go L O (tOp r ta tb) k) (Go L O ta fun A O1 => Go L O1 tb fun B O2 => V2 O2 r A B k) := ⟨Go.op⟩
instance {r : V → Hp → VK → Prop} : Stp (Go L O (tUn r ta) k) (Go L O ta fun A O1 => V1 O1 r A k) := ⟨Go.un⟩
instance : Stp (Go L O (tNotV ta) k) (Go L O ta fun A O1 => ∃ b, A = bo b ∧ k (bo (!b)) O1) := ⟨Go.notV⟩
instance : Stp (Go L O tDNewK k) (k (dct []) O) := ⟨Go.dnew⟩
instance {r : List V → Hp → VK → Prop} : Stp (Go L O (tCB r t) k) (GoA L O t fun l O1 => Vn O1 r l k) := ⟨Go.cb⟩
instance {T : String} {r : V → List V → Hp → VK → Prop} : Stp (Go L O (tBM0 K T r ta) k) (Go L O ta fun A O1 => TyA K T A O1 ∧ Vm O1 r A [] k) := ⟨Go.bm0⟩
instance {r : V → List V → Hp → VK → Prop} : Stp (Go L O (tM1 r ta te) k) (Go L O ta fun A O1 => (∃ a, A = cst (.str a)) ∧ Go L O1 te fun B O2 => Vm O2 r A [B] k) := ⟨Go.m1⟩
instance {r : V → List V → Hp → VK → Prop} : Stp (Go L O (tM0 r ta) k) (Go L O ta fun A O1 => (∃ a, A = cst (.str a)) ∧ Vm O1 r A [] k) := ⟨Go.m0⟩
instance {r : V → Option Int → Option Int → Hp → VK → Prop} {tl th : TO} : Stp (Go L O (tSl r te tl th) k) (Go L O te fun A O1 => GoO L O1 tl fun lo O2 => GoO L O2 th fun hi O3 => Vs O3 r A lo hi k) := ⟨Go.sl⟩
instance {kk : Option Int → OO → Prop} : Stp (GoO L O tNoPart kk) (kk none O) := ⟨GoO.none⟩
instance {kk : Option Int → OO → Prop} : Stp (GoO L O (tPart te) kk) (Go L O te fun A O1 => ∃ i, A = it i ∧ kk (some i) O1) := ⟨GoO.part⟩
instance : Stp (GoA L O tNil kl) (kl [] O) := ⟨GoA.nil⟩
instance : Stp (GoA L O (tCons ta t) kl) (Go L O ta fun A O1 => GoA L O1 t fun l O2 => kl (A :: l) O2) := ⟨GoA.cons⟩
/-! tests -/
instance : Stp (GoT L O (tB te) kb) (Go L O te fun A O1 => ∃ b, A = bo b ∧ kb b O1) := ⟨GoT.b⟩
instance : Stp (GoT L O (tTest te) kb) (Go L O te fun A O1 => ∃ b, A = bo b ∧ kb b O1) := ⟨GoT.test⟩
instance : Stp (GoT L O (tTruQ K te) kb) (Go L O te fun A O1 => ∃ b, TruA K A O1 b ∧ kb b O1) := ⟨GoT.tru⟩
instance : Stp (GoT L O (tNot tt) kb) (GoT L O tt fun b O1 => kb (!b) O1) := ⟨GoT.not⟩
instance : Stp (GoT L O tYes kb) (kb true O) := ⟨GoT.yes⟩
/-! walks -/
instance : Stp (GoI L O (iList K te) kl) (Go L O te fun A O1 => ∃ xs, A = lst K xs ∧ kl xs O1) := ⟨GoI.ofL⟩
instance : Stp (GoI L O (iTup K te) kl) (Go L O te fun A O1 => ∃ xs, A = tup K xs ∧ kl xs O1) := ⟨GoI.ofT⟩
instance : Stp (GoI L O (iStr te) kl) (Go L O te fun A O1 => ∃ l, A = tx l ∧ kl (l.map fun c => tx [c]) O1) := ⟨GoI.str⟩
instance : Stp (GoI L O (iRng1 t) kl) (GoA L O t fun l O1 => ∃ j : Int, l = [it j] ∧ (-(2 ^ 62) ≤ j ∧ j < 2 ^ 62) ∧ kl (rngA 0 j.toNat) O1) := ⟨GoI.rng1⟩
instance : Stp (GoI L O (iRng2 t) kl) (GoA L O t fun l O1 => ∃ i j : Int, l = [it i, it j] ∧ (-(2 ^ 62) ≤ i ∧ i < 2 ^ 62 ∧ -(2 ^ 62) ≤ j ∧ j < 2 ^ 62) ∧ kl (rngA i (j - i).toNat) O1) := ⟨GoI.rng2⟩
instance : Stp (GoI L O (iEnum K t) kl) (GoA L O t fun l O1 => ∃ xs, l = [lst K xs] ∧ kl (enA K xs) O1) := ⟨GoI.enum⟩
instance : Stp (GoI L O (ET.iEn K t) kl) (GoA L O t fun l O1 => ∃ xs, l = [tup K xs] ∧ kl (enA K xs) O1) := ⟨GoI.enumT⟩
/-! calls -/
instance (priority := low) {α : Type} {pre : α → Prop} {as : α → List As} {r : α → As} {X : XK} : Stp (Go L O (tCall (SpP pre as r) [] X t) k) (GoA L O t fun l O1 => ∃ a, l = as a ∧ pre a ∧ k (r a) O1) := ⟨Go.callP⟩
instance {α β : Type} {pre : α × β → Prop} {as : α × β → List As} {r : α × β → As} {X : XK} : Stp (Go L O (tCall (SpP pre as r) [] X t) k) (GoA L O t fun l O1 => ∃ a b, l = as (a, b) ∧ pre (a, b) ∧ k (r (a, b)) O1) := ⟨Go.callP2⟩
instance (priority := high) {α β γ : Type} {pre : α × β × γ → Prop} {as : α × β × γ → List As} {r : α × β × γ → As} {X : XK} : Stp (Go L O (tCall (SpP pre as r) [] X t) k) (GoA L O t fun l O1 => ∃ a b c, l = as (a, b, c) ∧ pre (a, b, c) ∧ k (r (a, b, c)) O1) := ⟨Go.callP3⟩
instance {X : XK} : Stp (Go L O (tCall SpDigit [] X t) k) (GoA L O t fun l O1 => ∃ d m n R, l = [pt d, it m] ∧ O1 = (d, .dr n) :: R ∧ (0 < m ∧ m < 1000000000000 ∧ n ≤ 100000000) ∧ ∀ i : Int, 0 ≤ i → i < m → k (it i) ((d, .dr (n + 4)) :: R)) := ⟨Go.digit⟩
/-! numbers -/
instance {i j : Int} : Stp (V2 O rAdd (it i) (it j) k) (k (it (i + j)) O) := ⟨v_addI⟩
instance {i j : Int} : Stp (V2 O rSub (it i) (it j) k) (k (it (i - j)) O) := ⟨v_subI⟩
instance (priority := low) {i j : Int} {g : Int → Int → V} : Stp (V2 O (rI0 g) (it i) (it j) k) (k (cst (g i j)) O) := ⟨v_add⟩
instance {i : Int} {g : Int → V} : Stp (V1 O (rU g) (it i) k) (k (cst (g i)) O) := ⟨v_rU⟩
instance {i j : Int} : Stp (V2 O (rI0 fun i j => .bl (decide (i < j))) (it i) (it j) k) (k (bo (decide (i < j))) O) := ⟨v_lt⟩
instance {i j : Int} : Stp (V2 O (rI0 fun i j => .bl (decide (i ≤ j))) (it i) (it j) k) (k (bo (decide (i ≤ j))) O) := ⟨v_le⟩
instance {i j : Int} : Stp (V2 O (rI0 fun i j => .bl (decide (j < i))) (it i) (it j) k) (k (bo (decide (j < i))) O) := ⟨v_gt⟩
instance {i j : Int} : Stp (V2 O (rI0 fun i j => .bl (decide (j ≤ i))) (it i) (it j) k) (k (bo (decide (j ≤ i))) O) := ⟨v_ge⟩
instance {i j : Int} : Stp (V2 O rEq (it i) (it j) k) (k (bo (decide (i = j))) O) := ⟨v_eqI⟩
instance {i j : Int} : Stp (V2 O rNe (it i) (it j) k) (k (bo (!decide (i = j))) O) := ⟨v_neI⟩
instance {a b : List Nat} : Stp (V2 O rEq (tx a) (tx b) k) (k (bo (decide (a = b))) O) := ⟨v_eqS⟩
instance {a b : List Nat} : Stp (V2 O rNe (tx a) (tx b) k) (k (bo (!decide (a = b))) O) := ⟨v_neS⟩
instance {a b : Bool} : Stp (V2 O rEq (bo a) (bo b) k) (k (bo (a == b)) O) := ⟨v_eqB⟩
instance {a b : Bool} : Stp (V2 O rNe (bo a) (bo b) k) (k (bo (!(a == b))) O) := ⟨v_neB⟩
instance {x : V} : Stp (V2 O (fun x y H Q => y = V.non ∧ Q (V.bl (decide (x = V.non))) H) (cst x) (cst .non) k) (k (bo (decide (x = .non))) O) := ⟨v_isN⟩
instance {x : V} : Stp (V2 O (fun x y H Q => y = V.non ∧ Q (V.bl (!decide (x = V.non))) H) (cst x) (cst .non) k) (k (bo (!decide (x = .non))) O) := ⟨v_notN⟩
instance {i j : Int} : Stp (V2 O (rI (fun _ j => j ≠ 0) fun i j => .int (i.fmod j)) (it i) (it j) k) (j ≠ 0 ∧ k (it (i.fmod j)) O) := ⟨fun h => v_mod h.1 h.2⟩
instance {i j : Int} : Stp (V2 O (rI CDivN fun i j => .int (i.fdiv j)) (it i) (it j) k) ((j ≠ 0 ∧ j.natAbs < 1073741824) ∧ k (it (i.fdiv j)) O) := ⟨fun h => v_fdiv h.1 h.2⟩
instance {i j : Int} : Stp (V2 O (rI CDivW fun i j => .int (i / j)) (it i) (it j) k) ((0 < j ∧ j < 1000000000000) ∧ k (it (i / j)) O) := ⟨fun h => v_fdivW h.1 h.2⟩
instance {i j : Int} {C : Int → Int → Prop} : Stp (V2 O (rI C fun i j => .int (i * j)) (it i) (it j) k) (Sde (C i j) ∧ k (it (i * j)) O) := ⟨fun h => v_mul h.1.out h.2⟩
instance (priority := high) {o : Option Int} : Stp (V2 O (fun x y H Q => y = V.non ∧ Q (V.bl (decide (x = V.non))) H) (oI o) (cst .non) k) (k (bo o.isNone) O) := ⟨v_isNO⟩
instance (priority := high) {o : Option Int} : Stp (V2 O (fun x y H Q => y = V.non ∧ Q (V.bl (!decide (x = V.non))) H) (oI o) (cst .non) k) (k (bo o.isSome) O) := ⟨v_notNO⟩
instance {o : Option As} : Stp (V2 O (fun x y H Q => y = V.non ∧ Q (V.bl (!decide (x = V.non))) H) (op o) (cst .non) k) ((∀ A, o = some A → NN A) ∧ k (bo o.isSome) O) := ⟨fun h => v_notOp h.1 h.2⟩
instance {α : Type} {l : List α} {f : α → Option Int} : Stp (V2 O (rIn K false) (cst .non) (lst K (l.map fun x => oI (f x))) k) (k (bo (l.any fun x => (f x).isNone)) O) := ⟨v_noIn⟩
instance {α : Type} {l : List α} {f : α → Option Int} : Stp (V2 O (rIn K true) (cst .non) (lst K (l.map fun x => oI (f x))) k) (k (bo (!l.any fun x => (f x).isNone)) O) := ⟨v_noNi⟩
instance (priority := high) {α : Type} {l : List α} {f : α → List Nat} : Stp (Vm O (rJoinQ K) (tx []) [lst K (l.map fun x => tx (f x))] k) (((l.map f).map (·.length)).sum ≤ 1000000 ∧ k (tx (l.map f).flatten) O) := ⟨fun h => v_joinE h.1 h.2⟩
instance {α : Type} {l : List α} {f : α → List Nat} {a : List Nat} : Stp (Vm O (rJoinQ K) (tx a) [lst K (l.map fun x => tx (f x))] k) (((l.map f).map (·.length)).sum + l.length * a.length ≤ 1000000 ∧ k (tx (TL.joinL a (l.map f))) O) := ⟨fun h => v_joinF h.1 h.2⟩
instance {i : Int} : Stp (Vn O (fun xs H Q => ∃ i, xs = [.int i] ∧ i.natAbs.log2 < 1920 ∧ Q (.str (toString i)) H) [it i] k) (0 ≤ i ∧ i < 1000000000000 ∧ k (tx (numS i)) O) := ⟨fun h => v_strN h.1 h.2.1 h.2.2⟩
instance {b : Bool} : Stp (Vn O (fun xs H Q => (∃ i, xs = [.int i] ∧ Q (.int i) H) ∨ ∃ k, xs = [.bl k] ∧ Q (.int (if k then 1 else 0)) H) [bo b] k) (k (it (if b then 1 else 0)) O) := ⟨v_intB⟩
instance {kvs : List (Key × As)} : Stp (Vn O (fun xs H Q => ∃ a kvs, xs = [.ref a] ∧ H a = some (.dK kvs) ∧ Q (.int kvs.length) H) [dct kvs] k) (k (it (kvs.length : Int)) O) := ⟨v_lenC⟩
instance {D : Addr} {pre post : OO} {pb : Bool} {kvs : List (Key × As)} [h : OwnAt O D pre (.od pb kvs) post] : Stp (Vn O (fun xs H Q => ∃ a kvs, xs = [.ref a] ∧ H a = some (.dK kvs) ∧ Q (.int kvs.length) H) [pt D] k) (k (it (kvs.length : Int)) O) := ⟨fun q => by have e := h.eq; subst e; exact v_lenD q⟩
instance (priority := high) {l : List Nat} : Stp (V2 O (fun x y H Q => y = V.non ∧ Q (V.bl (decide (x = V.non))) H) (tx l) (cst .non) k) (k (bo false) O) := ⟨fun q => v_isN q⟩
instance (priority := high) {l : List Nat} : Stp (V2 O (fun x y H Q => y = V.non ∧ Q (V.bl (!decide (x = V.non))) H) (tx l) (cst .non) k) (k (bo true) O) := ⟨fun q => v_notN q⟩
instance (priority := high) {j : Int} : Stp (V2 O (fun x y H Q => y = V.non ∧ Q (V.bl (decide (x = V.non))) H) (it j) (cst .non) k) (k (bo false) O) := ⟨fun q => v_isN q⟩
instance (priority := high) {j : Int} : Stp (V2 O (fun x y H Q => y = V.non ∧ Q (V.bl (!decide (x = V.non))) H) (it j) (cst .non) k) (k (bo true) O) := ⟨fun q => v_notN q⟩
instance (priority := high) {b : Bool} : Stp (V2 O (fun x y H Q => y = V.non ∧ Q (V.bl (decide (x = V.non))) H) (bo b) (cst .non) k) (k (bo false) O) := ⟨fun q => v_isN q⟩
instance (priority := high) {b : Bool} : Stp (V2 O (fun x y H Q => y = V.non ∧ Q (V.bl (!decide (x = V.non))) H) (bo b) (cst .non) k) (k (bo true) O) := ⟨fun q => v_notN q⟩
instance (priority := high) : Stp (V2 O (fun x y H Q => y = V.non ∧ Q (V.bl (decide (x = V.non))) H) (cst .non) (cst .non) k) (k (bo true) O) := ⟨fun q => v_isN q⟩
instance (priority := high) : Stp (V2 O (fun x y H Q => y = V.non ∧ Q (V.bl (!decide (x = V.non))) H) (cst .non) (cst .non) k) (k (bo false) O) := ⟨fun q => v_notN q⟩
theorem v_isNN {A : As} (h : NN A) (q : k (bo false) O) : V2 O (fun x y H Q => y = V.non ∧ Q (V.bl (decide (x = V.non))) H) A (cst .non) k := fun E G0 H0 G H Q x y f a b zz => by
  obtain rfl : y = V.non := b
  exact ⟨rfl, by rw [decide_eq_false (h _ _ a)]; exact zz _ _ _ _ _ q f (Same.refl _) rfl⟩
theorem v_notNN {A : As} (h : NN A) (q : k (bo true) O) : V2 O (fun x y H Q => y = V.non ∧ Q (V.bl (!decide (x = V.non))) H) A (cst .non) k := fun E G0 H0 G H Q x y f a b zz => by
  obtain rfl : y = V.non := b
  exact ⟨rfl, by rw [decide_eq_false (h _ _ a)]; exact zz _ _ _ _ _ q f (Same.refl _) rfl⟩
theorem nn_lst {xs : List As} : NN (lst K xs) := fun G v h => by obtain ⟨p, ws, rfl, _⟩ := h; intro z; cases z
theorem nn_dct {kvs : List (Key × As)} : NN (dct kvs) := fun G v h => by obtain ⟨p, ws, rfl, _⟩ := h; intro z; cases z
instance {xs : List As} : Stp (V2 O (fun x y H Q => y = V.non ∧ Q (V.bl (decide (x = V.non))) H) (tup K xs) (cst .non) k) (k (bo false) O) := ⟨fun q => v_isNN nn_tup q⟩
instance {xs : List As} : Stp (V2 O (fun x y H Q => y = V.non ∧ Q (V.bl (!decide (x = V.non))) H) (tup K xs) (cst .non) k) (k (bo true) O) := ⟨fun q => v_notNN nn_tup q⟩
instance {xs : List As} : Stp (V2 O (fun x y H Q => y = V.non ∧ Q (V.bl (decide (x = V.non))) H) (lst K xs) (cst .non) k) (k (bo false) O) := ⟨fun q => v_isNN (nn_lst (K := K)) q⟩
instance {xs : List As} : Stp (V2 O (fun x y H Q => y = V.non ∧ Q (V.bl (!decide (x = V.non))) H) (lst K xs) (cst .non) k) (k (bo true) O) := ⟨fun q => v_notNN (nn_lst (K := K)) q⟩
instance {kvs : List (Key × As)} : Stp (V2 O (fun x y H Q => y = V.non ∧ Q (V.bl (decide (x = V.non))) H) (dct kvs) (cst .non) k) (k (bo false) O) := ⟨fun q => v_isNN nn_dct q⟩
instance {kvs : List (Key × As)} : Stp (V2 O (fun x y H Q => y = V.non ∧ Q (V.bl (!decide (x = V.non))) H) (dct kvs) (cst .non) k) (k (bo true) O) := ⟨fun q => v_notNN nn_dct q⟩
/-- a truth value that is known -/
class BVal (b : Bool) (v : outParam Bool) : Prop where
  eq : b = v
instance : BVal true true := ⟨rfl⟩
instance {b : Bool} : BVal (false && b) false := ⟨rfl⟩
instance {b : Bool} : BVal (true || b) true := ⟨rfl⟩
instance : BVal false false := ⟨rfl⟩
instance {b v : Bool} [h : BVal b v] : BVal (!b) (!v) := ⟨by rw [h.eq]⟩
instance {α : Type} : BVal (List.isEmpty ([] : List α)) true := ⟨rfl⟩
instance {α : Type} {x : α} {l : List α} : BVal (List.isEmpty (x :: l)) false := ⟨rfl⟩
instance {α β : Type} {f : α → β} {l : List α} {v : Bool} [h : BVal (List.isEmpty l) v] : BVal (List.isEmpty (List.map f l)) v := ⟨by rw [← h.eq]; cases l <;> rfl⟩
instance {b : Bool} {v : Bool} {A B : Prop} [h : BVal b v] : Stp ((b = true → A) ∧ (b = false → B)) (if v = true then A else B) := ⟨fun q => by
  rw [h.eq]
  cases v
  · exact ⟨fun z => (by cases z), fun _ => by simpa using q⟩
  · exact ⟨fun _ => (by simpa using q), fun z => (by cases z)⟩⟩
instance {A B : Prop} : Stp (if true = true then A else B) A := ⟨fun q => by simpa using q⟩
instance {A B : Prop} : Stp (if false = true then A else B) B := ⟨fun q => by simpa using q⟩
instance {A B : Prop} : Stp (if (!true) = true then A else B) B := ⟨fun q => by simpa using q⟩
instance {A B : Prop} : Stp (if (!false) = true then A else B) A := ⟨fun q => by simpa using q⟩
/-! texts -/
instance {a b : List Nat} : Stp (V2 O (fun x y H Q => ∃ i j, x = .str i ∧ y = .str j ∧ i.length + j.length ≤ sizeLine ∧ Q (.str (i ++ j)) H) (tx a) (tx b) k) (a.length + b.length ≤ 100000 ∧ k (tx (a ++ b)) O) := ⟨fun h => v_catS h.1 h.2⟩
instance {a : List Nat} : Stp (Vn O (fun xs H Q => ∃ z, xs = [.str z] ∧ z.length ≤ sizeLine ∧ Q (.int z.length) H) [tx a] k) (a.length ≤ 100000 ∧ k (it (a.length : Int)) O) := ⟨fun h => v_lenS h.1 h.2⟩
instance {c : Nat} {l : List Nat} : Stp (V2 O (fun x y H Q => ∃ (c : Nat) (z : Str), x = .str ⟨#[c]⟩ ∧ y = .str z ∧ Q (.bl (decide (c ∈ z.cps.toList))) H) (tx [c]) (tx l) k) (k (bo (decide (c ∈ l))) O) := ⟨v_inC⟩
instance {c : Nat} {l : List Nat} : Stp (V2 O (fun x y H Q => ∃ (c : Nat) (z : Str), x = .str ⟨#[c]⟩ ∧ y = .str z ∧ Q (.bl (!decide (c ∈ z.cps.toList))) H) (tx [c]) (tx l) k) (k (bo (!decide (c ∈ l))) O) := ⟨v_niC⟩
instance {a : List Nat} {lo hi : Option Int} : Stp (Vs O rSlS (tx a) lo hi k) (a.length ≤ 100000 ∧ k (tx (cut a lo hi)) O) := ⟨fun h => v_slS h.1 h.2⟩
instance {a b : List Nat} : Stp (Vm O (fun x xs H Q => ∃ a b, x = .str a ∧ xs = [.str b] ∧ Q (.bl (Txt.startswith a b)) H) (tx a) [tx b] k) (k (bo (b.isPrefixOf a)) O) := ⟨v_startsw⟩
instance {a b : List Nat} : Stp (Vm O (fun x xs H Q => ∃ a b, x = .str a ∧ xs = [.str b] ∧ Q (.bl (Txt.endswith a b)) H) (tx a) [tx b] k) (k (bo (b.isSuffixOf a)) O) := ⟨v_endsw⟩
instance {a : List Nat} {c : Nat} : Stp (Vm O (fun x xs H Q => ∃ a b, x = .str a ∧ xs = [.str b] ∧ Q (.int (Txt.count a b)) H) (tx a) [tx [c]] k) (k (it ((parts c a).length - 1 : Int)) O) := ⟨v_count1⟩
instance {a : List Nat} {c : Nat} : Stp (Vm O (fun x xs H Q => ∃ a b, x = .str a ∧ xs = [.str b] ∧ Q (.int (Txt.find a b)) H) (tx a) [tx [c]] k) (k (it (findI c a)) O) := ⟨v_find1⟩
instance {a b : List Nat} : Stp (Vm O (fun x xs H Q => ∃ a b, x = .str a ∧ xs = [.str b] ∧ a.length ≤ sizeLine ∧ Q (.str (Txt.stripChars a b)) H) (tx a) [tx b] k) (a.length ≤ 100000 ∧ k (tx (trimL (fun c => decide (c ∈ b)) a)) O) := ⟨fun h => v_strip h.1 h.2⟩
instance {a : List Nat} {l : List As} {ws : List (List Nat)} [h : MapTx l ws] : Stp (Vm O (rJoinQ K) (tx a) [lst K l] k) ((ws.map (·.length)).sum + ws.length * a.length ≤ 1000000 ∧ k (tx (TL.joinL a ws)) O) := ⟨fun q => by rw [h.eq]; exact v_join q.1 q.2⟩
instance {a : List Nat} : Stp (Vm O (fun x xs H Q => ∃ a, x = .str a ∧ xs = [] ∧ a.length ≤ 5592405 ∧ Q (.str (Txt.lower a)) H) (tx a) [] k) (a.length ≤ 100000 ∧ k (tx (lowL a)) O) := ⟨fun h => v_lower h.1 h.2⟩
instance {a : List Nat} : Stp (Vm O (fun x xs H Q => ∃ a, x = .str a ∧ xs = [] ∧ a.length ≤ 5592405 ∧ Q (.str (Txt.upper a)) H) (tx a) [] k) (a.length ≤ 100000 ∧ k (tx (upL a)) O) := ⟨fun h => v_upper h.1 h.2⟩
instance {i : Int} : Stp (Vn O (fun xs H Q => (∃ i, xs = [.int i] ∧ Q (.int i) H) ∨ ∃ k, xs = [.bl k] ∧ Q (.int (if k then 1 else 0)) H) [it i] k) (k (it i) O) := ⟨v_intI⟩
instance {i j : Int} : Stp (Vn O (fun xs H Q => ∃ i j, xs = [.int i, .int j] ∧ Q (.int (if j > i then j else i)) H) [it i, it j] k) (k (it (if j > i then j else i)) O) := ⟨v_max2⟩
instance {i j : Int} : Stp (Vn O (fun xs H Q => ∃ i j, xs = [.int i, .int j] ∧ Q (.int (if j < i then j else i)) H) [it i, it j] k) (k (it (if j < i then j else i)) O) := ⟨v_min2⟩
/-! tuples put together -/
theorem v_catA {xs ys : List As} (hl : xs.length + ys.length ≤ 100000) (q : k (tup K (xs ++ ys)) O) : V2 O (rCatA K) (tup K xs) (tup K ys) k := fun E G0 H0 G H Q x y f a b zz => by
  obtain ⟨p, vs, rfl, h1, h2⟩ := a
  obtain ⟨p', ws, rfl, h3, h4⟩ := b
  refine ⟨p, p', vs, ws, rfl, rfl, SqT.mono f.gh h1, SqT.mono f.gh h3, by rw [h2.len, h4.len]; exact sz hl, fun e => ?_, fun e1 e2 => ?_, fun e1 e2 r nr => ?_⟩
  · subst e
    cases h2
    exact zz _ _ _ _ _ q f (Same.refl _) ⟨p', ws, rfl, h3, h4⟩
  · subst e2
    cases h4
    rw [List.append_nil] at q
    exact zz _ _ _ _ _ q f (Same.refl _) ⟨p, vs, rfl, h1, h2⟩
  · have ex := Ext.new (o := .tup (vs ++ ws)) f.gh nr
    exact zz _ _ _ _ _ q (f.ext ex) ex.g ⟨r, _, rfl, .inl (.inl upd_same), (h2.app h4).m ex.g⟩
instance {xs ys : List As} : Stp (V2 O (rCatA K) (tup K xs) (tup K ys) k) (xs.length + ys.length ≤ 100000 ∧ k (tup K (xs ++ ys)) O) := ⟨fun h => v_catA h.1 h.2⟩
instance {l : List Nat} {i : Int} : Stp (V2 O rRepS (tx l) (it i) k) ((0 ≤ i ∧ i ≤ 1000000) ∧ l.length * i.toNat ≤ 1000000 ∧ k (tx (repL l i)) O) := ⟨fun h => v_repS h.1.1 h.1.2 h.2.1 h.2.2⟩
/-! lists and tuples -/
instance {xs : List As} : Stp (Vn O (rLenQ K) [lst K xs] k) (k (it (xs.length : Int)) O) := ⟨v_lenL⟩
instance {xs : List As} : Stp (Vn O (rLenQ K) [tup K xs] k) (k (it (xs.length : Int)) O) := ⟨v_lenT⟩
instance {D : Addr} {pre post : OO} {xs : List As} [h : OwnAt O D pre (.ol xs) post] : Stp (Vn O (rLenQ K) [pt D] k) (k (it (xs.length : Int)) O) := ⟨fun q => by have e := h.eq; subst e; exact v_lenO q⟩
instance {D : Addr} {pre post : OO} {xs : List As} {A : As} [h : OwnAt O D pre (.ol xs) post] : Stp (Vm O rAppend (pt D) [A] k) (xs.length < 100000 ∧ k no (pre ++ (D, .ol (xs ++ [A])) :: post)) := ⟨fun q => by have e := h.eq; subst e; exact v_append q.1 q.2⟩
instance {D : Addr} {pre post : OO} {xs ys : List As} [h : OwnAt O D pre (.ol xs) post] : Stp (Vm O rExtend (pt D) [lst K ys] k) (xs.length + ys.length ≤ 100000 ∧ k no (pre ++ (D, .ol (xs ++ ys)) :: post)) := ⟨fun q => by have e := h.eq; subst e; exact v_extend q.1 q.2⟩
instance {D : Addr} {pre post : OO} {xs : List As} [h : OwnAt O D pre (.ol xs) post] : Stp (TyA K "list" (pt D) O) True := ⟨fun _ => by have e := h.eq; subst e; exact ty_o⟩
instance {l : List Nat} : Stp (TyA K "str" (tx l) O) True := ⟨fun _ => ty_s⟩
instance {xs : List As} : Stp (TyA K "list" (lst K xs) O) True := ⟨fun _ => ty_l⟩
instance {xs : List As} {lo hi : Option Int} : Stp (Vs O (rSlL K) (lst K xs) lo hi k) (k (lst K (cut xs lo hi)) O) := ⟨v_slL⟩
instance {xs : List As} {lo hi : Option Int} : Stp (Vs O (rSlL K) (sql K xs) lo hi k) (k (lst K (cut xs lo hi)) O) := ⟨v_slQ⟩
instance {xs : List As} {lo hi : Option Int} : Stp (Vs O (rSlA K) (tup K xs) lo hi k) (k (tup K (cut xs lo hi)) O) := ⟨v_slT⟩
instance {xs : List As} : Stp (Vn O (rLenQ K) [sql K xs] k) (k (it (xs.length : Int)) O) := ⟨v_lenQ⟩
instance {ns : List Int} : Stp (Vn O (rSum K) [sql K (ns.map it)] k) (k (it ns.sum) O) := ⟨v_sumQ⟩
instance {α : Type} {l : List α} {f : α → Int} : Stp (Vn O (rSum K) [lst K (l.map fun x => it (f x))] k) (k (it (l.map f).sum) O) := ⟨v_sum⟩
instance {α : Type} {l : List α} {f : α → Bool} : Stp (Vn O (rAll K) [lst K (l.map fun x => bo (f x))] k) (k (bo (l.all f)) O) := ⟨v_all⟩
instance {α : Type} {l : List α} {f : α → Bool} : Stp (Vn O (rAny K) [lst K (l.map fun x => bo (f x))] k) (k (bo (l.any f)) O) := ⟨v_any⟩
instance {xs : List As} : Stp (Vn O (rTupQ K) [lst K xs] k) (k (tup K xs) O) := ⟨v_tupL⟩
instance {xs : List As} : Stp (Vn O (rTupQ K) [tup K xs] k) (k (tup K xs) O) := ⟨v_tupT⟩
instance {xs : List As} : Stp (Vn O (rLstQ K) [lst K xs] k) (k (lst K xs) O) := ⟨v_lstL⟩
instance {xs : List As} : Stp (Vn O (rLstQ K) [tup K xs] k) (k (lst K xs) O) := ⟨v_lstT⟩
instance {xs ys : List As} : Stp (V2 O rCat (lst K xs) (lst K ys) k) (xs.length + ys.length ≤ 100000 ∧ k (lst K (xs ++ ys)) O) := ⟨fun h => v_cat h.1 h.2⟩
instance {xs : List As} : Stp (V2 O (rEqE K) (lst K xs) (lst K []) k) (k (bo xs.isEmpty) O) := ⟨v_eqE⟩
instance {xs : List As} : Stp (V2 O (rNeE K) (lst K xs) (lst K []) k) (k (bo (!xs.isEmpty)) O) := ⟨v_neE⟩
instance {n : Int} {l : List As} {ns : List Int} [h : MapIt l ns] : Stp (V2 O (rIn K false) (it n) (tup K l) k) (k (bo (decide (n ∈ ns))) O) := ⟨fun q => by rw [h.eq]; exact v_inTI q⟩
instance {n : Int} {l : List As} {ns : List Int} [h : MapIt l ns] : Stp (V2 O (rIn K true) (it n) (tup K l) k) (k (bo (!decide (n ∈ ns))) O) := ⟨fun q => by rw [h.eq]; exact v_niTI q⟩
instance {n : Int} {l : List As} {ns : List Int} [h : MapIt l ns] : Stp (V2 O (rIn K false) (it n) (lst K l) k) (k (bo (decide (n ∈ ns))) O) := ⟨fun q => by rw [h.eq]; exact v_inLI q⟩
instance {n : Int} {l : List As} {ns : List Int} [h : MapIt l ns] : Stp (V2 O (rIn K true) (it n) (lst K l) k) (k (bo (!decide (n ∈ ns))) O) := ⟨fun q => by rw [h.eq]; exact v_niLI q⟩
instance {n : List Nat} {l : List As} {ns : List (List Nat)} [h : MapTx l ns] : Stp (V2 O (rIn K false) (tx n) (tup K l) k) (k (bo (decide (n ∈ ns))) O) := ⟨fun q => by rw [h.eq]; exact v_inTS q⟩
instance {n : List Nat} {l : List As} {ns : List (List Nat)} [h : MapTx l ns] : Stp (V2 O (rIn K true) (tx n) (tup K l) k) (k (bo (!decide (n ∈ ns))) O) := ⟨fun q => by rw [h.eq]; exact v_niTS q⟩
instance {n : List Nat} {l : List As} {ns : List (List Nat)} [h : MapTx l ns] : Stp (V2 O (rIn K false) (tx n) (lst K l) k) (k (bo (decide (n ∈ ns))) O) := ⟨fun q => by rw [h.eq]; exact v_inLS q⟩
instance {n : List Nat} {l : List As} {ns : List (List Nat)} [h : MapTx l ns] : Stp (V2 O (rIn K true) (tx n) (lst K l) k) (k (bo (!decide (n ∈ ns))) O) := ⟨fun q => by rw [h.eq]; exact v_niLS q⟩
instance {l : List Nat} : Stp (Vn O (rIsi K) [tx l, cst (.ty "str")] k) (k (bo true) O) := ⟨v_is_s_str⟩
instance {l : List Nat} : Stp (Vn O (rIsi K) [tx l, cst (.ty "int")] k) (k (bo false) O) := ⟨v_is_s_int⟩
instance {l : List Nat} : Stp (Vn O (rIsi K) [tx l, cst (.ty "bool")] k) (k (bo false) O) := ⟨v_is_s_bool⟩
instance {l : List Nat} : Stp (Vn O (rIsi K) [tx l, cst (.ty "tuple")] k) (k (bo false) O) := ⟨v_is_s_tuple⟩
instance {l : List Nat} : Stp (Vn O (rIsi K) [tx l, cst (.ty "list")] k) (k (bo false) O) := ⟨v_is_s_list⟩
instance {l : List Nat} : Stp (Vn O (rIsi K) [tx l, cst (.ty "dict")] k) (k (bo false) O) := ⟨v_is_s_dict⟩
instance {i : Int} : Stp (Vn O (rIsi K) [it i, cst (.ty "str")] k) (k (bo false) O) := ⟨v_is_i_str⟩
instance {i : Int} : Stp (Vn O (rIsi K) [it i, cst (.ty "int")] k) (k (bo true) O) := ⟨v_is_i_int⟩
instance {i : Int} : Stp (Vn O (rIsi K) [it i, cst (.ty "bool")] k) (k (bo false) O) := ⟨v_is_i_bool⟩
instance {i : Int} : Stp (Vn O (rIsi K) [it i, cst (.ty "tuple")] k) (k (bo false) O) := ⟨v_is_i_tuple⟩
instance {i : Int} : Stp (Vn O (rIsi K) [it i, cst (.ty "list")] k) (k (bo false) O) := ⟨v_is_i_list⟩
instance {i : Int} : Stp (Vn O (rIsi K) [it i, cst (.ty "dict")] k) (k (bo false) O) := ⟨v_is_i_dict⟩
instance {i : Bool} : Stp (Vn O (rIsi K) [bo i, cst (.ty "str")] k) (k (bo false) O) := ⟨v_is_b_str⟩
instance {i : Bool} : Stp (Vn O (rIsi K) [bo i, cst (.ty "int")] k) (k (bo true) O) := ⟨v_is_b_int⟩
instance {i : Bool} : Stp (Vn O (rIsi K) [bo i, cst (.ty "bool")] k) (k (bo true) O) := ⟨v_is_b_bool⟩
instance {i : Bool} : Stp (Vn O (rIsi K) [bo i, cst (.ty "tuple")] k) (k (bo false) O) := ⟨v_is_b_tuple⟩
instance {i : Bool} : Stp (Vn O (rIsi K) [bo i, cst (.ty "list")] k) (k (bo false) O) := ⟨v_is_b_list⟩
instance {i : Bool} : Stp (Vn O (rIsi K) [bo i, cst (.ty "dict")] k) (k (bo false) O) := ⟨v_is_b_dict⟩
instance  : Stp (Vn O (rIsi K) [no, cst (.ty "str")] k) (k (bo false) O) := ⟨v_is_n_str⟩
instance  : Stp (Vn O (rIsi K) [no, cst (.ty "int")] k) (k (bo false) O) := ⟨v_is_n_int⟩
instance  : Stp (Vn O (rIsi K) [no, cst (.ty "bool")] k) (k (bo false) O) := ⟨v_is_n_bool⟩
instance  : Stp (Vn O (rIsi K) [no, cst (.ty "tuple")] k) (k (bo false) O) := ⟨v_is_n_tuple⟩
instance  : Stp (Vn O (rIsi K) [no, cst (.ty "list")] k) (k (bo false) O) := ⟨v_is_n_list⟩
instance  : Stp (Vn O (rIsi K) [no, cst (.ty "dict")] k) (k (bo false) O) := ⟨v_is_n_dict⟩
instance {xs : List As} : Stp (Vn O (rIsi K) [lst K xs, cst (.ty "str")] k) (k (bo false) O) := ⟨v_is_l_str⟩
instance {xs : List As} : Stp (Vn O (rIsi K) [lst K xs, cst (.ty "int")] k) (k (bo false) O) := ⟨v_is_l_int⟩
instance {xs : List As} : Stp (Vn O (rIsi K) [lst K xs, cst (.ty "bool")] k) (k (bo false) O) := ⟨v_is_l_bool⟩
instance {xs : List As} : Stp (Vn O (rIsi K) [lst K xs, cst (.ty "tuple")] k) (k (bo false) O) := ⟨v_is_l_tuple⟩
instance {xs : List As} : Stp (Vn O (rIsi K) [lst K xs, cst (.ty "list")] k) (k (bo true) O) := ⟨v_is_l_list⟩
instance {xs : List As} : Stp (Vn O (rIsi K) [lst K xs, cst (.ty "dict")] k) (k (bo false) O) := ⟨v_is_l_dict⟩
instance {xs : List As} : Stp (Vn O (rIsi K) [tup K xs, cst (.ty "str")] k) (k (bo false) O) := ⟨v_is_t_str⟩
instance {xs : List As} : Stp (Vn O (rIsi K) [tup K xs, cst (.ty "int")] k) (k (bo false) O) := ⟨v_is_t_int⟩
instance {xs : List As} : Stp (Vn O (rIsi K) [tup K xs, cst (.ty "bool")] k) (k (bo false) O) := ⟨v_is_t_bool⟩
instance {xs : List As} : Stp (Vn O (rIsi K) [tup K xs, cst (.ty "tuple")] k) (k (bo true) O) := ⟨v_is_t_tuple⟩
instance {xs : List As} : Stp (Vn O (rIsi K) [tup K xs, cst (.ty "list")] k) (k (bo false) O) := ⟨v_is_t_list⟩
instance {xs : List As} : Stp (Vn O (rIsi K) [tup K xs, cst (.ty "dict")] k) (k (bo false) O) := ⟨v_is_t_dict⟩
instance {kvs : List (Key × As)} : Stp (Vn O (rIsi K) [dct kvs, cst (.ty "str")] k) (k (bo false) O) := ⟨v_is_d_str⟩
instance {kvs : List (Key × As)} : Stp (Vn O (rIsi K) [dct kvs, cst (.ty "int")] k) (k (bo false) O) := ⟨v_is_d_int⟩
instance {kvs : List (Key × As)} : Stp (Vn O (rIsi K) [dct kvs, cst (.ty "bool")] k) (k (bo false) O) := ⟨v_is_d_bool⟩
instance {kvs : List (Key × As)} : Stp (Vn O (rIsi K) [dct kvs, cst (.ty "tuple")] k) (k (bo false) O) := ⟨v_is_d_tuple⟩
instance {kvs : List (Key × As)} : Stp (Vn O (rIsi K) [dct kvs, cst (.ty "list")] k) (k (bo false) O) := ⟨v_is_d_list⟩
instance {kvs : List (Key × As)} : Stp (Vn O (rIsi K) [dct kvs, cst (.ty "dict")] k) (k (bo true) O) := ⟨v_is_d_dict⟩
end
end Sy
/-! ### values told as data: what repr and == want of them -/
namespace Sy
open PySem PySem.Spec PyProof.Rows L2
open SX (S S_len S_cat S_inj)
structure ShD (K : PySem.W.Frag) (A : As) (d : PyData) (e b : Nat) : Prop where
  is : IsD K A d
  nd : d.hasDict = false
  sh : d.showable = true
  lf : d.leavesShort 13 = true
  sp : d.canLay0 = true
  dp : d.depth ≤ e
  bk : d.bulk ≤ b
structure ShDs (K : PySem.W.Frag) (xs : List As) (ds : List PyData) (e b : Nat) : Prop where
  is : IsDs K xs ds
  nd : PyData.hasDictAll ds = false
  sh : PyData.showableAll ds = true
  lf : PyData.leavesShortAll 13 ds = true
  sp : PyData.canLayAll0 ds = true
  dp : PyData.depthAll ds ≤ e
  bk : PyData.bulkAll ds ≤ b
section
variable {K : PySem.W.Frag} {A B : As} {d : PyData} {e b e' b' : Nat} {xs : List As} {ds : List PyData}
theorem ShD.le (h : ShD K A d e b) (h1 : e ≤ e') (h2 : b ≤ b') : ShD K A d e' b' := ⟨h.is, h.nd, h.sh, h.lf, h.sp, Nat.le_trans h.dp h1, Nat.le_trans h.bk h2⟩
theorem ShDs.nil : ShDs K [] [] 0 0 := ⟨.nil, by simp [PyData.hasDictAll], by simp [PyData.showableAll], by simp [PyData.leavesShortAll], by simp [PyData.canLayAll0], by simp [PyData.depthAll], by simp [PyData.bulkAll]⟩
theorem ShDs.cons (h : ShD K A d e b) (t : ShDs K xs ds e' b') : ShDs K (A :: xs) (d :: ds) (max e e') (b + 1 + b') :=
  ⟨.cons h.is t.is, by simp [PyData.hasDictAll, h.nd, t.nd], by simp [PyData.showableAll, h.sh, t.sh], by simp [PyData.leavesShortAll, h.lf, t.lf], by simp [PyData.canLayAll0, h.sp, t.sp], by
    have := h.dp
    have := t.dp
    simp only [PyData.depthAll]
    omega, by
    have := h.bk
    have := t.bk
    simp only [PyData.bulkAll]
    omega⟩
theorem ShDs.map {α : Type} {f : α → As} {g : α → PyData} : ∀ {l : List α}, (∀ x ∈ l, ShD K (f x) (g x) e b) → ShDs K (l.map f) (l.map g) e (l.length * (b + 1))
  | [], _ => ⟨.nil, by simp [PyData.hasDictAll], by simp [PyData.showableAll], by simp [PyData.leavesShortAll], by simp [PyData.canLayAll0], by simp [PyData.depthAll], by simp [PyData.bulkAll]⟩
  | x :: l, h => by
    have t := ShDs.cons (h x List.mem_cons_self) (ShDs.map fun y hy => h y (List.mem_cons_of_mem _ hy))
    rw [List.map_cons, List.map_cons]
    refine ⟨t.is, t.nd, t.sh, t.lf, t.sp, ?_, ?_⟩
    · have := t.dp
      omega
    · have := t.bk
      rw [List.length_cons, Nat.succ_mul]
      omega
theorem ShD.tup (h : ShDs K xs ds e b) : ShD K (tup K xs) (.tuple ds) (e + 1) b :=
  ⟨isD_tup h.is, by simp [PyData.hasDict, h.nd], by simp [PyData.showable, h.sh], by simp [PyData.leavesShort, h.lf], by simp [PyData.canLay0, h.sp], by simp [PyData.depth, h.dp], by simp [PyData.bulk, h.bk]⟩
theorem ShD.lst (h : ShDs K xs ds e b) : ShD K (lst K xs) (.list ds) (e + 1) b :=
  ⟨isD_lst h.is, by simp [PyData.hasDict, h.nd], by simp [PyData.showable, h.sh], by simp [PyData.leavesShort, h.lf], by simp [PyData.canLay0, h.sp], by simp [PyData.depth, h.dp], by simp [PyData.bulk, h.bk]⟩
theorem ShD.no : ShD K no .none 0 0 := ⟨isD_no, by simp [PyData.hasDict], by simp [PyData.showable], by simp [PyData.leavesShort], by simp [PyData.canLay0], by simp [PyData.depth], by simp [PyData.bulk]⟩
theorem ShD.bo {x : Bool} : ShD K (bo x) (.bool x) 0 0 := ⟨isD_bo, by simp [PyData.hasDict], by simp [PyData.showable], by simp [PyData.leavesShort], by simp [PyData.canLay0], by simp [PyData.depth], by simp [PyData.bulk]⟩
theorem ShD.tx {l : List Nat} (h : ∀ c ∈ l, c < 128) : ShD K (tx l) (.str (S l)) 0 l.length :=
  ⟨isD_tx, by simp [PyData.hasDict], by simp [PyData.showable], by
    simp [PyData.leavesShort]
    exact fun c hc => Nat.lt_trans (h c hc) (by decide), by
    rw [show PyData.canLay0 (.str (S l)) = PyData.strOk (S l) by simp [PyData.canLay0]]
    exact strOk_S (List.all_eq_true.mpr fun c hc => decide_eq_true (Nat.lt_trans (h c hc) (by decide))), by simp [PyData.depth], by simp [PyData.bulk, S]⟩
theorem ShD.it {i : Int} (h0 : 0 ≤ i) (h1 : i < 1000000000000) : ShD K (it i) (.int i) 0 0 := by
  have hz : (numS i).length ≤ 12 := numS_len h0 h1
  have e : (PyData.int i).shown = (toString i : Str) := by simp only [PyData.shown]
  have e2 : S (numS i) = (toString i : Str) := by simp [S, numS]
  refine ⟨isD_it, by simp [PyData.hasDict], ?_, ?_, by simp [PyData.canLay0], by simp [PyData.depth], by simp [PyData.bulk]⟩
  · simp only [PyData.showable, decide_eq_true_eq]
    by_cases z : i.natAbs = 0
    · rw [z]; decide
    · exact (Nat.log2_lt z).mpr (Nat.lt_of_lt_of_le (show i.natAbs < 2 ^ 40 by omega) (Nat.pow_le_pow_right (by decide) (show 40 ≤ 1920 by decide)))
  · simp only [PyData.leavesShort, decide_eq_true_eq]
    rw [e, ← e2, S_len]
    omega
theorem ShD.shp (h : ShD K A d e b) (he : e ≤ 60) : SeqAt.shaped d = true := by
  unfold SeqAt.shaped
  rw [h.sp, decide_eq_true (Nat.le_trans h.dp (Nat.le_trans he (by decide)))]
  rfl
theorem v_reprS {O : OO} {k : As → OO → Prop} (h : ShD K A d e b) (he : e ≤ 60) (hb : b ≤ 1000000) (q : k (tx (shw d)) O) : Vn O (rReprX K) [A] k :=
  v_reprX (isX_of h.is h.nd) ⟨h.sh, Nat.le_trans h.dp he⟩ (PyData.shown_fits_bulk (B := 13) (by decide) (by decide) h.lf (Nat.le_trans h.bk (Nat.le_trans hb (by decide)))) q
theorem v_neSh {O : OO} {k : As → OO → Prop} (h : ShD K A d e b) (h' : ShD K B d e' b') (he : e ≤ 60) (q : k (bo false) O) : V2 O (rNeD K) A B k := v_neSame h.is h'.is (h.shp he) q
end
end Sy
/-! ### instances of the program's own classes -/
namespace Sy
open PySem PySem.Spec PyProof.Rows L2
open SX (S S_len S_cat S_inj)
theorem AllF.look {G : Hp} : ∀ {fs : List (Str × As)} {vs : List (Str × V)} {f : Str} {A : As}, AllF G fs vs → fs.lookup f = some A → ∃ v, vs.lookup f = some v ∧ A.p G v
  | _, _, f, A, .nil, e => by cases e
  | _, _, f, A, .cons (f := g) h t, e => by
    rw [look_cons] at e ⊢
    by_cases q : f = g
    · rw [if_pos q] at e ⊢
      cases e
      exact ⟨_, rfl, h⟩
    · rw [if_neg q] at e ⊢
      exact AllF.look t e
theorem AllF.noLook {G : Hp} : ∀ {fs : List (Str × As)} {vs : List (Str × V)} {f : Str}, AllF G fs vs → fs.lookup f = none → vs.lookup f = none
  | _, _, f, .nil, e => rfl
  | _, _, f, .cons (f := g) h t, e => by
    rw [look_cons] at e ⊢
    by_cases q : f = g
    · rw [if_pos q] at e
      cases e
    · rw [if_neg q] at e ⊢
      exact AllF.noLook t e
theorem AllF.len {G : Hp} : ∀ {fs : List (Str × As)} {vs : List (Str × V)}, AllF G fs vs → vs.length = fs.length
  | _, _, .nil => rfl
  | _, _, .cons _ t => congrArg (· + 1) (AllF.len t)
def putFA (f : Str) (A : As) : List (Str × As) → List (Str × As)
  | [] => [(f, A)]
  | (g, x) :: r => if g = f then (g, A) :: r else (g, x) :: putFA f A r
theorem AllF.put {G : Hp} {f : Str} {A : As} {v : V} (h : A.p G v) : ∀ {fs : List (Str × As)} {vs : List (Str × V)}, AllF G fs vs → AllF G (putFA f A fs) (putF f v vs)
  | _, _, .nil => .cons h .nil
  | _, _, .cons (f := g) a t => by
    unfold putFA putF
    by_cases q : g = f
    · rw [if_pos q, if_pos q]
      exact .cons h t
    · rw [if_neg q, if_neg q]
      exact .cons a (AllF.put h t)
/-- an instance that never changes any more -/
def ins (C : Addr) (fs : List (Str × As)) : As := ⟨fun G v => ∃ a dx vs, v = .ref a ∧ G a = some (.ins C dx vs) ∧ AllF G fs vs, fun e h => by
  obtain ⟨a, dx, vs, h1, h2, h3⟩ := h
  exact ⟨a, dx, vs, h1, e _ _ h2, h3.m e⟩⟩
/-- an instance of the class at C -/
def InsC (A : As) (O : OO) (C : Addr) : Prop := ∀ (E : List Addr) (G0 H0 G H : Hp) (x : V), Fr E G0 H0 O G H → A.p G x → ∃ a dx vs, x = .ref a ∧ H a = some (.ins C dx vs)
/-- .. whose field f holds a B -/
def InsF (A : As) (O : OO) (C : Addr) (f : Str) (B : As) : Prop := ∀ (E : List Addr) (G0 H0 G H : Hp) (x : V), Fr E G0 H0 O G H → A.p G x → ∃ a dx vs v, x = .ref a ∧ H a = some (.ins C dx vs) ∧ vs.lookup f = some v ∧ B.p G v
theorem InsC.ins {C : Addr} {fs : List (Str × As)} {O : OO} : InsC (Sy.ins C fs) O C := fun E G0 H0 G H x f a => by
  obtain ⟨p, dx, vs, h1, h2, h3⟩ := a
  exact ⟨p, dx, vs, h1, f.gh _ _ h2⟩
theorem InsF.ins {C : Addr} {fs : List (Str × As)} {O : OO} {f : Str} {B : As} (h : fs.lookup f = some B) : InsF (Sy.ins C fs) O C f B := fun E G0 H0 G H x fr a => by
  obtain ⟨p, dx, vs, h1, h2, h3⟩ := a
  obtain ⟨v, e1, e2⟩ := h3.look h
  exact ⟨p, dx, vs, v, h1, fr.gh _ _ h2, e1, e2⟩
theorem InsC.own {C D : Addr} {p : Bool} {fs : List (Str × As)} {pre post : OO} : InsC (pt D) (pre ++ (D, .oi p C fs) :: post) C := fun E G0 H0 G H x f a => by
  obtain ⟨dx, vs, h1, h2⟩ := own_at f
  exact ⟨D, dx, vs, a, h1⟩
theorem InsF.own {C D : Addr} {p : Bool} {fs : List (Str × As)} {pre post : OO} {f : Str} {B : As} (h : fs.lookup f = some B) : InsF (pt D) (pre ++ (D, .oi p C fs) :: post) C f B := fun E G0 H0 G H x fr a => by
  obtain ⟨dx, vs, h1, h2⟩ := own_at fr
  obtain ⟨v, e1, e2⟩ := h2.look h
  exact ⟨D, dx, vs, v, a, h1, e1, e2⟩
section
variable {K : PySem.W.Frag} {L : LL} {O : OO} {k : As → OO → Prop} {te tv ta : TE} {t tk : TA}
/-- e.f -/
theorem Go.fld {C : Addr} {f : Str} (c : Cls K C) (n : NoAttr K C f) (h : Go L O te fun A O1 => ∃ B, InsF A O1 C f B ∧ k B O1) : Go L O (tFld K te f) k := fun E G0 H0 σ G H Q fr s z =>
  h _ _ _ _ _ _ _ fr s fun A O1 G1 H1 x hk f1 s1 a => by
    obtain ⟨B, hi, hk⟩ := hk
    obtain ⟨p, dx, vs, v, e1, e2, e3, b⟩ := hi _ _ _ _ _ _ f1 a
    exact ⟨p, C, dx, vs, v, e1, e2, c, n, e3, z _ _ _ _ _ hk f1 s1 b⟩
/-- e.f, a property -/
theorem Go.prop {α : Type} {C : Addr} {pre : α → Prop} {as : α → List As} {r : α → As} {X : XK} (h : Go L O te fun A O1 => InsC A O1 C ∧ ∃ a, [A] = as a ∧ pre a ∧ k (r a) O1) : Go L O (tProp C (SpP pre as r) [] X te) k := fun E G0 H0 σ G H Q fr s z =>
  h _ _ _ _ _ _ _ fr s fun A O1 G1 H1 x hk f1 s1 a1 => by
    obtain ⟨hi, a, ha, hp, hk⟩ := hk
    obtain ⟨p, dx, vs, rfl, e2⟩ := hi _ _ _ _ _ _ f1 a1
    refine ⟨p, dx, vs, rfl, e2, a, G1, hp, ha ▸ .cons a1 .nil, Fr.part (I := []) f1 (fun x hx => by cases hx), fun A O' G' H' v q g c => ?_⟩
    obtain ⟨rfl, rfl⟩ := q
    exact z _ _ _ _ _ hk (Fr.frame (I := []) f1 g) (s1.trans g.gg) c
/-- o.f = e, o owned -/
theorem GoS.fld {K : PySem.W.Frag} {E : Es} {C : Addr} {f : Str} (c : Cls K C) (n : NoAttr K C f) (h : Go L O tv fun B O1 => Go L O1 ta fun A O2 => ∃ D p fs pre post, A = pt D ∧ O2 = pre ++ (D, .oi p C fs) :: post ∧ fs.length < 1000 ∧ E.nx L (pre ++ (D, .oi p C (putFA f B fs)) :: post)) :
    GoS L O (sFld K ta tv f) E := fun E' G0 H0 σ G H D fr s e =>
  h _ _ _ _ _ _ _ fr s fun B O1 G1 H1 y hB f1 s1 b => hB _ _ _ _ _ _ _ f1 (s.m s1) fun A O2 G2 H2 x hk f2 s2 a => by
    obtain ⟨d, p, fs, pre, post, rfl, rfl, hl, hk⟩ := hk
    obtain ⟨dx, vs, h1, h2⟩ := own_at f2
    have s3 := s1.trans s2
    refine ⟨d, C, dx, vs, a, h1, c, n, by rw [h2.len]; exact hl, ?_⟩
    exact e.nx _ _ _ _ _ hk (f2.change (fun z => z) ⟨dx, _, upd_same, h2.put (B.m s2 b)⟩) s3 (s.m s3)
/-- an __init__ that makes the fields fs -/
abbrev SpI {α : Type} (C : Addr) (pre : α → Prop) (as : α → List As) (fs : α → List (Str × As)) : Sp := SpG (fun a : Addr × α => pre a.2) (fun a => pt a.1 :: as a.2) (fun a => [(a.1, .oi true C [])]) (fun a A O' => A = no ∧ O' = [(a.1, .oi true C (fs a.2))])
abbrev SpIX {α : Type} (C : Addr) (pre : α → Prop) (as : α → List As) (fs : α → List (Str × As)) (ok : α → Prop) (rp : α → Value → List (Str × As) → OO → Prop) : Sp := SpX (fun a : Addr × α => pre a.2) (fun a => pt a.1 :: as a.2) (fun a => [(a.1, .oi true C [])]) (fun a A O' => ok a.2 ∧ A = no ∧ O' = [(a.1, .oi true C (fs a.2))]) (fun a => rp a.2)
theorem made_fr {E : List Addr} {G0 H0 G H : Hp} {x dx C : Addr} (f : Fr E G0 H0 O G H) (nx : H x = none) (ndx : H dx = none) (ne : dx ≠ x) : Fr E G0 H0 ([(x, .oi true C [])] ++ O) G (upd (upd H dx (.own x)) x (.ins C dx [])) := by
  have s : Same H (upd H dx (.own x)) := fun b u e => by rw [upd_ne (ne_of_none e ndx)]; exact e
  have f2 := f.ext (Ext.heap f.gh s)
  have n2 : (upd H dx (.own x)) x = none := by rw [upd_ne (Ne.symm ne)]; exact nx
  exact FrLe.perm List.perm_append_comm _ _ _ _ _ (f2.own (c := .oi true C []) n2 ⟨dx, [], upd_same, .nil⟩)
theorem made_end {E : List Addr} {G0 H0 G H : Hp} {Q : VK} {x C : Addr} {fs : List (Str × As)} (h0 : H0 x = none) (f : Fr E G0 H0 ([(x, .oi true C fs)] ++ O) G H) (hk : k (ins C fs) O) (z : Post E G0 H0 G k Q) : Q (.ref x) H := by
  obtain ⟨dx, vs, e1, e2⟩ := own_at (pre := []) f
  obtain ⟨f6, s6⟩ := Fr.freeze0 (pre := []) f h0 e1
  exact z _ _ _ _ _ hk f6 s6 ⟨x, dx, vs, rfl, upd_same, e2.m s6⟩
theorem oi1 {d C : Addr} {fs : List (Str × As)} : ∀ x ∈ [(d, OC.oi true C fs)], x.2.par = true := fun x hx => by rw [List.mem_singleton.mp hx]; rfl
/-- C(..) -/
theorem Go.make {α : Type} {C : Addr} {pre : α → Prop} {as : α → List As} {fs : α → List (Str × As)} {X : XK} (h : GoA L O t fun l O1 => ∃ a, l = as a ∧ pre a ∧ k (ins C (fs a)) O1) : Go L O (tMake C (SpI C pre as fs) [] X t) k := fun E G0 H0 σ G H Q f s z =>
  h _ _ _ _ _ _ _ f s fun l O1 G1 H1 vs hk f1 s1 b x dx nx ndx ne => by
    obtain ⟨a, rfl, hp, hk⟩ := hk
    have f4 := made_fr (C := C) f1 nx ndx ne
    refine ⟨(x, a), G1, hp, by rw [List.append_nil]; exact .cons rfl b, f4.part oi1, fun A O' G' H' v q g c => ?_⟩
    obtain ⟨rfl, rfl⟩ := q
    exact ⟨c, made_end (f1.hn _ nx) (f4.frame g) hk fun A O G H v q f s => z A O G H v q f ((s1.trans g.gg).trans s)⟩
/-- .. by an __init__ that may raise, and does not -/
theorem Go.makeX {α : Type} {C : Addr} {pre : α → Prop} {as : α → List As} {fs : α → List (Str × As)} {ok : α → Prop} {rp : α → Value → List (Str × As) → OO → Prop} {X : XK} (h : GoA L O t fun l O1 => ∃ a, l = as a ∧ pre a ∧ (∀ cls fs O', ¬ rp a cls fs O') ∧ (ok a → k (ins C (fs a)) O1)) : Go L O (tMake C (SpIX C pre as fs ok rp) [] X t) k := fun E G0 H0 σ G H Q f s z =>
  h _ _ _ _ _ _ _ f s fun l O1 G1 H1 vs hk f1 s1 b x dx nx ndx ne => by
    obtain ⟨a, rfl, hp, hn, hk⟩ := hk
    have f4 := made_fr (C := C) f1 nx ndx ne
    refine ⟨(x, a), G1, hp, by rw [List.append_nil]; exact .cons rfl b, f4.part oi1, fun A O' G' H' v q g c => ?_, fun cls fs O' G' H' dx ds q => absurd q (hn _ _ _)⟩
    obtain ⟨ho, rfl, rfl⟩ := q
    exact ⟨c, made_end (f1.hn _ nx) (f4.frame g) (hk ho) fun A O G H v q f s => z A O G H v q f ((s1.trans g.gg).trans s)⟩
/-- C(.., k = ..) by an __init__ that may raise, and does not -/
theorem Go.makeKX {α : Type} {C : Addr} {n m : Nat} {gV : List V → List V → List V} {pre : α → Prop} {as : α → List As} {fs : α → List (Str × As)} {ok : α → Prop} {rp : α → Value → List (Str × As) → OO → Prop} {X : XK} (gA : List As → List As → List As)
    (hg : ∀ (G : Hp) (p : V) (P : As) (l ms : List As) (vs zs : List V), P.p G p → All2 G l vs → All2 G ms zs → All2 G (P :: gA l ms) (gV (p :: vs) zs))
    (h : GoA L O t fun l O1 => GoA L O1 tk fun ms O2 => l.length = n ∧ ms.length = m ∧ ∃ a, gA l ms = as a ∧ pre a ∧ (∀ cls fs O', ¬ rp a cls fs O') ∧ (ok a → k (ins C (fs a)) O2)) : Go L O (tMakeK C n m (SpIX C pre as fs ok rp) gV X t tk) k := fun E G0 H0 σ G H Q f s z =>
  h _ _ _ _ _ _ _ f s fun l O1 G1 H1 vs hk f1 s1 b => hk _ _ _ _ _ _ _ f1 (s.m s1) fun ms O2 G2 H2 zs hk f2 s2 c => by
    obtain ⟨l1, l2, a, ha, hp, hn, hk⟩ := hk
    refine ⟨by rw [b.len, l1], by rw [c.len, l2], fun x dx nx ndx ne => ?_⟩
    have f4 := made_fr (C := C) f2 nx ndx ne
    refine ⟨(x, a), G2, hp, ?_, f4.part oi1, fun A O' G' H' v q g c => ?_, fun cls fs O' G' H' dx ds q => absurd q (hn _ _ _)⟩
    · have e := hg G2 (.ref x) (pt x) l ms vs zs rfl (b.m s2) c
      rw [ha] at e
      exact e
    obtain ⟨ho, rfl, rfl⟩ := q
    exact ⟨c, made_end (f2.hn _ nx) (f4.frame g) (hk ho) fun A O G H v q f s => z A O G H v q f (((s1.trans s2).trans g.gg).trans s)⟩
end
section
variable {X : Cx} {K : PySem.W.Frag} {o e value : Expr} {f : Str} {pos pos' : Pos} {ta tv : TE}
theorem kFld (hK : X.K = K) (he : PE X e ta) (hb : attributeBase e f X.env (eval e X.env) = eval e X.env) : PE X (.Attribute e f pos) (tFld K ta f) := by
  subst hK
  exact pe_fld he hb
theorem kSFld (hK : X.K = K) (ha : PE X o ta) (hv : PE X value tv) (hs : swapsWith value (some (.Attribute o f pos')) pos.line X.env = pure false) : PS X (.Assign [.Attribute o f pos'] value pos) (sFld K ta tv f) := by
  subst hK
  exact ps_fld ha hv hs
end
/-! isinstance of own classes -/
/-- what the text tells of a class of its own -/
structure OwnC (K : PySem.W.Frag) (mg : Str → Option Value) (nm : Str) (C : Addr) : Prop where
  g : mg nm = some (.ref C)
  c : Cls K C
  ha : PySem.W.findIn K (.ref C) "__class__" = some (some (.builtin "object.__class__"))
  hn : PySem.W.specialIn K (.builtin "object.__class__") "__get__" = some (some (.builtin "getset_descriptor.__get__"))
  tk : PySem.W.takesIn K (.builtin "object.__class__") = some true
  mo : PySem.W.mroIn K C (.type "object") = some true
  cl : PySem.W.isClsIn K C = true
  ty : PySem.W.typeIn K (.ref C) = some (.type "type")
  sN : PySem.W.subIn K (.type "NoneType") (.ref C) = some false
  sb : PySem.W.subIn K (.type "bool") (.ref C) = some false
  si : PySem.W.subIn K (.type "int") (.ref C) = some false
  ss : PySem.W.subIn K (.type "str") (.ref C) = some false
  sl : PySem.W.subIn K (.type "list") (.ref C) = some false
  st : PySem.W.subIn K (.type "tuple") (.ref C) = some false
  sd : PySem.W.subIn K (.type "dict") (.ref C) = some false
section
variable {K : PySem.W.Frag} {mg : Str → Option Value} {nm nm2 : Str} {C D : Addr} {O : OO} {k : As → OO → Prop}
theorem OwnC.kit (o : OwnC K mg nm C) {t : Value} (h : PySem.W.subIn K t (.ref C) = some false) (hne : (t == .ref C) = false) : PySem.W.kitOne K t (.ref C) = some false := by
  have h1 : (PySem.W.clsIn K C).isSome = true := o.cl
  unfold PySem.W.kitOne PySem.W.kitCls
  rw [hne, if_neg Bool.false_ne_true]
  show (if ((PySem.W.clsIn K C).isSome && PySem.W.typeIn K (.ref C) == some (.type "type")) = true then PySem.W.subIn K t (.ref C) else none) = some false
  rw [if_pos (by rw [h1, o.ty]; rfl)]
  exact h
theorem OwnC.kitS (o : OwnC K mg nm C) : PySem.W.kitOne K (.ref C) (.ref C) = some true := by
  unfold PySem.W.kitOne
  rw [if_pos (by simp)]
theorem OwnC.tyx (o : OwnC K mg nm C) {A : As} (h : InsC A O C) : TyXA K A O (.ref C) := fun E G0 H0 G H x f a => by
  obtain ⟨p, dx, vs, rfl, e⟩ := h _ _ _ _ _ _ f a
  exact .base (.ins e o.c o.ha o.hn o.tk o.mo)
/-- what its type is, if it is none of the program's -/
class PlainA (K : PySem.W.Frag) (A : As) (T : outParam String) : Prop where
  ty : ∀ O, TyXA K A O (.type T)
instance {i : Int} : PlainA K (it i) "int" := ⟨fun _ => tx_i⟩
instance {i : Bool} : PlainA K (bo i) "bool" := ⟨fun _ => tx_b⟩
instance {l : List Nat} : PlainA K (tx l) "str" := ⟨fun _ => tx_s⟩
instance : PlainA K no "NoneType" := ⟨fun _ => tx_n⟩
instance {xs : List As} : PlainA K (lst K xs) "list" := ⟨fun _ => tx_l⟩
instance {xs : List As} : PlainA K (tup K xs) "tuple" := ⟨fun _ => tx_t⟩
instance {kvs : List (Key × As)} : PlainA K (dct kvs) "dict" := ⟨fun _ => tx_d⟩
theorem v_isOwn (o : OwnC K mg nm C) {A : As} (h : InsC A O C) (q : k (bo true) O) : Vn O (rIsi K) [A, cst (.ref C)] k := fun E G0 H0 G H Q vs f a zz => by
  cases a with
  | cons a r => cases r with
    | cons b r =>
      cases r
      obtain rfl := (show _ = V.ref C from b)
      exact ⟨_, _, _, _, _, rfl, .own C, o.tyx h _ _ _ _ _ _ f a, o.kitS, zz _ _ _ _ _ q f (Same.refl _) rfl⟩
theorem v_isNot (o : OwnC K mg nm C) {A : As} {t : Value} (h : TyXA K A O t) (hs : PySem.W.subIn K t (.ref C) = some false) (hne : (t == .ref C) = false) (q : k (bo false) O) : Vn O (rIsi K) [A, cst (.ref C)] k := fun E G0 H0 G H Q vs f a zz => by
  cases a with
  | cons a r => cases r with
    | cons b r =>
      cases r
      obtain rfl := (show _ = V.ref C from b)
      exact ⟨_, _, _, _, _, rfl, .own C, h _ _ _ _ _ _ f a, o.kit hs hne, zz _ _ _ _ _ q f (Same.refl _) rfl⟩
theorem OwnC.sub (o : OwnC K mg nm C) {T : String} (h : T ∈ ["NoneType", "bool", "int", "str", "list", "tuple", "dict"]) : PySem.W.subIn K (.type T) (.ref C) = some false := by
  simp only [List.mem_cons, List.mem_nil_iff, or_false] at h
  rcases h with rfl | rfl | rfl | rfl | rfl | rfl | rfl
  · exact o.sN
  · exact o.sb
  · exact o.si
  · exact o.ss
  · exact o.sl
  · exact o.st
  · exact o.sd
end
/-! == by an own __eq__ -/
end Sy
namespace Sy
open PySem PySem.Spec PyProof.Rows L2
theorem kwsCons {K : PySem.W.Frag} {D : Addr} {q : Str × V} {l : List (Str × V)} (h : ∃ u, PySem.W.nsIn K D q.1 = some (some u) ∧ RelV q.2 u) (t : ∀ q ∈ l, ∃ u, PySem.W.nsIn K D q.1 = some (some u) ∧ RelV q.2 u) : ∀ p ∈ q :: l, ∃ u, PySem.W.nsIn K D p.1 = some (some u) ∧ RelV p.2 u := fun p hp => by
  rcases List.mem_cons.mp hp with rfl | hp
  · exact h
  · exact t p hp
/-- the class of a value -/
class HasC (A : As) (C : outParam Addr) : Prop where
  ok : ∀ O, InsC A O C
class HasF (A : As) (C : Addr) (f : Str) (B : outParam As) : Prop where
  ok : ∀ O, InsF A O C f B
section
variable {K : PySem.W.Frag} {mg : Str → Option Value} {nm : Str} {C D : Addr} {O : OO} {k : As → OO → Prop}
instance {A : As} [h : HasC A C] : Stp (InsC A O C) True := ⟨fun _ => h.ok O⟩
instance {A B : As} {f : Str} {P : As → Prop} [h : HasF A C f B] : Stp (∃ B', InsF A O C f B' ∧ P B') (P B) := ⟨fun q => ⟨B, h.ok O, q⟩⟩
instance {p : Bool} {fs : List (Str × As)} {pre post : OO} [h : OwnAt O D pre (.oi p C fs) post] : Stp (InsC (pt D) O C) True := ⟨fun _ => by have e := h.eq; subst e; exact InsC.own⟩
instance {p : Bool} {fs : List (Str × As)} {pre post : OO} {f : Str} {P : As → Prop} [h : OwnAt O D pre (.oi p C fs) post] : Stp (∃ B', InsF (pt D) O C f B' ∧ P B') (∃ B', fs.lookup f = some B' ∧ P B') := ⟨fun ⟨B, e, q⟩ => ⟨B, by have e' := h.eq; subst e'; exact InsF.own e, q⟩⟩
instance {p : Bool} {fs : List (Str × As)} {pre post : OO} {P : Addr → Bool → List (Str × As) → OO → OO → Prop} [h : OwnAt O D pre (.oi p C fs) post] : Stp (∃ (D' : Addr) (p' : Bool) (fs' : List (Str × As)) (pre' post' : OO), pt D = pt D' ∧ O = pre' ++ (D', .oi p' C fs') :: post' ∧ P D' p' fs' pre' post') (P D p fs pre post) := ⟨fun q => ⟨D, p, fs, pre, post, rfl, h.eq, q⟩⟩
end
end Sy
/-! ### dict displays, d.get(k), dicts walked under a lock -/
namespace Sy
open PySem PySem.Spec PyProof.Rows L2
open SX (S S_len S_cat S_inj)
def GoP (L : LL) (O : OO) (trs : List (TE × TE)) (k : List (Key × As) → OO → Prop) : Prop :=
  ∀ (E : List Addr) (G0 H0 : Hp) (σ : L2.St) (G H : Hp) (Q : List (V × V) → Hp → Prop), Fr E G0 H0 O G H → Slots G L σ → (∀ l O' G' H' vs, k l O' → Fr E G0 H0 O' G' H' → Same G G' → AllK G' l vs → Q (vs.map fun kv => (kV kv.1, kv.2)) H') → tPairs trs σ H Q
def mergeA (l m : List (Key × As)) : List (Key × As) := m.foldl (fun acc kv => putA acc kv.1 kv.2) l
theorem AllK.merge {G : Hp} : ∀ {m : List (Key × As)} {ws : List (Key × V)} {l : List (Key × As)} {vs : List (Key × V)}, AllK G m ws → AllK G l vs → AllK G (mergeA l m) (mergeK vs ws)
  | _, _, _, _, .nil, h => h
  | (kk, A) :: m, (_, v) :: ws, l, vs, .cons a t, h => by
    have q : AllK G (mergeA (putA l kk A) m) (mergeK (putK vs kk v) ws) := AllK.merge t (h.put kk a)
    exact q
theorem AllK.keyAt {G : Hp} : ∀ {l : List (Key × As)} {vs : List (Key × V)} {i : Nat} {k : Key} {v : V}, AllK G l vs → vs[i]? = some (k, v) → ∃ A, l[i]? = some (k, A) ∧ A.p G v
  | _, _, i, k, v, .nil, e => by simp at e
  | _, _, 0, k, v, .cons h t, e => by simp at e; obtain ⟨rfl, rfl⟩ := e; exact ⟨_, rfl, h⟩
  | _, _, i + 1, k, v, .cons h t, e => by
    obtain ⟨A, h1, h2⟩ := AllK.keyAt (i := i) t (by simpa using e)
    exact ⟨A, by simpa using h1, h2⟩
section
variable {K : PySem.W.Frag} {L : LL} {O : OO} {k : As → OO → Prop} {te ty tv : TE} {trs : List (TE × TE)}
theorem GoP.nil {k : List (Key × As) → OO → Prop} (q : k [] O) : GoP L O [] k := fun E G0 H0 σ G H Q f s z => z _ _ _ _ [] q f (Same.refl _) .nil
theorem GoP.cons {k : List (Key × As) → OO → Prop} (h : Go L O ty fun A O1 => ∃ key, A = cst (kV key) ∧ Go L O1 tv fun B O2 => GoP L O2 trs fun l O3 => k ((key, B) :: l) O3) : GoP L O ((ty, tv) :: trs) k := fun E G0 H0 σ G H Q f s z =>
  h _ _ _ _ _ _ _ f s fun A O1 G1 H1 x hx f1 s1 a => by
    obtain ⟨key, rfl, hx⟩ := hx
    obtain rfl : x = kV key := a
    exact hx _ _ _ _ _ _ _ f1 (s.m s1) fun B O2 G2 H2 y hy f2 s2 b => hy _ _ _ _ _ _ _ f2 (s.m (s1.trans s2)) fun l O3 G3 H3 vs hk f3 s3 c => z _ _ _ _ ((key, y) :: vs) hk f3 ((s1.trans s2).trans s3) (.cons (B.m s3 b) c)
instance {k : List (Key × As) → OO → Prop} : Stp (GoP L O [] k) (k [] O) := ⟨GoP.nil⟩
instance {k : List (Key × As) → OO → Prop} : Stp (GoP L O ((ty, tv) :: trs) k) (Go L O ty fun A O1 => ∃ key, A = cst (kV key) ∧ Go L O1 tv fun B O2 => GoP L O2 trs fun l O3 => k ((key, B) :: l) O3) := ⟨GoP.cons⟩
/-- a dict that can be read -/
def ReadD (A : As) (O : OO) (kvs : List (Key × As)) : Prop := ∀ (E : List Addr) (G0 H0 G H : Hp) (x : V), Fr E G0 H0 O G H → A.p G x → ∃ a vs, x = .ref a ∧ Rd H a (.dK vs) ∧ AllK G kvs vs
theorem ReadD.c {kvs : List (Key × As)} : ReadD (dct kvs) O kvs := fun E G0 H0 G H x f a => by
  obtain ⟨d, vs, h1, h2, h3⟩ := a
  exact ⟨d, vs, h1, .inl (f.gh _ _ h2), h3⟩
theorem ReadD.o {D : Addr} {p : Bool} {kvs : List (Key × As)} {pre post : OO} : ReadD (pt D) (pre ++ (D, .od p kvs) :: post) kvs := fun E G0 H0 G H x f a => by
  obtain ⟨vs, h1, h2⟩ := own_at f
  exact ⟨D, vs, a, .inl h1, h2⟩
theorem ReadD.l {D : Addr} {o : Obj} {vs : List (Key × V)} {p : Bool} {kvs : List (Key × As)} {pre post : OO} : ReadD (pt D) (pre ++ (D, .lk o vs p kvs) :: post) kvs := fun E G0 H0 G H x f a => by
  obtain ⟨h1, h2⟩ := own_at f
  exact ⟨D, vs, a, .inr ⟨o, h1⟩, h2⟩
instance {kvs : List (Key × As)} {P : List (Key × As) → Prop} : Stp (∃ kvs', ReadD (dct kvs) O kvs' ∧ P kvs') (P kvs) := ⟨fun q => ⟨kvs, ReadD.c, q⟩⟩
instance {D : Addr} {p : Bool} {kvs : List (Key × As)} {pre post : OO} {P : List (Key × As) → Prop} [h : OwnAt O D pre (.od p kvs) post] : Stp (∃ kvs', ReadD (pt D) O kvs' ∧ P kvs') (P kvs) := ⟨fun q => ⟨kvs, by have e := h.eq; subst e; exact ReadD.o, q⟩⟩
instance {D : Addr} {o : Obj} {vs : List (Key × V)} {p : Bool} {kvs : List (Key × As)} {pre post : OO} {P : List (Key × As) → Prop} [h : OwnAt O D pre (.lk o vs p kvs) post] : Stp (∃ kvs', ReadD (pt D) O kvs' ∧ P kvs') (P kvs) := ⟨fun q => ⟨kvs, by have e := h.eq; subst e; exact ReadD.l, q⟩⟩
instance {B : As} {key : Key} {P : Key → Prop} [h : KeyA B key] : Stp (∃ key', B = cst (kV key') ∧ P key') (P key) := ⟨fun q => ⟨key, h.eq, q⟩⟩
theorem AllK.get {G : Hp} {kvs : List (Key × As)} {vs : List (Key × V)} (h : AllK G kvs vs) (key : Key) : (∃ A v, getA kvs key = some A ∧ valV vs key = some v ∧ A.p G v) ∨ (getA kvs key = none ∧ valV vs key = none) := by
  cases e : kvs.find? (fun kv => decide (kv.1 = key)) with
  | none => exact .inr ⟨by unfold getA; rw [e]; rfl, (h.val key).2 e⟩
  | some p =>
    obtain ⟨v, hv, a⟩ := (h.val key).1 p.2 (by rw [e]; rfl)
    exact .inl ⟨p.2, v, by unfold getA; rw [e]; rfl, hv, a⟩
end
/-! a dict that is walked stands locked -/
section
variable {K : PySem.W.Frag} {L : LL} {O R : OO} {k : Es} {te : TE} {t tb : TS} {g : TG} {D : Addr} {p : Bool} {kvs : List (Key × As)}
/-- what is walked while the dict at D is locked -/
def IterD (D : Addr) (o : Obj) (vs : List (Key × V)) (J : It) (xs : List As) (G : Hp) : Prop := ∃ (Gp : Hp → Prop) (Y : Nat → Hp → V → Hp → Prop), Walk J xs.length Gp Y ∧ (∀ H, H D = some (.frz o (.dK vs)) → Gp H) ∧
  ∀ i H x H', i < xs.length → Y i H x H' → ∀ Gc, Same G Gc → Same Gc H → ∃ A Gc', xs[i]? = some A ∧ Ext Gc H Gc' H' ∧ A.p Gc' x
def GoD (L : LL) (O : OO) (D : Addr) (o : Obj) (vs : List (Key × V)) (wi : TI) (k : List As → OO → Prop) : Prop :=
  ∀ (E : List Addr) (G0 H0 : Hp) (σ : L2.St) (G H : Hp) (R : It → Hp → Prop), Fr E G0 H0 O G H → Slots G L σ → (∀ xs O' G' H' J, k xs O' → Fr E G0 H0 O' G' H' → Same G G' → IterD D o vs J xs G' → R J H') → wi σ H R
theorem GoD.keys {o : Obj} {vs : List (Key × V)} {k : List As → OO → Prop} (h : Go L O te fun A O1 => A = pt D ∧ ∃ R, O1 = (D, .lk o vs p kvs) :: R ∧ k (kvs.map fun kv => cst (kV kv.1)) O1) : GoD L O D o vs (iKeys te) k := fun E G0 H0 σ G H R f s z =>
  h _ _ _ _ _ _ _ f s fun A O1 G1 H1 v q f1 s1 a => by
    obtain ⟨rfl, R', rfl, q⟩ := q
    obtain ⟨h1, h2⟩ := own_at (pre := []) f1
    refine ⟨D, o, a, .inl ⟨vs, h1, z _ _ _ _ _ q f1 s1 ⟨_, _, by rw [List.length_map, ← h2.len]; exact walk_keys, fun H e => e, fun i H x H' hi y Gc e1 e2 => ?_⟩⟩⟩
    obtain ⟨rfl, kk, v, hv, rfl⟩ := y
    refine ⟨cst (kV kk), Gc, ?_, Ext.refl e2, rfl⟩
    rw [List.getElem?_map]
    obtain ⟨B, hB, _⟩ := h2.keyAt hv
    rw [hB]
    rfl
end
end Sy
/-! ### d[k] = v as a target among others -/
namespace Sy
open PySem PySem.Spec PyProof.Rows L2
section
variable {K : PySem.W.Frag} {L : LL} {O : OO}
theorem GoGh.name {A : As} {i : Nat} {k : LL → OO → Prop} (q : k (setL L i A) O) : GoGh L O A (gName i) k := fun E G0 H0 σ G H Q x f s a z => z _ _ _ _ _ q f (Same.refl _) (s.set a i)
instance {te a b : TE} {u : TGs} {E : Es} {n : Nat} : Stp (GoS L O (tAsg te (gTup K n (gCons (gSub a b rSetD) u))) E) (Go L O te fun A O1 => GoGh L O1 A (gTup K n (gCons (gSub a b rSetD) u)) E.nx) := ⟨GoS.asgH⟩
end
end Sy
/-! ### d.update(e) -/
def rUpdK : V → List V → Hp → VK → Prop := fun x xs H Q => ∃ a b kvs more, x = .ref a ∧ xs = [.ref b] ∧ a ≠ b ∧ H a = some (.dK kvs) ∧ H b = some (.dK more) ∧ kvs.length + more.length ≤ sizeLine ∧ Q .non (upd H a (.dK (mergeK kvs more)))
namespace Sy
open PySem PySem.Spec PyProof.Rows L2
section
variable {K : PySem.W.Frag} {O : OO} {k : As → OO → Prop}
theorem v_updD {pre post : OO} {pb : Bool} {D : Addr} {kvs ms : List (Key × As)} (hl : kvs.length + ms.length ≤ 100000) (q : k no (pre ++ (D, .od pb (mergeA kvs ms)) :: post)) : Vm (pre ++ (D, .od pb kvs) :: post) rUpdK (pt D) [dct ms] k := fun E G0 H0 G H Q x vs f a b zz => by
  obtain rfl : x = .ref D := a
  cases b with
  | cons b r =>
    cases r
    obtain ⟨d, ws, rfl, g1, g2⟩ := b
    obtain ⟨us, h1, h2⟩ := own_at f
    have gn : G D = none := (f.ow (D, .od pb kvs) (by simp)).1
    refine ⟨D, d, us, ws, rfl, rfl, fun e => ?_, h1, f.gh _ _ g1, by rw [h2.len, g2.len]; exact sz hl, ?_⟩
    · subst e
      rw [gn] at g1
      cases g1
    · exact zz _ _ _ _ _ q (f.change (fun z => z) ⟨_, upd_same, AllK.merge g2 h2⟩) (Same.refl _) rfl
theorem ty_od {pre post : OO} {D : Addr} {pb : Bool} {kvs : List (Key × As)} : TyA K "dict" (pt D) (pre ++ (D, .od pb kvs) :: post) := fun E G0 H0 G H x f a => by
  obtain rfl : x = .ref D := a
  obtain ⟨us, h1, _⟩ := own_at f

  exact .inr (.inr (.inl ⟨rfl, .inl ⟨us, h1⟩⟩))
instance {D : Addr} {pre post : OO} {pb : Bool} {kvs ms : List (Key × As)} [h : OwnAt O D pre (.od pb kvs) post] : Stp (Vm O rUpdK (pt D) [dct ms] k) (kvs.length + ms.length ≤ 100000 ∧ k no (pre ++ (D, .od pb (mergeA kvs ms)) :: post)) := ⟨fun q => by have e := h.eq; subst e; exact v_updD q.1 q.2⟩
instance {D : Addr} {pre post : OO} {pb : Bool} {kvs : List (Key × As)} [h : OwnAt O D pre (.od pb kvs) post] : Stp (TyA K "dict" (pt D) O) True := ⟨fun _ => by have e := h.eq; subst e; exact ty_od⟩
end
end Sy
/-! ### list(d.values()) -/
namespace Sy
open PySem PySem.Spec PyProof.Rows L2
section
variable {K : PySem.W.Frag} {L : LL} {O : OO} {k : As → OO → Prop} {te : TE}
/-- a dict that can be read and is not locked -/
def ReadK (A : As) (O : OO) (kvs : List (Key × As)) : Prop := ∀ (E : List Addr) (G0 H0 G H : Hp) (x : V), Fr E G0 H0 O G H → A.p G x → ∃ a vs, x = .ref a ∧ H a = some (.dK vs) ∧ AllK G kvs vs
theorem ReadK.c {kvs : List (Key × As)} : ReadK (dct kvs) O kvs := fun E G0 H0 G H x f a => by
  obtain ⟨d, vs, h1, h2, h3⟩ := a
  exact ⟨d, vs, h1, f.gh _ _ h2, h3⟩
theorem ReadK.o {D : Addr} {p : Bool} {kvs : List (Key × As)} {pre post : OO} : ReadK (pt D) (pre ++ (D, .od p kvs) :: post) kvs := fun E G0 H0 G H x f a => by
  obtain ⟨vs, h1, h2⟩ := own_at f
  exact ⟨D, vs, a, h1, h2⟩
instance {kvs : List (Key × As)} {P : List (Key × As) → Prop} : Stp (∃ kvs', ReadK (dct kvs) O kvs' ∧ P kvs') (P kvs) := ⟨fun q => ⟨kvs, ReadK.c, q⟩⟩
instance {D : Addr} {p : Bool} {kvs : List (Key × As)} {pre post : OO} {P : List (Key × As) → Prop} [h : OwnAt O D pre (.od p kvs) post] : Stp (∃ kvs', ReadK (pt D) O kvs' ∧ P kvs') (P kvs) := ⟨fun q => ⟨kvs, by have e := h.eq; subst e; exact ReadK.o, q⟩⟩
end
end Sy
/-! ### == of dicts; list(d); dict(d) that is kept; tuple(d.values()) -/
/-! tuple(d.values()) -/
namespace Sy
open PySem PySem.Spec PyProof.Rows L2
end Sy
/-! ### base classes in except clauses; isinstance of what is caught; making that may raise -/
namespace ExS
open PySem PySem.Spec PyProof.Rows L2 PySem.W
/-- a class of errors that is named in an except clause alone -/
structure ExcB (K : Frag) (mg : Str → Option Value) (nm : Str) (C : Addr) : Prop where
  g : mg nm = some (.ref C)
  exC : subIn K (.ref C) (.type "BaseException") = some true
  cls : isClsIn K C = true
  ty : typeIn K (.ref C) = some (.type "type")
theorem ExcB.exm {K : Frag} {mg : Str → Option Value} {nm : Str} {C : Addr} (T : ExcB K mg nm C) {D : Value} {b : Bool} (h : subIn K D (.ref C) = some b) : exmOne K D (.ref C) = some b := exm_pair T.exC T.cls T.ty h
end ExS
namespace Sy
open PySem PySem.Spec PyProof.Rows L2
end Sy
/-! ### comprehensions whose elements draw: told by a relation -/
namespace Sy
open PySem PySem.Spec PyProof.Rows L2
inductive Rel2 {α β : Type} (P : α → β → Prop) : List α → List β → Prop
  | nil : Rel2 P [] []
  | cons {x : α} {y : β} {l : List α} {m : List β} : P x y → Rel2 P l m → Rel2 P (x :: l) (y :: m)
theorem Rel2.snoc {α β : Type} {P : α → β → Prop} {x : α} {y : β} (h : P x y) : ∀ {l : List α} {m : List β}, Rel2 P l m → Rel2 P (l ++ [x]) (m ++ [y])
  | _, _, .nil => .cons h .nil
  | _, _, .cons a t => .cons a (Rel2.snoc h t)
theorem Rel2.len {α β : Type} {P : α → β → Prop} : ∀ {l : List α} {m : List β}, Rel2 P l m → m.length = l.length
  | _, _, .nil => rfl
  | _, _, .cons _ t => congrArg (· + 1) (Rel2.len t)
theorem Rel2.right {α β : Type} {P : α → β → Prop} : ∀ {l : List α} {m : List β}, Rel2 P l m → ∀ y ∈ m, ∃ x ∈ l, P x y
  | _, _, .nil, y, h => by cases h
  | _, _, .cons (x := x) a t, y, h => by
    rcases List.mem_cons.mp h with rfl | h
    · exact ⟨x, List.mem_cons_self, a⟩
    · obtain ⟨z, h1, h2⟩ := Rel2.right t y h
      exact ⟨z, List.mem_cons_of_mem _ h1, h2⟩
theorem Rel2.map {α β γ : Type} {P : α → β → Prop} {f : α → γ} {g : β → γ} (e : ∀ x y, P x y → g y = f x) : ∀ {l : List α} {m : List β}, Rel2 P l m → m.map g = l.map f
  | _, _, .nil => rfl
  | _, _, .cons a t => by rw [List.map_cons, List.map_cons, e _ _ a, Rel2.map e t]
section
variable {K : PySem.W.Frag} {L : LL} {O : OO} {k : As → OO → Prop}
theorem Go.lcW {α β : Type} {wi : TI} {g : TG} {te : TE} {vs : List Nat} (hg : HG g vs) (f : α → As) (B : β → As) (P : α → β → Prop) (c : Nat) (h : GoI L O wi fun xs O1 => ∃ (l : List α) (d : Addr) (n : Nat) (R : OO), O1 = (d, OC.dr n) :: R ∧ xs = l.map f ∧ l.length < 100000 ∧
      (∀ x ∈ l, ∀ m T, m ≤ n + c * l.length → GoG (wipeL L vs) (f x) g fun L2 => Go L2 ((d, .dr m) :: (R ++ T)) te fun B' O3 => ∃ y m', B' = B y ∧ P x y ∧ m' ≤ m + c ∧ O3 = (d, .dr m') :: (R ++ T)) ∧
      ∀ (ys : List β) (m : Nat), Rel2 P l ys → m ≤ n + c * l.length → k (Sy.lst K (ys.map B)) ((d, .dr m) :: R)) :
    Go L O (tLc wi g tYes te vs) k := Go.lc (K := K) hg fun E G0 H0 σ G H Q f s z => h _ _ _ _ _ _ _ f s fun xs O1 G1 H1 J e => z _ _ _ _ _ (by
    obtain ⟨l, d, n, R, rfl, rfl, hl, he, hq⟩ := e
    refine ⟨fun i acc O' => ∃ ys m, acc = ys.map B ∧ Rel2 P (l.take i) ys ∧ m ≤ n + c * i ∧ O' = (d, .dr m) :: R, ⟨[], n, rfl, .nil, by omega, rfl⟩, ?_, ?_⟩
    · rintro i A acc O' T hA ⟨ys, m, rfl, hw, hm, rfl⟩
      rw [List.getElem?_map] at hA
      cases hx : l[i]? with
      | none => rw [hx] at hA; cases hA
      | some x =>
        rw [hx] at hA
        obtain rfl := Option.some.inj hA
        have hi := (List.getElem?_eq_some_iff.mp hx).1
        have hyl := hw.len
        rw [List.length_take] at hyl
        refine (he x (List.mem_of_getElem? hx) m T (Nat.le_trans hm (Nat.add_le_add_left (Nat.mul_le_mul_left c (by omega)) n))).imp fun L2 h2 => GoT.yes ?_
        rw [if_pos rfl]
        refine h2.imp fun B' O3 q => ?_
        obtain ⟨y, m', rfl, hp, hm', rfl⟩ := q
        refine ⟨(d, .dr m') :: R, rfl, by rw [List.length_map]; omega, ys ++ [y], m', by rw [List.map_append]; rfl, ?_, by rw [Nat.mul_succ]; omega, rfl⟩
        rw [List.take_add_one, hx]
        exact hw.snoc hp
    · rintro acc O' ⟨ys, m, rfl, hw, hm, rfl⟩
      rw [List.length_map] at hw hm
      rw [List.take_length] at hw
      exact hq ys m hw hm)
end
end Sy
/-! ### the second draw source: {'mixed': int, 'great': a list of ints, 'turn': int} -/
namespace Sy
open PySem PySem.Spec PyProof.Rows L2
open SX (S S_len S_cat S_inj)
section
variable {K : PySem.W.Frag} {L : LL} {O : OO} {k : As → OO → Prop}
/-! lists of the caller -/
/-! draws -/
abbrev dgO (D g : Addr) (n : Nat) : OO := [(D, .dg g n), (g, .dl)]
theorem dg2 {D g : Addr} {n : Nat} : ∀ x ∈ dgO D g n, x.2.par = true := fun x hx => by
  rcases List.mem_cons.mp hx with rfl | hx
  · rfl
  · rw [List.mem_singleton.mp hx]; rfl
/-- the promise of _law_next -/
abbrev SpNext : Sp := SpG (fun a : Addr × Addr × Nat × Int => 0 < a.2.2.2 ∧ a.2.2.2 < 1000000000 ∧ a.2.2.1 ≤ 100000000) (fun a => [pt a.1, it a.2.2.2]) (fun a => dgO a.1 a.2.1 a.2.2.1) (fun a A O' => ∃ i : Int, 0 ≤ i ∧ i < a.2.2.2 ∧ A = it i ∧ O' = dgO a.1 a.2.1 (a.2.2.1 + 1))
theorem Go.next {X : XK} {t : TA} (h : GoA L O t fun l O1 => ∃ D g n m R, l = [pt D, it m] ∧ O1 = dgO D g n ++ R ∧ (0 < m ∧ m < 1000000000 ∧ n ≤ 100000000) ∧ ∀ i : Int, 0 ≤ i → i < m → k (it i) (dgO D g (n + 1) ++ R)) : Go L O (tCall SpNext [] X t) k := Go.call (fun a => dg2) fun E G0 H0 σ G H Q f s z => h _ _ _ _ _ _ _ f s fun l O' G' H' vs q => z _ _ _ _ _ (by
  obtain ⟨D, g, n, m, R, rfl, rfl, h1, h2⟩ := q
  refine ⟨(D, g, n, m), R, rfl, rfl, h1, ?_⟩
  rintro A O2 ⟨i, i0, i1, rfl, rfl⟩
  exact h2 i i0 i1)
end
end Sy
/-! more rules: raising with less owned, max, tuple[::-1], text.replace in a def with parameters -/
namespace Sy
open PySem PySem.Spec PyProof.Rows L2
open SX (S S_len S_cat S_inj)
section
variable {K : PySem.W.Frag} {L : LL} {O : OO} {W : WX} {x : XP} {t : TS} {k : Es} {te : TE} {ka : As → OO → Prop}
theorem GoSW.leX (h : GoSW W (fun cls fs L O => ∃ O2, FrLe O O2 ∧ x cls fs L O2) L O t k) : GoSW W x L O t k := fun E G0 H0 σ G H D f s e c => h _ _ _ _ _ _ _ f s e fun cls fs L O σ G' H' dx vs q f' z s' => by
  obtain ⟨O2, le, q⟩ := q
  exact c _ _ _ _ _ _ _ _ _ q (le _ _ _ _ _ f') z s'
theorem GoSW.post (h : GoSW W x L O t { k with nx := fun L' O' => ∃ O2, FrLe O' O2 ∧ k.nx L' O2 }) : GoSW W x L O t k := fun E G0 H0 σ G H D f s e c => h _ _ _ _ _ _ _ f s ⟨fun L O σ G H q f z s => by
  obtain ⟨O2, le, q⟩ := q
  exact e.nx _ _ _ _ _ q (le _ _ _ _ _ f) z s, e.rt, e.bk, e.ct⟩ c
theorem GoSW.setD {k : Es} (i : Nat) (h : ∀ D, k.nx (setL L i (pt D)) (O ++ [(D, .od false [])])) : GoSW W x L O (tAsg tDNewK (gName i)) k := .up (GoS.setD i h)
/-- max of a list of numbers -/
theorem v_maxN {ns : List Int} (hn : ns ≠ []) (q : ∀ m, m ∈ ns → (∀ y ∈ ns, y ≤ m) → ka (it m) O) : Vn O (rMax K) [lst K (ns.map it)] ka := fun E G0 H0 G H Q vs f a zz => by
  cases a with
  | cons a r =>
    cases r
    obtain ⟨p, us, rfl, h1, h2⟩ := a
    refine ⟨p, ns, rfl, SqL.of (f.gh _ _ ?_), List.length_pos_iff.mpr hn, fun m h3 h4 => zz _ _ _ _ _ (q m h3 h4) f (Same.refl _) rfl⟩
    rw [show ns.map V.int = us from (All2.map (f := V.int).mp h2).symm]
    exact h1
/-- max(xs, default=d) -/
theorem Go.maxD {ta tk : TA} (h : GoA L O ta fun l O1 => ∃ ns, l = [Sy.lst K (ns.map Sy.it)] ∧ GoA L O1 tk fun l2 O2 => ∃ d, l2 = [Sy.it d] ∧ ∀ m, (ns = [] ∧ m = d ∨ m ∈ ns ∧ ∀ y ∈ ns, y ≤ m) → ka (Sy.it m) O2) : Go L O (tCKw (MD.rMd K) ta tk) ka := fun E G0 H0 σ G H Q f s z =>
  h _ _ _ _ _ _ _ f s fun l O1 G1 H1 vs hx f1 s1 a => by
    obtain ⟨ns, rfl, h2⟩ := hx
    refine h2 _ _ _ _ _ _ _ f1 (s.m s1) fun l2 O2 G2 H2 ws hy f2 s2 b => ?_
    obtain ⟨d, rfl, q⟩ := hy
    have a2 := All2.m s2 a
    cases a2 with
    | cons c r =>
      cases r
      cases b with
      | cons b r2 =>
        cases r2
        obtain ⟨p, us, e1, h1, h3⟩ := c
        have e2 := (show _ = V.int d from b)
        rw [e1, e2]
        refine ⟨p, ns, d, rfl, rfl, SqL.of (f2.gh _ _ ?_), fun m hm => z _ _ _ _ _ (q m hm) f2 (s1.trans s2) rfl⟩
        rw [show ns.map V.int = us from (All2.map (f := V.int).mp h3).symm]
        exact h1
end
end Sy
/-! ### caught exceptions as values: what is caught stays known in the heap; several except clauses -/
namespace ExS
open PySem PySem.Spec PyProof.Rows L2 PySem.W
/-- the object at a is an exception of the class cls with the dict d -/
def ExcO (a : Addr) (cls : Value) (d : Option Addr) : HO := .ext fun h => ∃ (oe : Obj) (vs : Array Value), h.get? a = some oe ∧ Zc cls d oe ∧ oe.data = .fields vs
section
variable {X : Cx} {pins : List (Addr × Obj)} {σ : L2.St} {H : Hp} {s sI : Shared} {a : Addr} {oe : Obj} {vs : Array Value} {cls : Value} {d : Option Addr}
/-- the caught one is told to the heap -/
theorem inv_tell (hex : X.ex = []) (J0 : Inv X pins σ H sI) (fresh : sI.heap.get? a = none) (J : Inv X pins σ H s) (ha : s.heap.get? a = some oe) (hz : Zc cls d oe) (hd : oe.data = .fields vs) (na : H a = none) (nL : a ≠ X.env.locals) : Inv X pins σ (upd H a (ExcO a cls d)) s := by
  have ne : ∀ {b : Addr} {u : HO}, H b = some u → b ≠ a := fun e z => by rw [z, na] at e; cases e
  have keep : ∀ {b : Addr} {u : HO}, H b = some u → upd H a (ExcO a cls d) b = some u := fun e => by rw [upd_ne (ne e)]; exact e
  refine ⟨J.ok, J.os, J.bare, ⟨J.base.keep, J.base.slot, fun b o e n hb => ?_, J.base.there, fun b xs e => keep (J.base.tups b xs e), fun b o u e => keep (J.base.frzs b o u e), fun b ps e => ?_⟩, J.loc, J.cell, ?_, fun x c e => ?_, fun p hp => ?_, fun b u e => ?_, J.len⟩
  · have nb : b ≠ a := fun z => by
      obtain ⟨o', e'⟩ := J0.base.there b o e hb
      rw [z, fresh] at e'
      cases e'
    rw [upd_ne nb]
    exact J.base.free b o e n hb
  · obtain ⟨more, q⟩ := J.base.tbls b ps e
    exact ⟨more, keep q⟩
  · rw [upd_ne (Ne.symm nL)]
    exact J.free
  · have nc : c ≠ a := fun z => by
      obtain ⟨v, o, ho, hc⟩ := J.cell x c e
      rw [z, ha] at ho
      cases ho
      rw [hd] at hc
      cases hc
    rw [upd_ne nc]
    exact J.freeC x c e
  · obtain ⟨q1, q2, q3, q4, q5⟩ := J.pin p hp
    have np : p.1 ≠ a := fun z => by
      have e' := (J0.pin p hp).1
      rw [z, fresh] at e'
      cases e'
    exact ⟨q1, by rw [upd_ne np]; exact q2, q3, q4, q5⟩
  · by_cases hb : b = a
    · subst hb
      rw [upd_same] at e
      cases e
      exact ⟨⟨oe, vs, ha, hz, hd⟩, ⟨oe, ha⟩, fun h1 h2 ⟨o1, v1, e1, e2, e3⟩ st => ⟨o1, v1, st _ e1, e2, e3⟩⟩
    · rw [upd_ne hb] at e
      exact (J.hok b u e).stay (fun _ _ _ q => q) (fun c q => keep q) fun c xs q => keep q
/-- into a suite without a new pin -/
theorem inv_suite0 (I : Inv X pins σ H s) : Inv (X.suite a (X.pn ++ pins)) [] σ H s :=
  ⟨I.ok.suite _ _, I.os, I.bare, I.base, I.loc, I.cell, I.free, I.freeC, fun p hp => I.pin p (by rw [List.append_nil] at hp; exact hp), I.hok, I.len⟩
theorem inv_unsuite0 {pn' : List (Addr × Obj)} (I : Inv (X.suite a (X.pn ++ pins)) pn' σ H s) (ok : X.Ok) : Inv X pins σ H s :=
  ⟨ok, I.os, I.bare, I.base, I.loc, I.cell, I.free, I.freeC, fun p hp => I.pin p (List.mem_append_left _ hp), I.hok, I.len⟩
end
/-- whether one of the classes matches -/
def exmW (K : Frag) (cls : Value) : List Value → Option Bool
  | [c] => exmOne K cls c
  | cs => exmAny K cls cs
/-- the clauses: classes, slot of the name, suite -/
abbrev Cls := List (List Value × Option Nat × TS)
def setO : Option Nat → Option V → L2.St → L2.St
  | none, _, σ => σ
  | some i, v, σ => σ.set i v
/-- what the clauses wish of an exception of the body -/
def wV (K : Frag) (Wout : WX) (D : Ends) : Cls → WX
  | [] => Wout
  | (c, i, ts) :: r => fun cls d σ H => ∃ b, exmW K cls c = some b ∧
      (b = true → ∀ a, H a = none → ts { nx := fun σ' H' => D.nx (setO i none σ') H', rt := D.rt, bk := fun σ' H' => D.bk (setO i none σ') H', ct := fun σ' H' => D.ct (setO i none σ') H' } (setO i (some (.ref a)) σ) (upd H a (ExcO a cls d))) ∧
      (b = false → wV K Wout D r cls d σ H)
inductive HdV (X : Cx) : List ExceptHandler → Cls → Prop
  | nil : HdV X [] []
  | cons {x n : Str} {i : Nat} {c : Value} {ts : TS} {b₀ : Stmt} {suite : List Stmt} {np pos' : Pos} {hds : List ExceptHandler} {l : Cls} (hc : Names X x c) (hi : X.N[i]? = some n) (hln : X.env.kindOf n = some .local)
      (hsu : ∀ (a : Addr) (pn : List (Addr × Obj)), PSs (X.suite a pn) (b₀ :: suite) ts) (r : HdV X hds l) :
      HdV X (.ExceptHandler (some (.Name x np)) (some n) (b₀ :: suite) pos' :: hds) (([c], some i, ts) :: l)
  | bare {x : Str} {c : Value} {ts : TS} {b₀ : Stmt} {suite : List Stmt} {np pos' : Pos} {hds : List ExceptHandler} {l : Cls} (hc : Names X x c)
      (hsu : ∀ (a : Addr) (pn : List (Addr × Obj)), PSs (X.suite a pn) (b₀ :: suite) ts) (r : HdV X hds l) :
      HdV X (.ExceptHandler (some (.Name x np)) none (b₀ :: suite) pos' :: hds) (([c], none, ts) :: l)
  | two {x y n : Str} {i : Nat} {c1 c2 : Value} {ts : TS} {b₀ : Stmt} {suite : List Stmt} {np1 np2 tp pos' : Pos} {ctx : _} {hds : List ExceptHandler} {l : Cls} (hc : Names X x c1) (hc2 : Names X y c2) (hi : X.N[i]? = some n) (hln : X.env.kindOf n = some .local)
      (hsu : ∀ (a : Addr) (pn : List (Addr × Obj)), PSs (X.suite a pn) (b₀ :: suite) ts) (r : HdV X hds l) :
      HdV X (.ExceptHandler (some (.Tuple [.Name x np1, .Name y np2] ctx tp)) (some n) (b₀ :: suite) pos' :: hds) (([c1, c2], some i, ts) :: l)
theorem flying_ext {B h h' : Heap} {l : List Env} {e : Addr} {Z : Obj → Prop} (f : HandSPX.FlyingZ B l e Z h) (k : ∀ b o, h.get? b = some o → h'.get? b = some o) : HandSPX.FlyingZ B l e Z h' := by
  obtain ⟨f1, f2, f3, oe, vs, T, oT, ts, t1, t2, t3, t4, t5, t6, t7, t8, t9⟩ := f
  exact ⟨fun b o q => k _ _ (f1 b o q), f2, f3.of_keeps fun b o q _ => ⟨o, k _ _ q, rfl⟩, oe, vs, T, oT, ts, k _ _ t1, t2, t3, t4, t5, t6, k _ _ t7, t8, t9⟩
section
variable {X : Cx} {body : List Stmt} {h₀ : ExceptHandler} {hds : List ExceptHandler} {l : Cls} {pos : Pos} {tb : WX → TS} {Wout : WX}
theorem ps_tryV (hex : X.ex = []) (hs : X.stack = X.env :: X.outer) (hf : X.env.frame = some X.env.locals) (hN : X.N.Nodup) (tk : Takes X Wout)
    (hb : ∀ (W : WX) (pn : List (Addr × Obj)) (xe : Value → Shared → Prop), Takes (X.tr pn xe) W → PassesOwn (model X.prog X.w) X.A X.env xe → PSs (X.tr pn xe) body (tb W))
    (hh : HdV X (h₀ :: hds) l) : PS X (.Try body (h₀ :: hds) [] [] pos) (fun D σ H => tb (wV X.K Wout D l) D σ H) := by
  refine ⟨fun pins s σ H D I0 h => ?_⟩
  have okX := I0.ok
  have hfr : X.A.frames = some (X.env :: X.outer) := by rw [okX.frames, hs]
  refine wpAny_Try_except (wpAny_mono ((hb (wV X.K Wout D l) (X.pn ++ pins) (fun e s₁ => wpAny (model X.prog X.w) X.A (noteFrame e X.env) (fun _ s₂ => wpAny (model X.prog X.w) X.A (setFlight e none) (fun _ s₃ => wpAny (model X.prog X.w) X.A (handleBy e X.env (h₀ :: hds)) (SP X pins D) X.xe s₃) X.xe s₂) X.xe s₁) (fun u s' xx => ?_) PassesOwn.looking).run [] s σ H D (I0.toTry _) h) (fun f s1 hsp => ?_) (fun e s1 he => he))
  · obtain ⟨a, B, sI, pins', σ', H', cls, d, rfl, J', nb, up, sky, na, os, ag, w⟩ := xx
    have J0 : Inv X pins σ' H' sI := J'.ofTry okX
    have sk : Sky B (X.env :: X.outer) a (Zc cls d) X.env.locals s'.heap := by rw [← hs]; exact sky
    show wpAny (model X.prog X.w) X.A (noteFrame (.ref a) X.env) _ _ _
    refine Sky.land Zc.steady hfr hf sk fun g fl upg => ?_
    obtain ⟨o3, v3, e3, z3, d3⟩ := fl.there
    have nofr : ∀ {h : Heap} {o : Obj} {vs : Array Value}, h.FunFrames B (X.env :: X.outer) → h.get? a = some o → o.data = .fields vs → a ∉ frs (X.env :: X.outer) := fun {h o vs} ff e dd hm => by
      obtain ⟨_, o', e', q⟩ := ff.mem hm
      rw [e] at e'
      cases e'
      exact q _ dd
    have nfr := nofr fl.2.2.1 e3 d3
    have nL : a ≠ X.env.locals := fun z => nfr (List.mem_filterMap.mpr ⟨X.env, List.mem_cons_self, by rw [hf, z]⟩)
    have nF : a ∉ X.fs := fun hm => by
      obtain ⟨e, he, q⟩ := List.mem_filterMap.mp hm
      exact nfr (List.mem_filterMap.mpr ⟨e, List.mem_cons_of_mem _ he, q⟩)
    have fresh : sI.heap.get? a = none := by
      cases q : sI.heap.get? a with
      | none => rfl
      | some o =>
        have e' := nb a o q (by rw [hs]; exact nfr)
        rw [fl.2.1] at e'
        cases e'
    have go : ∀ {hd2 : List ExceptHandler} {l2 : Cls}, HdV X hd2 l2 → wV X.K Wout D l2 cls d σ' H' → ∀ g : Heap, HandSPX.FlyingZ B (X.env :: X.outer) a (Zc cls d) g → s'.heap.UpToSlots g → wpAny (model X.prog X.w) X.A (handleBy (.ref a) X.env hd2) (SP X pins D) X.xe { s' with heap := g } := by
      clear e3 z3 d3 fl upg
      have test : ∀ {x : Str} {c : Value} {np : Pos} {Q : Value → Shared → Prop} {E : Value → Shared → Prop} {g : Heap}, HandSPX.FlyingZ B (X.env :: X.outer) a (Zc cls d) g → s'.heap.UpToSlots g → Names X x c → Q c { s' with heap := g } → wpAny (model X.prog X.w) (X.A.mark (some (.ref a))) (eval (.Name x np) X.env) Q E { s' with heap := g } := fun {x c np Q E g} fl upg hc q => by
        have J3 : Inv X pins σ' H' { s' with heap := g } := J0.landed nb fl.1 (up.trans upg) os ag
        obtain ⟨o3, v3, e3, z3, d3⟩ := fl.there
        have S3 := J3.suite e3 d3 na nL nF
        obtain ⟨hg, hdb, hm | ⟨hm, hv, hnn⟩⟩ := hc
        · exact ld_glob (X := X.suite a ((a, o3) :: (X.pn ++ pins))) S3 hg hm q hdb
        · exact ld_blt (X := X.suite a ((a, o3) :: (X.pn ++ pins))) S3 hg hm hv q hnn hdb
      intro hd2 l2 hk
      induction hk with
      | nil =>
        intro w g fl upg
        refine wpAny_handleBy_nil ?_
        obtain ⟨k1, k2, k3, oe, vs, T, oT, tsT, he, hz, hd, h1, hr⟩ := id fl
        unfold PySem.passOn
        refine wpAny_bind (wpAny_field he hd h1 ?_)
        rw [if_neg (show ¬ ((Value.ref T == Value.none) = true) by simp)]
        have fin : wpAny (model X.prog X.w) X.A (setFlight (.ref a) X.env.frame) (fun _ s9 => wpAny (model X.prog X.w) X.A (throw (.ref a) : Sem Flow) (SP X pins D) X.xe s9) X.xe { s' with heap := g } := by
          rw [hf]
          exact HandSPX.setFlight_upZ fl fun g9 hh9 up9 => wpAny_throw (tk _ _ ⟨a, B, sI, pins, σ', H', cls, d, rfl, J0, nb, (up.trans upg).trans up9, .inr (.inr (by rw [hs]; exact hh9)), na, os, ag, w⟩)
        first
          | exact wpAny_bind (wpAny_pure (wpAny_bind fin))
          | exact wpAny_bind fin
      | @cons x n i c ts b₀ suite np pos' hd3 l3 hc hi hln hsu r ih =>
        rintro ⟨b, hb1, hyes, hno⟩ g fl upg
        have J3 : Inv X pins σ' H' { s' with heap := g } := J0.landed nb fl.1 (up.trans upg) os ag
        obtain ⟨o3, v3, e3, z3, d3⟩ := fl.there
        have LT : PySem.W.Looks (model X.prog X.w) g (typeOf (.ref a)) cls := fun A Q E s k q => wpAny_typeOf_ref (k _ _ e3) (by rw [z3.1]; exact q)
        refine wpAny_handleBy_cons (codeAny_handlers_test (test fl upg hc ((PySem.W.exm_one (M := model X.prog X.w) J3.kIn LT hb1).here ?_))) (by intro q; cases q)
        cases b with
        | true =>
          refine codeAny_handlers_suite_as (HandSPX.lands_againZ fl fun g4 fl4 up4 => ?_)
          have J4 : Inv X pins σ' H' { s' with heap := g4 } := J0.landed nb fl4.1 ((up.trans upg).trans up4) os ag
          obtain ⟨o4, v4, e4, z4, d4⟩ := fl4.there
          refine store_ok (X := X.suite a (X.pn ++ pins)) (v := .ref a) (inv_suite0 (inv_tell hex J0 fresh J4 e4 z4 d4 na nL)) hN hi (Or.inl hln : Loc X.env.scope n) rfl (fun s5 S5 => ?_) (.inr hln)
          refine wpAny_mono ((hsu a (X.pn ++ pins)).run [] s5 _ _ _ S5 (hyes rfl a na)) (fun f s6 hsp => ?_) (fun _ _ z => False.elim z)
          have fin : ∀ {σ6 : L2.St} {H6 : Hp} {Q : Shared → Prop}, Inv (X.suite a (X.pn ++ pins)) [] σ6 H6 s6 → (∀ s7, Inv X pins (σ6.set i none) H6 s7 → Q s7) → wpAny (model X.prog X.w) X.A (do bindName X.env n .none; unbindBehindTheSuite X.env n pos') (fun _ s7 => Q s7) X.xe s6 := fun {σ6 H6 Q} S6 hq => gone_ok (inv_unsuite0 S6 okX) hN hi hln hq
          cases f with
          | ret u =>
            obtain ⟨v6, σ6, H6, S6, r6, q6⟩ := hsp
            exact fin S6 fun s7 J7 => ⟨_, _, _, J7, r6, q6⟩
          | _ =>
            obtain ⟨σ6, H6, S6, q6⟩ := hsp
            exact fin S6 fun s7 J7 => ⟨_, _, J7, q6⟩
        | false => exact ih (hno rfl) g fl upg
      | @two x y n i c1 c2 ts b₀ suite np1 np2 tp pos' ctx hd3 l3 hc hc2 hi hln hsu r ih =>
        rintro ⟨b, hb1, hyes, hno⟩ g0 fl0 upg0
        have hb1 : PySem.W.exmAny X.K cls [c1, c2] = some b := hb1
        refine wpAny_handleBy_cons (codeAny_handlers_test (wpAny_Tuple_spliced ?_)) (by intro q; cases q)
        refine Calls.spliced_cons (test fl0 upg0 hc (Calls.spliced_cons (test fl0 upg0 hc2 (Calls.spliced_nil ⟨by show 2 ≤ sizeLine; rw [sizeLine_eq]; decide, ?_⟩))))
        have kp : ∀ b o, g0.get? b = some o → (g0.push { cls := .type "tuple", data := .seq [c1, c2].toArray }).get? b = some o := fun b o e => Heap.get?_push_of_some _ e
        have fl := flying_ext fl0 kp
        have upg := upg0.trans (Heap.UpToSlots.of_keeps kp)
        have hp : (g0.push { cls := .type "tuple", data := .seq [c1, c2].toArray }).get? g0.objs.size = some { cls := .type "tuple", data := .seq [c1, c2].toArray } := Heap.get?_push_size _ rfl
        generalize g0.push { cls := .type "tuple", data := .seq [c1, c2].toArray } = g at fl upg hp
        have J3 : Inv X pins σ' H' { s' with heap := g } := J0.landed nb fl.1 (up.trans upg) os ag
        obtain ⟨o3, v3, e3, z3, d3⟩ := fl.there
        have LT : PySem.W.Looks (model X.prog X.w) g (typeOf (.ref a)) cls := fun A Q E s k q => wpAny_typeOf_ref (k _ _ e3) (by rw [z3.1]; exact q)
        refine (PySem.W.exm_tup2 (M := model X.prog X.w) J3.kIn LT hp hb1).here ?_
        cases b with
        | true =>
          refine codeAny_handlers_suite_as (HandSPX.lands_againZ fl fun g4 fl4 up4 => ?_)
          have J4 : Inv X pins σ' H' { s' with heap := g4 } := J0.landed nb fl4.1 ((up.trans upg).trans up4) os ag
          obtain ⟨o4, v4, e4, z4, d4⟩ := fl4.there
          refine store_ok (X := X.suite a (X.pn ++ pins)) (v := .ref a) (inv_suite0 (inv_tell hex J0 fresh J4 e4 z4 d4 na nL)) hN hi (Or.inl hln : Loc X.env.scope n) rfl (fun s5 S5 => ?_) (.inr hln)
          refine wpAny_mono ((hsu a (X.pn ++ pins)).run [] s5 _ _ _ S5 (hyes rfl a na)) (fun f s6 hsp => ?_) (fun _ _ z => False.elim z)
          have fin : ∀ {σ6 : L2.St} {H6 : Hp} {Q : Shared → Prop}, Inv (X.suite a (X.pn ++ pins)) [] σ6 H6 s6 → (∀ s7, Inv X pins (σ6.set i none) H6 s7 → Q s7) → wpAny (model X.prog X.w) X.A (do bindName X.env n .none; unbindBehindTheSuite X.env n pos') (fun _ s7 => Q s7) X.xe s6 := fun {σ6 H6 Q} S6 hq => gone_ok (inv_unsuite0 S6 okX) hN hi hln hq
          cases f with
          | ret u =>
            obtain ⟨v6, σ6, H6, S6, r6, q6⟩ := hsp
            exact fin S6 fun s7 J7 => ⟨_, _, _, J7, r6, q6⟩
          | _ =>
            obtain ⟨σ6, H6, S6, q6⟩ := hsp
            exact fin S6 fun s7 J7 => ⟨_, _, J7, q6⟩
        | false => exact ih (hno rfl) g fl upg
      | @bare x c ts b₀ suite np pos' hd3 l3 hc hsu r ih =>
        rintro ⟨b, hb1, hyes, hno⟩ g fl upg
        have J3 : Inv X pins σ' H' { s' with heap := g } := J0.landed nb fl.1 (up.trans upg) os ag
        obtain ⟨o3, v3, e3, z3, d3⟩ := fl.there
        have LT : PySem.W.Looks (model X.prog X.w) g (typeOf (.ref a)) cls := fun A Q E s k q => wpAny_typeOf_ref (k _ _ e3) (by rw [z3.1]; exact q)
        refine wpAny_handleBy_cons (codeAny_handlers_test (test fl upg hc ((PySem.W.exm_one (M := model X.prog X.w) J3.kIn LT hb1).here ?_))) (by intro q; cases q)
        cases b with
        | true =>
          refine codeAny_handlers_suite (HandSPX.lands_againZ fl fun g4 fl4 up4 => ?_)
          have J4 : Inv X pins σ' H' { s' with heap := g4 } := J0.landed nb fl4.1 ((up.trans upg).trans up4) os ag
          obtain ⟨o4, v4, e4, z4, d4⟩ := fl4.there
          refine wpAny_mono ((hsu a (X.pn ++ pins)).run [] _ _ _ _ (inv_suite0 (inv_tell hex J0 fresh J4 e4 z4 d4 na nL)) (hyes rfl a na)) (fun f s6 hsp => ?_) (fun _ _ z => False.elim z)
          cases f with
          | ret u =>
            obtain ⟨v6, σ6, H6, S6, r6, q6⟩ := hsp
            exact ⟨_, _, _, inv_unsuite0 S6 okX, r6, q6⟩
          | _ =>
            obtain ⟨σ6, H6, S6, q6⟩ := hsp
            exact ⟨_, _, inv_unsuite0 S6 okX, q6⟩
        | false => exact ih (hno rfl) g fl upg
    exact go hh w g fl upg
  · cases f with
    | next =>
      obtain ⟨σ9, H9, J9, q⟩ := hsp
      exact wpAny_execs_nil ⟨σ9, H9, J9.ofTry okX, q⟩
    | ret u =>
      obtain ⟨v, σ9, H9, J9, r, q⟩ := hsp
      exact ⟨v, σ9, H9, J9.ofTry okX, r, q⟩
    | _ =>
      obtain ⟨σ9, H9, J9, q⟩ := hsp
      exact ⟨σ9, H9, J9.ofTry okX, q⟩
end
end ExS
/-! ### .. in the layer: the value, its fields, isinstance, is None; try -/
namespace ExS
open PySem PySem.Spec PyProof.Rows L2 PySem.W
/-- e.n of a caught exception that is kept as a value -/
def tXv (K : Frag) (n : Str) (te : TE) : TE := fun σ H Q => te σ H fun x H1 => ∃ (a C dd : Addr) (fs : List (Str × V)) (v : V), x = .ref a ∧ H1 a = some (ExcO a (.ref C) (some dd)) ∧ XfC K C ∧ findIn K (.ref C) n = some none ∧ H1 dd = some (.xd fs) ∧ fs.lookup n = some v ∧ Q v H1
theorem pe_xv {X : Cx} {K : Frag} {e : Expr} {te : TE} {pos : Pos} {n : Str} (hK : X.K = K) (he : PE X e te) (hb : attributeBase e n X.env (eval e X.env) = eval e X.env := by rfl) : PE X (.Attribute e n pos) (tXv K n te) := by
  subst hK
  refine ⟨fun pins s σ H Q I h => attr_of hb (thn (he.run pins s σ H _ I h) fun u s1 hh => ?_)⟩
  obtain ⟨x, H1, I1, rx, a, C, dd, fs, v, rfl, eE, T, hno, ea, l, q⟩ := hh
  obtain rfl : u = Value.ref a := rx
  obtain ⟨⟨oe, vs, ha, hz, hd⟩, _, _⟩ := I1.hok a _ eE
  obtain ⟨mA, hns, hr⟩ := (I1.hok dd _ ea : ObjOk X.prog X.w H1 s1.heap dd (.xd fs))
  obtain ⟨od, ho, hl⟩ := lookIn_ns hns
  obtain ⟨u, hu, ru⟩ := RelO.some_of (v := v) (o := mA n) (by rw [← l]; exact hr n)
  have J : PySem.W.InstAt s1.heap a oe C (some od) := ⟨ha, hz.1, by unfold PySem.W.notCls; rw [hd] <;> rfl, by rw [hz.2]; exact ho⟩
  exact HandSPX.exc_get I1.kIn J T.ga T.gg T.exC (PySem.W.findObj_own T.hdC hno rfl (by rw [hl, hu])) (handed_of ru) ⟨v, H1, I1.tok _, ru, q⟩
end ExS
namespace Sy
open PySem PySem.Spec PyProof.Rows L2
open SX (S S_len S_cat S_inj)
/-- a caught exception: its class, its fields -/
def exV (cls : Value) (fs : List (Str × As)) : As := ⟨fun G v => ∃ (a dx : Addr) (ds : List (Str × V)), v = .ref a ∧ G a = some (ExS.ExcO a cls (some dx)) ∧ G dx = some (.xd ds) ∧ FsOk G fs ds, fun e h => by
  obtain ⟨a, dx, ds, h0, h1, h2, h3⟩ := h
  exact ⟨a, dx, ds, h0, e _ _ h1, e _ _ h2, h3.m e⟩⟩
section
variable {K : PySem.W.Frag} {L : LL} {O : OO} {k : As → OO → Prop} {te : TE}
theorem Go.xv {C : Addr} {f : Str} {fs : List (Str × As)} {B : As} (T : XfC K C) (hno : PySem.W.findIn K (.ref C) f = some none) (h : Go L O te fun A O1 => A = exV (.ref C) fs ∧ fs.lookup f = some B ∧ k B O1) : Go L O (ExS.tXv K f te) k := fun E G0 H0 σ G H Q fr s z =>
  h _ _ _ _ _ _ _ fr s fun A O1 G1 H1 v q f1 s1 a1 => by
    obtain ⟨rfl, hl, hk⟩ := q
    obtain ⟨a, dx, ds, rfl, h1, h2, h3⟩ := a1
    obtain ⟨y, h4, h5⟩ := h3 _ _ hl
    exact ⟨a, C, dx, ds, y, rfl, f1.gh _ _ h1, T, hno, f1.gh _ _ h2, h4, z _ _ _ _ _ hk f1 s1 h5⟩
theorem v_isNV {c : Value} {fs : List (Str × As)} (q : k (bo false) O) : V2 O (fun x y H Q => y = V.non ∧ Q (V.bl (decide (x = V.non))) H) (exV c fs) (cst .non) k := fun E G0 H0 G H Q x y f a b zz => by
  obtain ⟨p, dx, ds, rfl, h1, h2, h3⟩ := a
  exact ⟨b, zz _ _ _ _ _ q f (Same.refl _) rfl⟩
theorem v_notNV {c : Value} {fs : List (Str × As)} (q : k (bo true) O) : V2 O (fun x y H Q => y = V.non ∧ Q (V.bl (!decide (x = V.non))) H) (exV c fs) (cst .non) k := fun E G0 H0 G H Q x y f a b zz => by
  obtain ⟨p, dx, ds, rfl, h1, h2, h3⟩ := a
  exact ⟨b, zz _ _ _ _ _ q f (Same.refl _) rfl⟩
instance {c : Value} {fs : List (Str × As)} : Stp (V2 O (fun x y H Q => y = V.non ∧ Q (V.bl (decide (x = V.non))) H) (exV c fs) (cst .non) k) (k (bo false) O) := ⟨v_isNV⟩
instance {c : Value} {fs : List (Str × As)} : Stp (V2 O (fun x y H Q => y = V.non ∧ Q (V.bl (!decide (x = V.non))) H) (exV c fs) (cst .non) k) (k (bo true) O) := ⟨v_notNV⟩
end
section
variable {K : PySem.W.Frag} {L : LL} {O : OO} {W : WX} {x : XP} {k : Es} {te : TE} {t u : TS} {tt : TT} {ta : TA}
def setLO : Option Nat → As → LL → LL
  | none, _, L => L
  | some i, A, L => setL L i A
def delLO : Option Nat → LL → LL
  | none, L => L
  | some i, L => delL L i
theorem Slots.setO {G : Hp} {L : LL} {σ : L2.St} {A : As} {v : V} (s : Slots G L σ) (a : A.p G v) : ∀ i : Option Nat, Slots G (setLO i A L) (ExS.setO i (some v) σ)
  | none => s
  | some i => s.set a i
theorem Slots.delO {G : Hp} {L : LL} {σ : L2.St} (s : Slots G L σ) : ∀ i : Option Nat, Slots G (delLO i L) (ExS.setO i none σ)
  | none => s
  | some i => s.del i
/-- the clauses, one after the other -/
def HdG (K : PySem.W.Frag) (k : Es) (x : XP) : ExS.Cls → XP
  | [] => x
  | (c, i, ts) :: r => fun cls fs L O => ∃ b, ExS.exmW K cls c = some b ∧
      (b = true → GoS (setLO i (exV cls fs) L) O ts ⟨fun L2 O2 => k.nx (delLO i L2) O2, k.rt, fun L2 O2 => k.bk (delLO i L2) O2, fun L2 O2 => k.ct (delLO i L2) O2⟩) ∧ (b = false → HdG K k x r cls fs L O)
def tTryV (K : PySem.W.Frag) (l : ExS.Cls) (tb : WX → TS) (Wout : WX) : TS := fun D σ H => tb (ExS.wV K Wout D l) D σ H
theorem ps_tryV {X : Cx} {body : List Stmt} {h₀ : ExceptHandler} {hds : List ExceptHandler} {l : ExS.Cls} {pos : Pos} {tb : WX → TS} {Wout : WX} (hK : X.K = K) (hex : X.ex = []) (hs : X.stack = X.env :: X.outer) (hf : X.env.frame = some X.env.locals) (hN : X.N.Nodup) (tk : Takes X Wout)
    (hb : ∀ (W : WX) (pn : List (Addr × Obj)) (xe : Value → Shared → Prop), Takes (X.tr pn xe) W → PassesOwn (model X.prog X.w) X.A X.env xe → PSs (X.tr pn xe) body (tb W))
    (hh : ExS.HdV X (h₀ :: hds) l) : PS X (.Try body (h₀ :: hds) [] [] pos) (tTryV K l tb Wout) := by
  subst hK
  exact ExS.ps_tryV hex hs hf hN tk hb hh
theorem hdg_ok {E : List Addr} {G0 H0 G : Hp} {D : Ends} (e : EndsOk E G0 H0 G D k) (ac : Acc W x E G0 H0 G) : ∀ l : ExS.Cls, Acc (ExS.wV K W D l) (HdG K k x l) E G0 H0 G
  | [] => ac
  | (c, i, ts) :: r => fun cls fs L1 O1 σ1 G1 H1 dx ds q f1 s1 sl e1 e2 => by
    obtain ⟨b, hb, ht, hf⟩ := q
    refine ⟨b, hb, fun hbt a na => ?_, fun hbf => hdg_ok e ac r _ _ _ _ _ _ _ _ _ (hf hbf) f1 s1 sl e1 e2⟩
    have ex := Ext.new (o := ExS.ExcO a cls (some dx)) f1.gh na
    have e' := e.m (s1.trans ex.g)
    exact ht hbt _ _ _ _ _ _ _ (f1.ext ex) ((sl.m ex.g).setO (A := exV cls fs) ⟨a, dx, ds, rfl, upd_same, ex.g _ _ e1, e2.m ex.g⟩ i)
      ⟨fun L O σ G H q f z s => e'.nx _ _ _ _ _ q f z (s.delO i), e'.rt, fun L O σ G H q f z s => e'.bk _ _ _ _ _ q f z (s.delO i), fun L O σ G H q f z s => e'.ct _ _ _ _ _ q f z (s.delO i)⟩
theorem GoSW.tryV {l : ExS.Cls} {tb : WX → TS} (h : ∀ W', GoSW W' (HdG K k x l) L O (tb W') k) : GoSW W x L O (tTryV K l tb W) k := fun E G0 H0 σ G H D f s e ac => h _ E G0 H0 σ G H D f s e (hdg_ok e ac l)
theorem GoS.tryV {l : ExS.Cls} {tb : WX → TS} (h : ∀ W', GoSW W' (HdG K k (fun _ _ _ _ => False) l) L O (tb W') k) : GoS L O (tTryV K l tb fun _ _ _ _ => False) k := GoS.ofW (GoSW.tryV h)
end
end Sy
/-! ### functions as values: a name that holds a def is called -/
namespace Sy
open PySem PySem.Spec PyProof.Rows L2
end Sy
/-! ### lambdas without parameters, handed to a def: made, called -/
/-! ### lambdas in the layer: the table as an owned object, the deed, the def that calls it -/
namespace Sy
open PySem PySem.Spec PyProof.Rows L2
open SX (S S_len S_cat S_inj)
end Sy
/-! ### the end of a law whose defs make lambdas (tables of code objects), guards known -/
namespace Sy
open PySem PySem.Spec PyProof.Rows L2
end Sy
/-! ### a statement behind which nothing goes on (it raises for what is asked) -/
namespace Sy
open PySem PySem.Spec PyProof.Rows L2
end Sy
/-! ### owned lists read and stored in at any index -/
namespace Sy
open PySem PySem.Spec PyProof.Rows L2
instance (priority := low) OwnAt.atEnd {l : OO} {D : Addr} {c : OC} : OwnAt (l ++ [(D, c)]) D l c [] := ⟨rfl⟩
end Sy
/-! ### lambdas with one parameter that has a written default (a number), called without it -/
/-! ### str(x) of a text, or of data -/
namespace Sy
open PySem PySem.Spec PyProof.Rows L2
open SX (S S_len S_cat S_inj)
end Sy
/-! ### keywords in any order, some lacking -/
theorem vals_dt : ∀ {vs : List V} {us : List Value}, Vals vs us → ∀ i : Nat, Vals ((vs.drop i).take 1) ((us.drop i).take 1)
  | _, _, .nil, i => by rw [List.drop_nil, List.drop_nil]; exact .nil
  | _, _, .cons a t, 0 => .cons a .nil
  | _, _, .cons a t, i + 1 => vals_dt t i
/-! ### methods of own classes: o.m(e, ..) as a call whose first argument is guarded -/
namespace Sy
open PySem PySem.Spec PyProof.Rows L2
/-- an instance of the class at C without a field m -/
def InsN (A : As) (O : OO) (C : Addr) (m : Str) : Prop := ∀ (E : List Addr) (G0 H0 G H : Hp) (x : V), Fr E G0 H0 O G H → A.p G x → ∃ a dx vs, x = .ref a ∧ H a = some (.ins C dx vs) ∧ vs.lookup m = none
theorem InsN.ins {C : Addr} {fs : List (Str × As)} {O : OO} {m : Str} (h : fs.lookup m = none) : InsN (Sy.ins C fs) O C m := fun E G0 H0 G H x fr a => by
  obtain ⟨p, dx, vs, h1, h2, h3⟩ := a
  exact ⟨p, dx, vs, h1, fr.gh _ _ h2, h3.noLook h⟩
end Sy
namespace Sy
open PySem PySem.Spec PyProof.Rows L2
end Sy
/-! ### {t: v} with a tuple as the key; repr of a dict -/
namespace Sy
open PySem PySem.Spec PyProof.Rows L2
open SX (S S_len S_cat S_inj)
section
variable {K : PySem.W.Frag} {L : LL} {O : OO} {k : As → OO → Prop} {te tv : TE} {ta : TA}
theorem ShDs.le {K : PySem.W.Frag} {xs : List As} {ds : List PyData} {e b e' b' : Nat} (h : ShDs K xs ds e b) (h1 : e ≤ e') (h2 : b ≤ b') : ShDs K xs ds e' b' := ⟨h.is, h.nd, h.sh, h.lf, h.sp, Nat.le_trans h.dp h1, Nat.le_trans h.bk h2⟩
/-! repr of values without lists, with dicts -/
def IsY (K : PySem.W.Frag) (A : As) (d : PyData) : Prop := ∀ G H v, Same G H → A.p G v → Dx K H v d
inductive IsYs (K : PySem.W.Frag) : List As → List PyData → Prop
  | nil : IsYs K [] []
  | cons {A : As} {l : List As} {d : PyData} {ds : List PyData} : IsY K A d → IsYs K l ds → IsYs K (A :: l) (d :: ds)
theorem IsYs.all {G H : Hp} (e : Same G H) : ∀ {xs : List As} {ds : List PyData} {vs : List V}, IsYs K xs ds → All2 G xs vs → DxAll K H vs ds
  | _, _, _, .nil, .nil => .nil
  | _, _, _, .cons h t, .cons a r => .cons (h _ _ _ e a) (IsYs.all e t r)
inductive IsYk (K : PySem.W.Frag) : List (Key × As) → List (PyData × PyData) → Prop
  | nil : IsYk K [] []
  | cons {ky : Key} {A : As} {l : List (Key × As)} {d : PyData} {ds : List (PyData × PyData)} : IsY K A d → IsYk K l ds → IsYk K ((ky, A) :: l) ((keyD ky, d) :: ds)
theorem IsYk.all {G H : Hp} (e : Same G H) : ∀ {xs : List (Key × As)} {ds : List (PyData × PyData)} {vs : List (Key × V)}, IsYk K xs ds → AllK G xs vs → DxKV K H vs ds
  | _, _, _, .nil, .nil => .nil
  | _, _, _, .cons h t, .cons a r => .cons (h _ _ _ e a) (IsYk.all e t r)
structure ShY (K : PySem.W.Frag) (A : As) (d : PyData) (e b : Nat) : Prop where
  is : IsY K A d
  sh : d.showable = true
  lf : d.leavesShort 13 = true
  dp : d.depth ≤ e
  bk : d.bulk ≤ b
structure ShYs (K : PySem.W.Frag) (xs : List As) (ds : List PyData) (e b : Nat) : Prop where
  is : IsYs K xs ds
  sh : PyData.showableAll ds = true
  lf : PyData.leavesShortAll 13 ds = true
  dp : PyData.depthAll ds ≤ e
  bk : PyData.bulkAll ds ≤ b
structure ShYk (K : PySem.W.Frag) (xs : List (Key × As)) (ds : List (PyData × PyData)) (e b : Nat) : Prop where
  is : IsYk K xs ds
  sh : PyData.showableKv ds = true
  lf : PyData.leavesShortKv 13 ds = true
  dp : PyData.depthKv ds ≤ e
  bk : PyData.bulkKv ds ≤ b
variable {A : As} {xs : List As} {d : PyData} {ds : List PyData} {e b e' b' : Nat}
theorem ShY.le (h : ShY K A d e b) (h1 : e ≤ e') (h2 : b ≤ b') : ShY K A d e' b' := ⟨h.is, h.sh, h.lf, Nat.le_trans h.dp h1, Nat.le_trans h.bk h2⟩
theorem ShYs.le (h : ShYs K xs ds e b) (h1 : e ≤ e') (h2 : b ≤ b') : ShYs K xs ds e' b' := ⟨h.is, h.sh, h.lf, Nat.le_trans h.dp h1, Nat.le_trans h.bk h2⟩
theorem ShY.no : ShY K no .none 0 0 := ⟨fun G H v _ h => by rw [show v = V.non from h]; exact .non, ShD.no.sh (K := K), ShD.no.lf (K := K), ShD.no.dp (K := K), ShD.no.bk (K := K)⟩
theorem ShY.tx {l : List Nat} (h : ∀ c ∈ l, c < 128) : ShY K (tx l) (.str (S l)) 0 l.length := ⟨fun G H v _ h => by rw [show v = V.str (S l) from h]; exact .str _, (ShD.tx (K := K) h).sh, (ShD.tx (K := K) h).lf, (ShD.tx (K := K) h).dp, (ShD.tx (K := K) h).bk⟩
theorem ShYs.nil : ShYs K [] [] 0 0 := ⟨.nil, by simp [PyData.showableAll], by simp [PyData.leavesShortAll], by simp [PyData.depthAll], by simp [PyData.bulkAll]⟩
theorem ShYs.cons (h : ShY K A d e b) (t : ShYs K xs ds e' b') : ShYs K (A :: xs) (d :: ds) (max e e') (b + 1 + b') :=
  ⟨.cons h.is t.is, by simp [PyData.showableAll, h.sh, t.sh], by simp [PyData.leavesShortAll, h.lf, t.lf], by
    have := h.dp
    have := t.dp
    simp only [PyData.depthAll]
    omega, by
    have := h.bk
    have := t.bk
    simp only [PyData.bulkAll]
    omega⟩
theorem ShYs.map {α : Type} {f : α → As} {g : α → PyData} : ∀ {l : List α}, (∀ x ∈ l, ShY K (f x) (g x) e b) → ShYs K (l.map f) (l.map g) e (l.length * (b + 1))
  | [], _ => ShYs.nil.le (Nat.zero_le _) (Nat.zero_le _)
  | x :: l, h => by
    have t := ShYs.cons (h x List.mem_cons_self) (ShYs.map fun y hy => h y (List.mem_cons_of_mem _ hy))
    rw [List.map_cons, List.map_cons]
    exact t.le (by omega) (by rw [List.length_cons, Nat.succ_mul]; omega)
theorem ShY.tup (h : ShYs K xs ds e b) : ShY K (Sy.tup K xs) (.tuple ds) (e + 1) b := ⟨fun G H v s ⟨a, vs, h1, h2, h3⟩ => by rw [h1]; exact .tup (SqT.mono s h2) (h.is.all s h3), by simp [PyData.showable, h.sh], by simp [PyData.leavesShort, h.lf], by simp [PyData.depth, h.dp], by simp [PyData.bulk, h.bk]⟩
theorem ShYk.nil : ShYk K [] [] 0 0 := ⟨.nil, by simp [PyData.showableKv], by simp [PyData.leavesShortKv], by simp [PyData.depthKv], by simp [PyData.bulkKv]⟩
theorem ShYk.cons {l : List Nat} {kvs : List (Key × As)} {kds : List (PyData × PyData)} (hl : ∀ c ∈ l, c < 128) (h : ShY K A d e b) (t : ShYk K kvs kds e' b') : ShYk K ((.inr (S l), A) :: kvs) ((.str (S l), d) :: kds) (max e e') (l.length + b + 2 + b') := by
  have hk := ShY.tx (K := K) hl
  refine ⟨.cons (ky := .inr (S l)) h.is t.is, by simp [PyData.showableKv, hk.sh, h.sh, t.sh], by simp [PyData.leavesShortKv, hk.lf, h.lf, t.lf], ?_, ?_⟩
  · have := h.dp
    have := t.dp
    have := hk.dp
    simp only [PyData.depthKv]
    omega
  · have := h.bk
    have := t.bk
    have := hk.bk
    simp only [PyData.bulkKv]
    omega
end
end Sy
namespace Sy
open PySem PySem.Spec PyProof.Rows L2
end Sy
namespace Sy
open PySem PySem.Spec PyProof.Rows L2
end Sy
namespace Sy
open PySem PySem.Spec PyProof.Rows L2
section
variable {K : PySem.W.Frag} {L : LL} {O : OO} {tt : TT} {t u : TS} {E : Es} {ta tb : TE} {k : As → OO → Prop}
theorem Go.ifT (h : GoT L O tt fun b O1 => b = true ∧ O1 = O) (q : Go L O ta k) : Go L O (tIf tt ta tb) k := Go.ite (GoT.join true h ⟨fun _ => q, fun z => (by cases z)⟩)
theorem Go.ifF (h : GoT L O tt fun b O1 => b = false ∧ O1 = O) (q : Go L O tb k) : Go L O (tIf tt ta tb) k := Go.ite (GoT.join false h ⟨fun z => (by cases z), fun _ => q⟩)
end
end Sy
namespace Sy
open PySem PySem.Spec PyProof.Rows L2
end Sy
/-! ### isinstance(e, (C1, C2)) of a caught exception; a call by a name that holds one of several defs; tuple(xs) of an owned list -/
namespace Sy
open PySem PySem.Spec PyProof.Rows L2
end Sy
namespace Sy
open PySem PySem.Spec PyProof.Rows L2
end Sy
namespace Sy
open PySem PySem.Spec PyProof.Rows L2
end Sy
/-! C(..) with defaults, by an __init__ that may raise, where it is handed on -/
section
open L2 PySem PySem.Spec PyProof.Rows
def tMakeS (C : Addr) (sp : Sp) (dvs : List V) (E : L2.St → XK) (t : TA) : TE := fun σ H Q => L2.tMake C sp dvs (E σ) t σ H Q
variable {X : Cx} {CX : CXT} {k : Nat} {f C : Addr} {fd : FuncData} {ps : List Str} {sp : Sp} {dvs : List V} {ds : List Value} {E : L2.St → XK} {x : Str} {p pos : Pos} {e : Expr} {es : List Expr} {t : TA}
/-- the making, where what is let out is told at the slots -/
theorem runMakeS {pins : List (Addr × Obj)} {σ : L2.St} {H : Hp} {s : Shared} {Q : VK} {us : List Value} {vs : List V} (M : Mk X.K C f) (F : FnOk X.prog X.w X.K X.mg X.base CX k f fd ps sp) (hr : Room (k + 1) X.A) (hb : Binds X.K fd ps ds) (hd : Vals dvs ds) (hx : PassesAt CX X σ (E σ)) (I : Inv X pins σ H s) (r : Vals vs us)
    (h : ∀ x dx, H x = none → H dx = none → dx ≠ x → sp (.ref x :: (vs ++ dvs)) (upd (upd H dx (.own x)) x (.ins C dx [])) (fun v H2 => v = .non ∧ Q (.ref x) H2) (E σ)) : wpAny (model X.prog X.w) X.A (call (.ref C) us) (EP X pins σ Q) X.xe s := by
  have n0 : H s.heap.objs.size = none := I.hok.fresh (Nat.le_refl _)
  have n1 : H (s.heap.objs.size + 1) = none := I.hok.fresh (Nat.le_succ _)
  have J := Inv.made (C := C) I
  have q := h _ _ n1 n0 (Nat.ne_of_lt (Nat.lt_succ_self _))
  have rv : Vals (V.ref (s.heap.objs.size + 1) :: (vs ++ dvs)) (Value.ref (s.heap.objs.size + 1) :: (us ++ ds)) := .cons rfl (r.append hd)
  have hn : (Value.ref (s.heap.objs.size + 1) :: us ++ ds).length = ps.length := rv.length.symm.trans (F.len _ _ _ _ q)
  have b := hb _ (Value.ref (s.heap.objs.size + 1) :: us) J.kIn hn
  have run := F.run _ X.stack _ _ ⟨Value.ref (s.heap.objs.size + 1) :: us, []⟩ _ _ _ (E σ) (hr.make C us []) (J.env0.make C us []) b rv q
  refine wpAny_call (make_map (f := f) I.kIn M.makes M.init (beq_iff_eq.mp M.fn) (codeAny_mono run fun r s' z => ?_))
  match r, z with
  | .error e, z => exact hx pins _ _ e s' J z
  | .ok (.ret u), z =>
    obtain ⟨v, H', J2, r2, ev, q2⟩ := J.after z
    cases ev
    exact ⟨r2, ⟨V.ref (s.heap.objs.size + 1), H', J2, rfl, q2⟩⟩
theorem pe_makeS (M : Mk X.K C f) (F : FnOk X.prog X.w X.K X.mg X.base CX k f fd ps sp) (hr : Room (k + 1) X.A) (hg : Gl X x) (hm : X.mg x = some (.ref C)) (hb : Binds X.K fd ps ds) (hd : Vals dvs ds) (hx : ∀ σ, PassesAt CX X σ (E σ)) (ha : PA X (e :: es) t) (hdb : (x == ("__debug__" : Str)) = false := by decide)
    (he : starEach (e :: es) X.env = (false, eval e X.env) :: starEach es X.env := by rfl) (hpl : (backTo pos (starEach es X.env)).any (·.1) = false := by rfl) : PE X (.Call (.Name x p) (e :: es) [] pos) (tMakeS C sp dvs E t) :=
  ⟨fun pins s σ H Q I h => wpAny_Call_Name_kw (ld_glob I hg hm (PySem.W.callWith_K (h₀ := X.base) I.ok.mod.kin M.kp (thn (ha.run pos pins s σ H _ I h) fun us s1 ⟨vs, H1, I1, r, q⟩ => ⟨I1.kIn, runMakeS M F hr hb hd (hx σ) I1 r q⟩) he hpl) hdb)⟩
end
namespace Sy
open PySem PySem.Spec PyProof.Rows L2
section
variable {K : PySem.W.Frag} {L : LL} {O : OO} {k : As → OO → Prop} {x : XP} {W : WX} {t : TA}
/-- .. where the slots tell what is let out -/
theorem GoW.makeDX {C : Addr} {α : Type} {dvs : List V} {pre : α → Prop} {as : α → List As} {fs : α → List (Str × As)} {ok : α → Prop} {rp : α → Value → List (Str × As) → OO → Prop} (dA : List As) (hd : ∀ G, All2 G dA dvs)
    (h : GoA L O t fun l O1 => ∃ a, l ++ dA = as a ∧ pre a ∧ (∀ cls fs O', rp a cls fs O' → ∃ D, O' = [D] ∧ x cls fs L O1) ∧ (ok a → k (ins C (fs a)) O1)) : GoW W x L O (tMakeS C (SpIX C pre as fs ok rp) dvs (WE W) t) k := fun E' G0 H0 σ G H Q f s z ac =>
  h _ _ _ _ _ _ _ f s fun l O1 G1 H1 vs hk f1 s1 b y dx nx ndx ne => by
    obtain ⟨a, ha, hp, hn, hk⟩ := hk
    have f4 := made_fr (C := C) f1 nx ndx ne
    refine ⟨(y, a), G1, hp, ?_, f4.part oi1, fun A O' G' H' v q g c => ?_, fun cls fs O' G' H' dx ds q g e1 e2 => ?_⟩
    · show All2 G1 (pt y :: as a) (.ref y :: (vs ++ dvs))
      rw [← ha]
      exact .cons rfl (b.app (hd _))
    · obtain ⟨ho, rfl, rfl⟩ := q
      exact ⟨c, made_end (f1.hn _ nx) (f4.frame g) (hk ho) fun A O G H v q f s => z A O G H v q f ((s1.trans g.gg).trans s)⟩
    · obtain ⟨D, rfl, hx⟩ := hn _ _ _ q
      exact ac _ _ _ _ _ _ _ _ _ hx (FrLe.drop (x := D) O1 _ _ _ _ _ (f4.frame g)) (s1.trans g.gg) (s.m (s1.trans g.gg)) e1 e2
end
end Sy
/-! ### min of three numbers -/
namespace Sy
end Sy
/-! ### x in an owned list of data; list(..) that does not stand where sys.modules does -/
namespace Sy
open PySem PySem.Spec PyProof.Rows L2
end Sy
/-! ### a, b = a list -/
namespace Sy
open PySem PySem.Spec PyProof.Rows L2
theorem GoG.lst {K : PySem.W.Frag} {L : LL} {l : List As} {n : Nat} {u : TGs} {k : LL → Prop} (hn : l.length = n) (h : GoGs L l u k) : GoG L (Sy.lst K l) (gLst K n u) k := fun σ G H Q x e s a z => by
  obtain ⟨p, vs, rfl, h1, h2⟩ := a
  exact ⟨p, vs, rfl, SqL.of (e _ _ h1), by rw [h2.len, hn], h _ _ _ _ _ e s h2 z⟩
end Sy
/-! ### sorted(..) of a list of data, of one kind at each place -/
namespace Sy
open PySem PySem.Spec PyProof.Rows L2
section
variable {X : Cx} {K : PySem.W.Frag}
def rSortD (K : PySem.W.Frag) : List V → Hp → VK → Prop := fun xs H Q => ∃ (p : Addr) (α : Type) (bs : List α) (val : α → V) (enc : α → PyData), xs = [.ref p] ∧ SqL K H p (bs.map val) ∧ (∀ b ∈ bs, Dp K H (val b) (enc b)) ∧
  PySem.W.AllAlike (bs.map enc) ∧ PySem.W.Sortable (bs.map enc) ∧ (∀ b ∈ bs, (enc b).depth ≤ 60) ∧ ∀ l, H l = none → Q (.ref l) (upd H l (.lst ((bs.mergeSort (PySem.W.dataLe false enc)).map val)))
theorem each_of {α : Type} {R : Value → α → Prop} {us : List Value} {bs : List α} {val : α → V} (r : Vals (bs.map val) us) (h : ∀ u b, b ∈ bs → RelV (val b) u → R u b) : PySem.W.EachIs R us bs := by
  induction bs generalizing us with
  | nil => cases r; exact .nil
  | cons b bs ih =>
    cases r with
    | cons r1 r2 => exact .cons (h _ _ List.mem_cons_self r1) (ih r2 fun u b hb => h u b (List.mem_cons_of_mem _ hb))
theorem vals_each {α : Type} {us : List Value} {bs : List α} {val : α → V} (e : PySem.W.EachIs (fun u b => RelV (val b) u) us bs) : Vals (bs.map val) us := by
  induction e with
  | nil => exact .nil
  | cons h _ ih => exact .cons h ih
theorem kSortD (h : X.K = K) (hu : X.A.units + 65 < cLine) : CallR X (.builtin "sorted") (rSortD K) := by
  subst h
  intro pins s σ H xs us Q I r h
  obtain ⟨p, α, bs, val, enc, rfl, hs, hd, hal, hk, hdp, q⟩ := h
  obtain ⟨its, rv, hl, hz⟩ := I.list hs
  rw [Vals.ref1 r]
  have hz : (bs.map val).length ≤ sizeLine := hz
  rw [List.length_map] at hz
  refine PySem.W.sorted_data (enc := enc) (bs := bs) (R := fun u b => RelV (val b) u) hl.isList (each_of rv fun u b _ r => r) (each_of rv fun u b hb r => Dp.reads I _ _ _ (hd b hb) r) hal hk hz (fun b hb => by have := hdp b hb; omega) fun out ho eo => ?_
  obtain ⟨ep, he'⟩ := PyProof.Rows.sortedAll_at s.heap its out.toArray
  have hlen : ((bs.mergeSort (PySem.W.dataLe false enc)).map val).length ≤ sizeLine := by rw [List.length_map, List.length_mergeSort]; exact hz
  exact ⟨.ref _, upd H (s.heap.objs.size + 1) (.lst ((bs.mergeSort (PySem.W.dataLe false enc)).map val)), I.laid (t' := s.toks) (fun _ _ => PyProof.Rows.sortedAll_old) (Nat.le_succ _) ⟨hlen, out, ep, vals_each eo, by simpa using he'⟩, rfl, q _ (I.hok.fresh (Nat.le_succ _))⟩
variable {O : OO} {k : As → OO → Prop}
theorem v_sortD {α : Type} {l : List α} {f : α → As} {enc : α → PyData} (h : ∀ x ∈ l, IsD K (f x) (enc x)) (hal : PySem.W.AllAlike (l.map enc)) (hk : PySem.W.Sortable (l.map enc)) (hd : ∀ x ∈ l, (enc x).depth ≤ 60)
    (q : k (Sy.lst K ((l.mergeSort (PySem.W.dataLe false enc)).map f)) O) : Vn O (rSortD K) [Sy.lst K (l.map f)] k := fun E G0 H0 G H Q vs fr a zz => by
  cases a with
  | cons a r =>
    cases r
    obtain ⟨p, ws, rfl, h1, h2⟩ := a
    have hlen : l.length = ws.length := by have := h2.len; rw [List.length_map] at this; exact this.symm
    have e1 : (l.zip ws).map (·.1) = l := List.map_fst_zip (by omega)
    have e2 : (l.zip ws).map (·.2) = ws := List.map_snd_zip (by omega)
    have hm : ∀ x ∈ l.zip ws, (f x.1).p G x.2 := by
      clear e1 e2 h1 hal hk hd q h
      induction l generalizing ws with
      | nil => intro x hx; cases hx
      | cons y l ih =>
        cases h2 with
        | cons a r =>
          intro x hx
          rcases List.mem_cons.mp hx with rfl | hx
          · exact a
          · exact ih _ r (by simpa using hlen) x hx
    have hin : ∀ x ∈ l.zip ws, x.1 ∈ l := fun x hx => (List.of_mem_zip hx).1
    have ee : (l.zip ws).map (fun x => enc x.1) = l.map enc := by
      conv => rhs; rw [← e1, List.map_map]
      rfl
    refine ⟨p, α × V, l.zip ws, (·.2), fun x => enc x.1, rfl, by rw [e2]; exact SqL.of (fr.gh _ _ h1), fun b hb => Dp.mono fr.gh _ _ (h _ (hin b hb) _ _ (hm b hb)), by rw [ee]; exact hal, by rw [ee]; exact hk, fun b hb => hd _ (hin b hb), fun D nD => ?_⟩
    have es : ((l.zip ws).mergeSort (PySem.W.dataLe false fun x => enc x.1)).map (·.1) = l.mergeSort (PySem.W.dataLe false enc) := by
      have := List.map_mergeSort (r := PySem.W.dataLe false fun x : α × V => enc x.1) (s := PySem.W.dataLe false enc) (f := fun x : α × V => x.1) (l := l.zip ws) (fun a _ b _ => rfl)
      rw [e1] at this
      exact this
    have hm2 : ∀ x ∈ (l.zip ws).mergeSort (PySem.W.dataLe false fun x => enc x.1), (f x.1).p G x.2 := fun x hx => hm x (List.mem_mergeSort.mp hx)
    rw [← es, List.map_map] at q
    generalize (l.zip ws).mergeSort (PySem.W.dataLe false fun x => enc x.1) = zs at hm2 q
    have ht : All2 G (zs.map (f ∘ fun x => x.1)) (zs.map (·.2)) := by
      clear q es
      induction zs with
      | nil => exact .nil
      | cons z zs ih => exact .cons (hm2 z List.mem_cons_self) (ih fun x hx => hm2 x (List.mem_cons_of_mem _ hx))
    have ex := Ext.new (o := .lst (zs.map (·.2))) fr.gh nD
    exact zz _ _ _ _ _ q (fr.ext ex) ex.g ⟨D, _, rfl, upd_same, ht.m ex.g⟩
end
end Sy
/-! ### == of two tuples of the same objects; instances told by their address -/
namespace Sy
open PySem PySem.Spec PyProof.Rows L2
section
variable {X : Cx} {K : PySem.W.Frag}
def rEqI (K : PySem.W.Frag) : R2 := fun x y H Q => ∃ (a b : Addr) (cs : List Addr), x = .ref a ∧ y = .ref b ∧ SqT K H a (cs.map V.ref) ∧ SqT K H b (cs.map V.ref) ∧ Q (.bl true) H
theorem vals_refs : ∀ {cs : List Addr} {us : List Value}, Vals (cs.map V.ref) us → us = cs.map Value.ref
  | [], _, .nil => rfl
  | c :: cs, _, .cons h r => by
    cases h
    rw [vals_refs r]
    rfl
theorem kEqI (h : X.K = K) (hu : X.A.units + 65 < cLine) : OpR X (compareOp .Eq) (rEqI K) := by
  subst h
  intro pins s σ H x y v u Q I rx ry h
  obtain ⟨a, b, cs, rfl, rfl, h1, h2, q⟩ := h
  cases rx
  cases ry
  obtain ⟨i1, r1, t1, _⟩ := I.tuple h1
  obtain ⟨i2, r2, t2, _⟩ := I.tuple h2
  have e1 := vals_refs r1
  have e2 := vals_refs r2
  subst e1 e2
  refine SeqAt.eq_tupleAt (e := fun _ => true) t1 t2 (by omega) (fun j h1 h2 => SeqAt.EqAt.same _) ?_
  rw [List.all_eq_true.mpr (fun _ _ => rfl), beq_self_eq_true]
  exact ⟨.bl true, H, I, rfl, q⟩
/-- an instance, told by its address -/
def insA (a C : Addr) (fs : List (Str × As)) : As := ⟨fun G v => v = .ref a ∧ ∃ dx vs, G a = some (.ins C dx vs) ∧ AllF G fs vs, fun e h => by
  obtain ⟨h1, dx, vs, h2, h3⟩ := h
  exact ⟨h1, dx, vs, e _ _ h2, h3.m e⟩⟩
theorem insA.ins {a C : Addr} {fs : List (Str × As)} {G : Hp} {v : V} (h : (insA a C fs).p G v) : (ins C fs).p G v := by
  obtain ⟨h1, dx, vs, h2, h3⟩ := h
  exact ⟨a, dx, vs, h1, h2, h3⟩
theorem Slots.tell {G : Hp} {B : As} : ∀ {L : LL} {σ : L2.St} {i : Nat} {v : V} {A : As}, Slots G L σ → L[i]? = some (some A) → σ[i]? = some (some v) → B.p G v → Slots G (setL L i B) σ
  | _, _, i, _, _, .nil, e, _, _ => by simp at e
  | _, _, 0, _, _, .un _, e, _, _ => by simp at e
  | _, _, 0, _, _, .im q t, e, e2, h => by
    simp at e2
    subst e2
    exact .im h t
  | _, _, i + 1, _, _, .un t, e, e2, h => .un (Slots.tell t (by simpa using e) (by simpa using e2) h)
  | _, _, i + 1, _, _, .im q t, e, e2, h => .im q (Slots.tell t (by simpa using e) (by simpa using e2) h)
variable {L : LL} {O : OO} {t : TS} {k : Es}
/-- the instances of a tuple in a slot get their addresses -/
theorem GoS.names {α : Type} {i : Nat} {C : Addr} {fs : α → List (Str × As)} {l : List α} (hL : L[i]? = some (some (Sy.tup K (l.map fun x => Sy.ins C (fs x))))) 
    (h : ∀ cs : List Addr, cs.length = l.length → GoS (setL L i (Sy.tup K ((l.zip cs).map fun x => Sy.insA x.2 C (fs x.1)))) O t k) : GoS L O t k := fun E0 G0 H0 σ G H D f s z => by
  obtain ⟨v, h1, p, ws, rfl, h2, h3⟩ := s.get hL
  have hx : ∃ cs : List Addr, cs.length = l.length ∧ All2 G ((l.zip cs).map fun x => Sy.insA x.2 C (fs x.1)) ws := by
    clear h h2 h1 hL
    induction l generalizing ws with
    | nil => cases h3; exact ⟨[], rfl, .nil⟩
    | cons y l ih =>
      cases h3 with
      | cons a r =>
        obtain ⟨cs, e, q⟩ := ih _ r
        obtain ⟨c, dx, vs, e1, e2, e3⟩ := a
        exact ⟨c :: cs, by simp [e], .cons ⟨e1, dx, vs, e2, e3⟩ q⟩
  obtain ⟨cs, e, q⟩ := hx
  exact h cs e _ _ _ _ _ _ _ f (Slots.tell s hL h1 ⟨p, ws, rfl, h2, q⟩) z
end
section
variable {K : PySem.W.Frag} {O : OO} {k : As → OO → Prop}
theorem refs_of {α : Type} {C : Addr} {fs : α → List (Str × As)} {G : Hp} : ∀ {l : List (α × Addr)} {ws : List V}, All2 G (l.map fun x => Sy.insA x.2 C (fs x.1)) ws → ws = (l.map (·.2)).map V.ref
  | [], _, .nil => rfl
  | x :: l, _, .cons a r => by
    rw [refs_of r, a.1]
    rfl
theorem v_eqIn {α : Type} {C : Addr} {fs : α → List (Str × As)} {l : List (α × Addr)} (q : k (bo true) O) : V2 O (rEqI K) (Sy.tup K (l.map fun x => Sy.insA x.2 C (fs x.1))) (Sy.tup K (l.map fun x => Sy.insA x.2 C (fs x.1))) k := fun E G0 H0 G H Q x y f a b zz => by
  obtain ⟨p, ws, rfl, h1, h2⟩ := a
  obtain ⟨p', ws', rfl, h1', h2'⟩ := b
  have e1 := refs_of h2
  have e2 := refs_of h2'
  subst e1 e2
  exact ⟨p, p', l.map (·.2), rfl, rfl, SqT.mono f.gh h1, SqT.mono f.gh h1', zz _ _ _ _ _ q f (Same.refl _) rfl⟩
end
end Sy
/-! ### f(e, .., k = v, ..): a def with parameters by name alone -/
section
variable {X : Cx} {CX : CXT} {k n : Nat} {f : Addr} {fd : FuncData} {ps ks : List Str} {sp : Sp} {x : Str} {p pos : Pos} {e : Expr} {es : List Expr} {kws : List Keyword} {t tk : TA}
def tApp (n m : Nat) (t tk : TA) : TA := fun σ H Q => t σ H fun vs H1 => tk σ H1 fun zs H2 => vs.length = n ∧ zs.length = m ∧ Q (vs ++ zs) H2
theorem run_fnkA {E : XK} {pins : List (Addr × Obj)} {σ : L2.St} {H : Hp} {s : Shared} {Q : VK} {us ws : List Value} {vs zs : List V} (F : FnOk X.prog X.w X.K X.mg X.base CX k f fd ps sp) (hr : Room k X.A) (hb : KBn X.K fd ps n ks (fun us ws => us ++ ws) (fun vs zs => vs ++ zs)) (hx : PassesAt CX X σ E)
    (I : Inv X pins σ H s) (r : Vals vs us) (rz : Vals zs ws) (l1 : vs.length = n) (l2 : zs.length = ks.length) (h : sp (vs ++ zs) H Q E) : wpAny (model X.prog X.w) X.A (call (.ref f) us (ks.zip ws)) (EP X pins σ Q) X.xe s := by
  have r2 := hb.rel r rz
  have hl : us.length = n := by rw [← r.length]; exact l1
  have hz : ws.length = ks.length := by rw [← rz.length]; exact l2
  refine wpAny_call (codeAny_mono (F.run X.A X.stack s H ⟨us, ks.zip ws⟩ (us ++ ws) (vs ++ zs) Q E hr I.env0 (hb.to s us ws I.kIn hl hz) r2 h) fun r s' hq => ?_)
  cases r with
  | error e => exact hx pins H s e s' I hq
  | ok fl =>
    cases fl with
    | ret u => exact I.after hq
    | next => exact False.elim hq
    | brk => exact False.elim hq
    | cont => exact False.elim hq
theorem pe_callKA {E : XK} (F : FnOk X.prog X.w X.K X.mg X.base CX k f fd ps sp) (hr : Room k X.A) (hg : Gl X x) (hm : X.mg x = some (.ref f)) (hk : PySem.W.keepIn X.K (.ref f) = true) (hb : KBn X.K fd ps n ks (fun us ws => us ++ ws) (fun vs zs => vs ++ zs)) (hx : Passes CX X E)
    (ha : PA X (e :: es) t) (hkw : PK X kws tk) (hall : (backToKw pos (keywordEach kws X.env)).all (·.1.isSome) = true := by rfl) (hks : (backToKw pos (keywordEach kws X.env)).filterMap (·.1) = ks := by rfl)
    (hdb : (x == ("__debug__" : Str)) = false := by decide) (he : starEach (e :: es) X.env = (false, eval e X.env) :: starEach es X.env := by rfl)
    (hpl : ((backTo pos (starEach (e :: es) X.env)).any (·.1) || (backToKw pos (keywordEach kws X.env)).any (·.1.isNone)) = false := by rfl) :
    PE X (.Call (.Name x p) (e :: es) kws pos) (tCall sp [] E (tApp n ks.length t tk)) := by
  refine ⟨fun pins s σ H Q I h => ?_⟩
  refine wpAny_Call_Name_kw (ld_glob I hg hm ?_ hdb)
  refine PySem.W.callWith_KW (h₀ := X.base) I.ok.mod.kin hk hall (thn (ha.run pos pins s σ H _ I h) fun us s1 ⟨vs, H1, I1, r, q⟩ => ?_) hpl he
  refine thn (hkw.run pos pins s1 σ H1 _ I1 q) fun ws s2 ⟨zs, H2, I2, rz, l1, l2, q2⟩ => ⟨I2.kIn, ?_⟩
  rw [hks]
  have q2 : sp (vs ++ zs ++ []) H2 Q E := q2
  rw [List.append_nil] at q2
  exact run_fnkA F hr hb (fun pins H s e s' I h => hx pins σ H s e s' I h) I2 r rz l1 l2 q2
end
namespace Sy
open PySem PySem.Spec PyProof.Rows L2
theorem GoA.app {L : LL} {O : OO} {t tk : TA} {n m : Nat} {k : List As → OO → Prop} (h : GoA L O t fun l O1 => GoA L O1 tk fun ms O2 => l.length = n ∧ ms.length = m ∧ k (l ++ ms) O2) : GoA L O (tApp n m t tk) k := fun E G0 H0 σ G H Q f s z =>
  h _ _ _ _ _ _ _ f s fun l O1 G1 H1 vs hk f1 s1 a => hk _ _ _ _ _ _ _ f1 (s.m s1) fun ms O2 G2 H2 zs hk2 f2 s2 b => ⟨by rw [a.len]; exact hk2.1, by rw [b.len]; exact hk2.2.1, z _ _ _ _ _ hk2.2.2 f2 (s1.trans s2) ((a.m s2).app b)⟩
/-- an instance told by its address, as one whose address is not told -/
theorem Go.asIns {L : LL} {O : OO} {te : TE} {k : As → OO → Prop} (h : Go L O te fun A O1 => ∃ a C fs, A = insA a C fs ∧ k (ins C fs) O1) : Go L O te k := fun E G0 H0 σ G H Q f s z => h _ _ _ _ _ _ _ f s fun A O1 G1 H1 v q f1 s1 a => by
  obtain ⟨b, C, fs, rfl, q⟩ := q
  exact z _ _ _ _ _ q f1 s1 (insA.ins a)
end Sy
/-! ### C(.., k = ..): some keywords lack; the defaults stand in kg's order -/
namespace Sy
open PySem PySem.Spec PyProof.Rows L2
section
variable {L : LL} {O : OO} {k : As → OO → Prop} {t tk : TA}
theorem Go.makeKD {α : Type} {C : Addr} {n m : Nat} {kgV : List V → List V → List V → List V} {dv : List V} {pre : α → Prop} {as : α → List As} {fs : α → List (Str × As)} {ok : α → Prop} {rp : α → Value → List (Str × As) → OO → Prop} {X : XK} (kgA : List As → List As → List As → List As)
    (hk : ∀ {G : Hp} {l m z : List As} {vs ms zs : List V}, All2 G l vs → All2 G m ms → All2 G z zs → All2 G (kgA l m z) (kgV vs ms zs)) (hc : ∀ P l m z, kgA (P :: l) m z = P :: kgA l m z)
    (h : GoA L O t fun l O1 => GoA L O1 tk fun ms O2 => l.length = n ∧ ms.length = m ∧ ∃ a, kgA l (dv.map cst) ms = as a ∧ pre a ∧ (∀ cls fs O', ¬ rp a cls fs O') ∧ (ok a → k (ins C (fs a)) O2)) : Go L O (tMakeK C n m (SpIX C pre as fs ok rp) (fun vs zs => kgV vs dv zs) X t tk) k :=
  Go.makeKX (fun l ms => kgA l (dv.map cst) ms) (fun G p P l ms vs zs h1 h2 h3 => by
    have e := hk (.cons h1 h2) (All2.csts (G := G) dv) h3
    rw [hc] at e
    exact e) h
theorem Go.makeKE {α : Type} {C : Addr} {n m : Nat} {kgV : List V → List V → List V → List V} {dv : List V} {pre : α → Prop} {as : α → List As} {fs : α → List (Str × As)} {ok : α → Prop} {rp : α → Value → List (Str × As) → OO → Prop} {X : XK} (kgA : List As → List As → List As → List As)
    (hk : ∀ {G : Hp} {l m z : List As} {vs ms zs : List V}, All2 G l vs → All2 G m ms → All2 G z zs → All2 G (kgA l m z) (kgV vs ms zs)) (hc : ∀ P l m z, kgA (P :: l) m z = P :: kgA l m z) (dA : List As) (hd : ∀ G, All2 G dA dv)
    (h : GoA L O t fun l O1 => GoA L O1 tk fun ms O2 => l.length = n ∧ ms.length = m ∧ ∃ a, kgA l dA ms = as a ∧ pre a ∧ (∀ cls fs O', ¬ rp a cls fs O') ∧ (ok a → k (ins C (fs a)) O2)) : Go L O (tMakeK C n m (SpIX C pre as fs ok rp) (fun vs zs => kgV vs dv zs) X t tk) k :=
  Go.makeKX (fun l ms => kgA l dA ms) (fun G p P l ms vs zs h1 h2 h3 => by
    have e := hk (.cons h1 h2) (hd G) h3
    rw [hc] at e
    exact e) h
end
section
variable {L : LL} {O : OO} {t : TS} {k : Es}
/-- the instance in a slot gets its address -/
theorem GoS.name1 {i : Nat} {C : Addr} {fs : List (Str × As)} (hL : L[i]? = some (some (Sy.ins C fs))) (h : ∀ c : Addr, GoS (setL L i (Sy.insA c C fs)) O t k) : GoS L O t k := fun E0 G0 H0 σ G H D f s z => by
  obtain ⟨v, h1, c, dx, vs, rfl, e2, e3⟩ := s.get hL
  exact h c _ _ _ _ _ _ _ f (Slots.tell s hL h1 ⟨rfl, dx, vs, e2, e3⟩) z
end
end Sy
namespace Sy
open PySem PySem.Spec PyProof.Rows L2
section
variable {K : PySem.W.Frag} {L : LL} {O : OO} {k : As → OO → Prop}
/-- a comprehension over what is known behind its first part alone -/
theorem Go.lcI {α : Type} {wi : TI} {g : TG} {te : TE} {vs : List Nat} (hg : HG g vs) (f B : α → As) (h : GoI L O wi fun xs O1 => ∃ l : List α, xs = l.map f ∧ l.length ≤ 100000 ∧
      (∀ x ∈ l, ∀ T, GoG (wipeL L vs) (f x) g fun L2 => Go L2 (O1 ++ T) te fun B' O3 => B' = B x ∧ O3 = O1 ++ T) ∧ k (Sy.lst K (l.map B)) O1) : Go L O (tLc wi g tYes te vs) k :=
  Go.lc (K := K) hg fun E G0 H0 σ G H Q f9 s z => h _ _ _ _ _ _ _ f9 s fun xs O1 G1 H1 J e => z _ _ _ _ _ (by
    obtain ⟨l, rfl, hl, he, q⟩ := e
    refine ⟨fun i acc O' => O' = O1 ∧ acc = (l.take i).map B, ⟨rfl, rfl⟩, fun i A acc O' T hA e => ?_, fun acc O' e => ?_⟩
    · obtain ⟨rfl, rfl⟩ := e
      rw [List.getElem?_map] at hA
      cases hx : l[i]? with
      | none => rw [hx] at hA; cases hA
      | some x =>
        rw [hx] at hA
        obtain rfl := Option.some.inj hA
        have hi : i < l.length := (List.getElem?_eq_some_iff.mp hx).1
        refine (he x (List.mem_of_getElem? hx) T).imp fun L2 h2 => GoT.yes ?_
        rw [if_pos rfl]
        refine h2.imp fun B' O3 e => ?_
        obtain ⟨rfl, rfl⟩ := e
        refine ⟨O', rfl, ?_, rfl, ?_⟩
        · rw [List.length_map, List.length_take]; omega
        · rw [List.take_add_one, hx, List.map_append]; rfl
    · obtain ⟨rfl, rfl⟩ := e
      rw [List.length_map, List.take_length]
      exact q)
end
end Sy
end Cj
namespace LawK45
open PySem PySem.Spec PyProof.Rows L2 Cj Cj.Sy
open SX (S S_len S_cat S_inj)
def topS (i : Nat) : Stmt := PySem.Challenge.pw_crumbjar_k45_limits.main.body.getD i (.Pass ⟨0, 0, 0, 0⟩)
abbrev PW : Program := PySem.Challenge.pw_crumbjar_k45_limits
/-- the program is this one -/
class IsP (P : Program) : Prop where
  eq : P = PW
instance : IsP PySem.Challenge.rw_crumbjar_k45_limits.prog := ⟨rfl⟩
abbrev SI_BadTick : Stmt := ExS.inCls (topS 4) 0
theorem sci_BadTick : NdefX.NScope ["self", "given", "__class__"] ["self", "given"] ["__class__"] (defScope SI_BadTick) := NdefX.nscope_by (by decide +kernel)
abbrev SI_BadHost : Stmt := ExS.inCls (topS 2) 0
theorem sci_BadHost : NdefX.NScope ["self", "place", "__class__"] ["self", "place"] ["__class__"] (defScope SI_BadHost) := NdefX.nscope_by (by decide +kernel)
abbrev SI_BadLine : Stmt := ExS.inCls (topS 5) 0
theorem sci_BadLine : NdefX.NScope ["self", "field", "__class__"] ["self", "field"] ["__class__"] (defScope SI_BadLine) := NdefX.nscope_by (by decide +kernel)
abbrev SI_BadRules : Stmt := ExS.inCls (topS 3) 0
theorem sci_BadRules : NdefX.NScope ["self", "index", "__class__"] ["self", "index"] ["__class__"] (defScope SI_BadRules) := NdefX.nscope_by (by decide +kernel)
abbrev SI_BadCrumb : Stmt := ExS.inCls (topS 6) 0
theorem sci_BadCrumb : NdefX.NScope ["self", "field", "__class__"] ["self", "field"] ["__class__"] (defScope SI_BadCrumb) := NdefX.nscope_by (by decide +kernel)
abbrev S_is_integer : Stmt := topS 12
abbrev N_is_integer : List Str := ["value"]
theorem sc_is_integer : FnScope N_is_integer ["value"] (defScope S_is_integer) := ⟨rfl, rfl, rfl, by decide +kernel, rfl, by decide +kernel, by decide +kernel⟩
abbrev S_is_tick : Stmt := topS 13
abbrev N_is_tick : List Str := ["value"]
theorem sc_is_tick : FnScope N_is_tick ["value"] (defScope S_is_tick) := ⟨rfl, rfl, rfl, by decide +kernel, rfl, by decide +kernel, by decide +kernel⟩
abbrev S_need_tick : Stmt := topS 14
abbrev N_need_tick : List Str := ["value"]
theorem sc_need_tick : FnScope N_need_tick ["value"] (defScope S_need_tick) := ⟨rfl, rfl, rfl, by decide +kernel, rfl, by decide +kernel, by decide +kernel⟩
abbrev S_small_text : Stmt := topS 15
abbrev N_small_text : List Str := ["text", "sign"]
theorem sc_small_text : FnScope N_small_text ["text"] (defScope S_small_text) := ⟨rfl, rfl, rfl, by decide +kernel, rfl, by decide +kernel, by decide +kernel⟩
abbrev S_s1_is_number_word : Stmt := topS 21
abbrev N_s1_is_number_word : List Str := ["text", "sign"]
theorem sc_s1_is_number_word : FnScope N_s1_is_number_word ["text"] (defScope S_s1_is_number_word) := ⟨rfl, rfl, rfl, by decide +kernel, rfl, by decide +kernel, by decide +kernel⟩
abbrev S_s1_is_small : Stmt := topS 22
abbrev N_s1_is_small : List Str := ["word"]
theorem sc_s1_is_small : FnScope N_s1_is_small ["word"] (defScope S_s1_is_small) := ⟨rfl, rfl, rfl, by decide +kernel, rfl, by decide +kernel, by decide +kernel⟩
abbrev S_s1_is_label : Stmt := topS 23
abbrev N_s1_is_label : List Str := ["text", "sign"]
theorem sc_s1_is_label : FnScope N_s1_is_label ["text"] (defScope S_s1_is_label) := ⟨rfl, rfl, rfl, by decide +kernel, rfl, by decide +kernel, by decide +kernel⟩
abbrev S_is_address_host : Stmt := topS 24
abbrev N_is_address_host : List Str := ["value", "words", "word"]
theorem sc_is_address_host : FnScope N_is_address_host ["value"] (defScope S_is_address_host) := ⟨rfl, rfl, rfl, by decide +kernel, rfl, by decide +kernel, by decide +kernel⟩
abbrev S_is_host : Stmt := topS 25
abbrev N_is_host : List Str := ["value", "words", "word"]
theorem sc_is_host : FnScope N_is_host ["value"] (defScope S_is_host) := ⟨rfl, rfl, rfl, by decide +kernel, rfl, by decide +kernel, by decide +kernel⟩
abbrev S_s1_may_become_address : Stmt := topS 26
abbrev N_s1_may_become_address : List Str := ["words", "word"]
theorem sc_s1_may_become_address : FnScope N_s1_may_become_address ["words"] (defScope S_s1_may_become_address) := ⟨rfl, rfl, rfl, by decide +kernel, rfl, by decide +kernel, by decide +kernel⟩
abbrev S_s1_begins : Stmt := topS 27
abbrev N_s1_begins : List Str := ["text", "words", "last", "left", "word", "sign"]
theorem sc_s1_begins : FnScope N_s1_begins ["text"] (defScope S_s1_begins) := ⟨rfl, rfl, rfl, by decide +kernel, rfl, by decide +kernel, by decide +kernel⟩
abbrev S_s1_place : Stmt := topS 29
abbrev N_s1_place : List Str := ["value", "at"]
theorem sc_s1_place : FnScope N_s1_place ["value"] (defScope S_s1_place) := ⟨rfl, rfl, rfl, by decide +kernel, rfl, by decide +kernel, by decide +kernel⟩
abbrev S_need_host : Stmt := topS 28
abbrev N_need_host : List Str := ["value"]
theorem sc_need_host : FnScope N_need_host ["value"] (defScope S_need_host) := ⟨rfl, rfl, rfl, by decide +kernel, rfl, by decide +kernel, by decide +kernel⟩
abbrev S_s1_fits : Stmt := topS 30
abbrev N_s1_fits : List Str := ["host", "domain"]
theorem sc_s1_fits : FnScope N_s1_fits ["host", "domain"] (defScope S_s1_fits) := ⟨rfl, rfl, rfl, by decide +kernel, rfl, by decide +kernel, by decide +kernel⟩
abbrev S_s1_is_path_sign : Stmt := topS 35
abbrev N_s1_is_path_sign : List Str := ["sign"]
theorem sc_s1_is_path_sign : FnScope N_s1_is_path_sign ["sign"] (defScope S_s1_is_path_sign) := ⟨rfl, rfl, rfl, by decide +kernel, rfl, by decide +kernel, by decide +kernel⟩
abbrev S_is_path : Stmt := topS 36
abbrev N_is_path : List Str := ["value", "sign"]
theorem sc_is_path : FnScope N_is_path ["value"] (defScope S_is_path) := ⟨rfl, rfl, rfl, by decide +kernel, rfl, by decide +kernel, by decide +kernel⟩
abbrev S_is_origin : Stmt := topS 37
abbrev N_is_origin : List Str := ["value"]
theorem sc_is_origin : FnScope N_is_origin ["value"] (defScope S_is_origin) := ⟨rfl, rfl, rfl, by decide +kernel, rfl, by decide +kernel, by decide +kernel⟩
abbrev S_s1_is_safe : Stmt := topS 38
abbrev N_s1_is_safe : List Str := ["origin"]
theorem sc_s1_is_safe : FnScope N_s1_is_safe ["origin"] (defScope S_s1_is_safe) := ⟨rfl, rfl, rfl, by decide +kernel, rfl, by decide +kernel, by decide +kernel⟩
abbrev S_s2_has_control : Stmt := topS 44
abbrev N_s2_has_control : List Str := ["text", "sign"]
theorem sc_s2_has_control : FnScope N_s2_has_control ["text"] (defScope S_s2_has_control) := ⟨rfl, rfl, rfl, by decide +kernel, rfl, by decide +kernel, by decide +kernel⟩
abbrev S_s2_is_kept : Stmt := topS 45
abbrev N_s2_is_kept : List Str := ["value", "forbidden", "sign"]
theorem sc_s2_is_kept : FnScope N_s2_is_kept ["value", "forbidden"] (defScope S_s2_is_kept) := ⟨rfl, rfl, rfl, by decide +kernel, rfl, by decide +kernel, by decide +kernel⟩
abbrev S_s2_is_value : Stmt := topS 46
abbrev N_s2_is_value : List Str := ["name", "value"]
theorem sc_s2_is_value : FnScope N_s2_is_value ["name", "value"] (defScope S_s2_is_value) := ⟨rfl, rfl, rfl, by decide +kernel, rfl, by decide +kernel, by decide +kernel⟩
abbrev S_s2_is_age : Stmt := topS 47
abbrev N_s2_is_age : List Str := ["value"]
theorem sc_s2_is_age : FnScope N_s2_is_age ["value"] (defScope S_s2_is_age) := ⟨rfl, rfl, rfl, by decide +kernel, rfl, by decide +kernel, by decide +kernel⟩
abbrev S_s2_is_same : Stmt := topS 48
abbrev N_s2_is_same : List Str := ["value"]
theorem sc_s2_is_same : FnScope N_s2_is_same ["value"] (defScope S_s2_is_same) := ⟨rfl, rfl, rfl, by decide +kernel, rfl, by decide +kernel, by decide +kernel⟩
abbrev S_s2_is_priority : Stmt := topS 49
abbrev N_s2_is_priority : List Str := ["value"]
theorem sc_s2_is_priority : FnScope N_s2_is_priority ["value"] (defScope S_s2_is_priority) := ⟨rfl, rfl, rfl, by decide +kernel, rfl, by decide +kernel, by decide +kernel⟩
abbrev S_s2_need : Stmt := topS 51
abbrev N_s2_need : List Str := ["field", "good"]
theorem sc_s2_need : FnScope N_s2_need ["field", "good"] (defScope S_s2_need) := ⟨rfl, rfl, rfl, by decide +kernel, rfl, by decide +kernel, by decide +kernel⟩
abbrev S_Line_init : Stmt := ExS.inCls (topS 50) 0
abbrev N_Line_init : List Str := ["self", "name", "value", "expires", "age", "domain", "path", "is_secure", "is_hidden", "same", "is_partitioned", "priority"]
theorem sc_Line_init : FnScope N_Line_init ["self", "name", "value", "expires", "age", "domain", "path", "is_secure", "is_hidden", "same", "is_partitioned", "priority"] (defScope S_Line_init) := ⟨rfl, rfl, rfl, by decide +kernel, rfl, by decide +kernel, by decide +kernel⟩
abbrev S_s1_is_rule : Stmt := topS 54
abbrev N_s1_is_rule : List Str := ["value", "is_exception", "words", "word"]
theorem sc_s1_is_rule : FnScope N_s1_is_rule ["value"] (defScope S_s1_is_rule) := ⟨rfl, rfl, rfl, by decide +kernel, rfl, by decide +kernel, by decide +kernel⟩
abbrev S_need_rules : Stmt := topS 55
abbrev N_need_rules : List Str := ["rules", "known", "at", "rule"]
theorem sc_need_rules : FnScope N_need_rules ["rules"] (defScope S_need_rules) := ⟨rfl, rfl, rfl, by decide +kernel, rfl, by decide +kernel, by decide +kernel⟩
abbrev S_s1_matching : Stmt := topS 56
abbrev N_s1_matching : List Str := ["rules", "labels", "exceptions", "others", "rule", "is_exception", "words", "tail", "word", "label"]
theorem sc_s1_matching : FnScope N_s1_matching ["rules", "labels"] (defScope S_s1_matching) := ⟨rfl, rfl, rfl, by decide +kernel, rfl, by decide +kernel, by decide +kernel⟩
abbrev S_s1_suffix : Stmt := topS 57
abbrev N_s1_suffix : List Str := ["rules", "host", "labels", "exceptions", "others", "many"]
theorem sc_s1_suffix : FnScope N_s1_suffix ["rules", "host"] (defScope S_s1_suffix) := ⟨rfl, rfl, rfl, by decide +kernel, rfl, by decide +kernel, by decide +kernel⟩
abbrev S_s1_family : Stmt := topS 58
abbrev N_s1_family : List Str := ["rules", "host", "suffix"]
theorem sc_s1_family : FnScope N_s1_family ["rules", "host"] (defScope S_s1_family) := ⟨rfl, rfl, rfl, by decide +kernel, rfl, by decide +kernel, by decide +kernel⟩
abbrev S_need_both : Stmt := topS 59
abbrev N_need_both : List Str := ["rules", "host"]
theorem sc_need_both : FnScope N_need_both ["rules", "host"] (defScope S_need_both) := ⟨rfl, rfl, rfl, by decide +kernel, rfl, by decide +kernel, by decide +kernel⟩
abbrev S_family_of : Stmt := topS 60
abbrev N_family_of : List Str := ["rules", "host"]
theorem sc_family_of : FnScope N_family_of ["rules", "host"] (defScope S_family_of) := ⟨rfl, rfl, rfl, by decide +kernel, rfl, by decide +kernel, by decide +kernel⟩
abbrev S_s3_prefix : Stmt := topS 65
abbrev N_s3_prefix : List Str := ["name", "value", "marked", "found", "prefix"]
theorem sc_s3_prefix : FnScope N_s3_prefix ["name", "value"] (defScope S_s3_prefix) := ⟨rfl, rfl, rfl, by decide +kernel, rfl, by decide +kernel, by decide +kernel⟩
abbrev S_s3_wrong_text : Stmt := topS 66
abbrev N_s3_wrong_text : List Str := ["name", "value", "error"]
theorem sc_s3_wrong_text : FnScope N_s3_wrong_text ["name", "value"] (defScope S_s3_wrong_text) := ⟨rfl, rfl, rfl, by decide +kernel, rfl, by decide +kernel, by decide +kernel⟩
abbrev S_s3_is_born : Stmt := topS 67
abbrev N_s3_is_born : List Str := ["value"]
theorem sc_s3_is_born : FnScope N_s3_is_born ["value"] (defScope S_s3_is_born) := ⟨rfl, rfl, rfl, by decide +kernel, rfl, by decide +kernel, by decide +kernel⟩
abbrev S_s3_is_space : Stmt := topS 68
abbrev N_s3_is_space : List Str := ["value"]
theorem sc_s3_is_space : FnScope N_s3_is_space ["value"] (defScope S_s3_is_space) := ⟨rfl, rfl, rfl, by decide +kernel, rfl, by decide +kernel, by decide +kernel⟩
abbrev S_s3_can_live : Stmt := topS 69
abbrev N_s3_can_live : List Str := ["host", "same", "is_secure", "space", "site", "is_foreign"]
theorem sc_s3_can_live : FnScope N_s3_can_live ["host", "same", "is_secure", "space"] (defScope S_s3_can_live) := ⟨rfl, rfl, rfl, by decide +kernel, rfl, by decide +kernel, by decide +kernel⟩
abbrev S_s3_wrong_place : Stmt := topS 70
abbrev N_s3_wrong_place : List Str := ["host", "is_exact", "path", "is_secure", "is_hidden", "prefix"]
theorem sc_s3_wrong_place : FnScope N_s3_wrong_place ["host", "is_exact", "path", "is_secure", "is_hidden", "prefix"] (defScope S_s3_wrong_place) := ⟨rfl, rfl, rfl, by decide +kernel, rfl, by decide +kernel, by decide +kernel⟩
abbrev S_s3_wrong_time : Stmt := topS 71
abbrev N_s3_wrong_time : List Str := ["born", "seen", "ends"]
theorem sc_s3_wrong_time : FnScope N_s3_wrong_time ["born", "seen", "ends"] (defScope S_s3_wrong_time) := ⟨rfl, rfl, rfl, by decide +kernel, rfl, by decide +kernel, by decide +kernel⟩
abbrev S_s3_wrong_field : Stmt := topS 72
abbrev N_s3_wrong_field : List Str := ["crumb", "name", "value", "host", "is_exact", "path", "is_secure", "is_hidden", "same", "priority", "space", "born", "seen", "ends", "found"]
theorem sc_s3_wrong_field : FnScope N_s3_wrong_field ["crumb"] (defScope S_s3_wrong_field) := ⟨rfl, rfl, rfl, by decide +kernel, rfl, by decide +kernel, by decide +kernel⟩
abbrev S_Crumb_init : Stmt := ExS.inCls (topS 73) 0
abbrev N_Crumb_init : List Str := ["self", "name", "value", "host", "is_exact", "path", "is_secure", "is_hidden", "same", "priority", "space", "born", "seen", "ends", "parts", "field"]
theorem sc_Crumb_init : FnScope N_Crumb_init ["self", "name", "value", "host", "is_exact", "path", "is_secure", "is_hidden", "same", "priority", "space", "born", "seen", "ends"] (defScope S_Crumb_init) := ⟨rfl, rfl, rfl, by decide +kernel, rfl, by decide +kernel, by decide +kernel⟩
abbrev S_Crumb_name : Stmt := ExS.inCls (topS 73) 1
abbrev N_Crumb_name : List Str := ["self"]
theorem sc_Crumb_name : FnScope N_Crumb_name ["self"] (defScope S_Crumb_name) := ⟨rfl, rfl, rfl, by decide +kernel, rfl, by decide +kernel, by decide +kernel⟩
abbrev S_Crumb_host : Stmt := ExS.inCls (topS 73) 3
abbrev N_Crumb_host : List Str := ["self"]
theorem sc_Crumb_host : FnScope N_Crumb_host ["self"] (defScope S_Crumb_host) := ⟨rfl, rfl, rfl, by decide +kernel, rfl, by decide +kernel, by decide +kernel⟩
abbrev S_Crumb_is_exact : Stmt := ExS.inCls (topS 73) 4
abbrev N_Crumb_is_exact : List Str := ["self"]
theorem sc_Crumb_is_exact : FnScope N_Crumb_is_exact ["self"] (defScope S_Crumb_is_exact) := ⟨rfl, rfl, rfl, by decide +kernel, rfl, by decide +kernel, by decide +kernel⟩
abbrev S_Crumb_path : Stmt := ExS.inCls (topS 73) 5
abbrev N_Crumb_path : List Str := ["self"]
theorem sc_Crumb_path : FnScope N_Crumb_path ["self"] (defScope S_Crumb_path) := ⟨rfl, rfl, rfl, by decide +kernel, rfl, by decide +kernel, by decide +kernel⟩
abbrev S_Crumb_is_secure : Stmt := ExS.inCls (topS 73) 6
abbrev N_Crumb_is_secure : List Str := ["self"]
theorem sc_Crumb_is_secure : FnScope N_Crumb_is_secure ["self"] (defScope S_Crumb_is_secure) := ⟨rfl, rfl, rfl, by decide +kernel, rfl, by decide +kernel, by decide +kernel⟩
abbrev S_Crumb_priority : Stmt := ExS.inCls (topS 73) 9
abbrev N_Crumb_priority : List Str := ["self"]
theorem sc_Crumb_priority : FnScope N_Crumb_priority ["self"] (defScope S_Crumb_priority) := ⟨rfl, rfl, rfl, by decide +kernel, rfl, by decide +kernel, by decide +kernel⟩
abbrev S_Crumb_space : Stmt := ExS.inCls (topS 73) 10
abbrev N_Crumb_space : List Str := ["self"]
theorem sc_Crumb_space : FnScope N_Crumb_space ["self"] (defScope S_Crumb_space) := ⟨rfl, rfl, rfl, by decide +kernel, rfl, by decide +kernel, by decide +kernel⟩
abbrev S_Crumb_seen : Stmt := ExS.inCls (topS 73) 12
abbrev N_Crumb_seen : List Str := ["self"]
theorem sc_Crumb_seen : FnScope N_Crumb_seen ["self"] (defScope S_Crumb_seen) := ⟨rfl, rfl, rfl, by decide +kernel, rfl, by decide +kernel, by decide +kernel⟩
abbrev S_Crumb_ends : Stmt := ExS.inCls (topS 73) 13
abbrev N_Crumb_ends : List Str := ["self"]
theorem sc_Crumb_ends : FnScope N_Crumb_ends ["self"] (defScope S_Crumb_ends) := ⟨rfl, rfl, rfl, by decide +kernel, rfl, by decide +kernel, by decide +kernel⟩
abbrev S_Crumb_key : Stmt := ExS.inCls (topS 73) 14
abbrev N_Crumb_key : List Str := ["self", "first"]
theorem sc_Crumb_key : FnScope N_Crumb_key ["self"] (defScope S_Crumb_key) := ⟨rfl, rfl, rfl, by decide +kernel, rfl, by decide +kernel, by decide +kernel⟩
abbrev S_need_crumb : Stmt := topS 74
abbrev N_need_crumb : List Str := ["value"]
theorem sc_need_crumb : FnScope N_need_crumb ["value"] (defScope S_need_crumb) := ⟨rfl, rfl, rfl, by decide +kernel, rfl, by decide +kernel, by decide +kernel⟩
abbrev S_s3_has_ended : Stmt := topS 75
abbrev N_s3_has_ended : List Str := ["crumb", "tick"]
theorem sc_s3_has_ended : FnScope N_s3_has_ended ["crumb", "tick"] (defScope S_s3_has_ended) := ⟨rfl, rfl, rfl, by decide +kernel, rfl, by decide +kernel, by decide +kernel⟩
abbrev S_has_ended : Stmt := topS 76
abbrev N_has_ended : List Str := ["crumb", "tick"]
theorem sc_has_ended : FnScope N_has_ended ["crumb", "tick"] (defScope S_has_ended) := ⟨rfl, rfl, rfl, by decide +kernel, rfl, by decide +kernel, by decide +kernel⟩
abbrev S_rank_of : Stmt := topS 78
abbrev N_rank_of : List Str := ["crumb"]
theorem sc_rank_of : FnScope N_rank_of ["crumb"] (defScope S_rank_of) := ⟨rfl, rfl, rfl, by decide +kernel, rfl, by decide +kernel, by decide +kernel⟩
abbrev S_group_of : Stmt := topS 79
abbrev N_group_of : List Str := ["rules", "crumb"]
theorem sc_group_of : FnScope N_group_of ["rules", "crumb"] (defScope S_group_of) := ⟨rfl, rfl, rfl, by decide +kernel, rfl, by decide +kernel, by decide +kernel⟩
abbrev S_swept : Stmt := topS 80
abbrev N_swept : List Str := ["crumbs", "tick", "left", "ended", "crumb", "ends", "key"]
theorem sc_swept : FnScope N_swept ["crumbs", "tick"] (defScope S_swept) := ⟨rfl, rfl, rfl, by decide +kernel, rfl, by decide +kernel, by decide +kernel⟩
abbrev S_goes : Stmt := topS 81
abbrev N_goes : List Str := ["rules", "crumbs", "key", "most_of_family", "most", "added", "group", "crumb"]
theorem sc_goes : FnScope N_goes ["rules", "crumbs", "key", "most_of_family", "most"] (defScope S_goes) := ⟨rfl, rfl, rfl, by decide +kernel, rfl, by decide +kernel, by decide +kernel⟩
abbrev S__law_mixed : Stmt := topS 83
abbrev N__law_mixed : List Str := ["_law_cell", "_law_k", "_law_stirred"]
theorem sc__law_mixed : FnScope N__law_mixed ["_law_cell", "_law_k"] (defScope S__law_mixed) := ⟨rfl, rfl, rfl, by decide +kernel, rfl, by decide +kernel, by decide +kernel⟩
abbrev S__law_draw : Stmt := topS 84
abbrev N__law_draw : List Str := ["_law_cell", "_law_k"]
theorem sc__law_draw : FnScope N__law_draw ["_law_cell", "_law_k"] (defScope S__law_draw) := ⟨rfl, rfl, rfl, by decide +kernel, rfl, by decide +kernel, by decide +kernel⟩
abbrev S__law_digit : Stmt := topS 85
abbrev N__law_digit : List Str := ["_law_state", "_law_size", "_law_j", "_law_found"]
theorem sc__law_digit : FnScope N__law_digit ["_law_state", "_law_size"] (defScope S__law_digit) := ⟨rfl, rfl, rfl, by decide +kernel, rfl, by decide +kernel, by decide +kernel⟩
abbrev S__law_crumb : Stmt := topS 86
abbrev N__law_crumb : List Str := ["_law_state", "_law_at", "_law_host", "_law_where", "_law_birth", "_law_met", "_law_finish", "_law_level", "_law_mark", "_law_name"]
theorem sc__law_crumb : FnScope N__law_crumb ["_law_state", "_law_at"] (defScope S__law_crumb) := ⟨rfl, rfl, rfl, by decide +kernel, rfl, by decide +kernel, by decide +kernel⟩
abbrev S__law_some_crumbs : Stmt := topS 87
abbrev N__law_some_crumbs : List Str := ["_law_state", "_law_many", "_law_first", "_law_k"]
theorem sc__law_some_crumbs : FnScope N__law_some_crumbs ["_law_state", "_law_many"] (defScope S__law_some_crumbs) := ⟨rfl, rfl, rfl, by decide +kernel, rfl, by decide +kernel, by decide +kernel⟩
abbrev S__law_name_of : Stmt := topS 88
abbrev N__law_name_of : List Str := ["_law_host"]
theorem sc__law_name_of : FnScope N__law_name_of ["_law_host"] (defScope S__law_name_of) := ⟨rfl, rfl, rfl, by decide +kernel, rfl, by decide +kernel, by decide +kernel⟩
abbrev S__law_out : Stmt := topS 89
abbrev N__law_out : List Str := ["_law_some", "_law_key", "_law_limits", "_law_hosts", "_law_mine", "_law_rows", "_law_ranks", "_law_one"]
theorem sc__law_out : FnScope N__law_out ["_law_some", "_law_key", "_law_limits"] (defScope S__law_out) := ⟨rfl, rfl, rfl, by decide +kernel, rfl, by decide +kernel, by decide +kernel⟩
abbrev S__law_swept_right : Stmt := topS 90
abbrev N__law_swept_right : List Str := ["_law_some", "_law_moment", "_law_left", "_law_ended", "_law_found", "_law_due", "_law_one", "_law_finish", "_law_key"]
theorem sc__law_swept_right : FnScope N__law_swept_right ["_law_some", "_law_moment"] (defScope S__law_swept_right) := ⟨rfl, rfl, rfl, by decide +kernel, rfl, by decide +kernel, by decide +kernel⟩
abbrev S__law_cell_right : Stmt := topS 91
abbrev N__law_cell_right : List Str := ["_law_cell", "_law_state", "_law_some", "_law_limits", "_law_one", "_law_found", "_law_moment"]
theorem sc__law_cell_right : FnScope N__law_cell_right ["_law_cell"] (defScope S__law_cell_right) := ⟨rfl, rfl, rfl, by decide +kernel, rfl, by decide +kernel, by decide +kernel⟩
abbrev S_law : Stmt := topS 92
abbrev N_law : List Str := ["_law_script", "_law_division", "_law_one", "_law_other", "_law_cell"]
theorem sc_law : FnScope N_law ["_law_script"] (defScope S_law) := ⟨rfl, rfl, rfl, by decide +kernel, rfl, by decide +kernel, by decide +kernel⟩
def cs_SMALL : Str := ⟨#[97, 98, 99, 100, 101, 102, 103, 104, 105, 106, 107, 108, 109, 110, 111, 112, 113, 114, 115, 116, 117, 118, 119, 120, 121, 122]⟩
def lc_SMALL : List Nat := [97, 98, 99, 100, 101, 102, 103, 104, 105, 106, 107, 108, 109, 110, 111, 112, 113, 114, 115, 116, 117, 118, 119, 120, 121, 122]
theorem cS_SMALL : cs_SMALL = S lc_SMALL := rfl
instance : LitS cs_SMALL lc_SMALL := ⟨rfl⟩
def cs_GREAT : Str := ⟨#[65, 66, 67, 68, 69, 70, 71, 72, 73, 74, 75, 76, 77, 78, 79, 80, 81, 82, 83, 84, 85, 86, 87, 88, 89, 90]⟩
def lc_GREAT : List Nat := [65, 66, 67, 68, 69, 70, 71, 72, 73, 74, 75, 76, 77, 78, 79, 80, 81, 82, 83, 84, 85, 86, 87, 88, 89, 90]
theorem cS_GREAT : cs_GREAT = S lc_GREAT := rfl
instance : LitS cs_GREAT lc_GREAT := ⟨rfl⟩
def cs_DIGITS : Str := ⟨#[48, 49, 50, 51, 52, 53, 54, 55, 56, 57]⟩
def lc_DIGITS : List Nat := [48, 49, 50, 51, 52, 53, 54, 55, 56, 57]
instance : LitS cs_DIGITS lc_DIGITS := ⟨rfl⟩
def cs_LABEL_SIGNS : Str := ⟨#[97, 98, 99, 100, 101, 102, 103, 104, 105, 106, 107, 108, 109, 110, 111, 112, 113, 114, 115, 116, 117, 118, 119, 120, 121, 122, 48, 49, 50, 51, 52, 53, 54, 55, 56, 57, 45]⟩
def lc_LABEL_SIGNS : List Nat := [97, 98, 99, 100, 101, 102, 103, 104, 105, 106, 107, 108, 109, 110, 111, 112, 113, 114, 115, 116, 117, 118, 119, 120, 121, 122, 48, 49, 50, 51, 52, 53, 54, 55, 56, 57, 45]
instance : LitS cs_LABEL_SIGNS lc_LABEL_SIGNS := ⟨rfl⟩
def cs_PATH_SIGNS : Str := ⟨#[97, 98, 99, 100, 101, 102, 103, 104, 105, 106, 107, 108, 109, 110, 111, 112, 113, 114, 115, 116, 117, 118, 119, 120, 121, 122, 65, 66, 67, 68, 69, 70, 71, 72, 73, 74, 75, 76, 77, 78, 79, 80, 81, 82, 83, 84, 85, 86, 87, 88, 89, 90, 48, 49, 50, 51, 52, 53, 54, 55, 56, 57, 33, 34, 36, 38, 39, 40, 41, 42, 43, 44, 45, 46, 47, 58, 60, 61, 62, 64, 91, 92, 93, 94, 95, 96, 123, 124, 125, 126]⟩
def lc_PATH_SIGNS : List Nat := [97, 98, 99, 100, 101, 102, 103, 104, 105, 106, 107, 108, 109, 110, 111, 112, 113, 114, 115, 116, 117, 118, 119, 120, 121, 122, 65, 66, 67, 68, 69, 70, 71, 72, 73, 74, 75, 76, 77, 78, 79, 80, 81, 82, 83, 84, 85, 86, 87, 88, 89, 90, 48, 49, 50, 51, 52, 53, 54, 55, 56, 57, 33, 34, 36, 38, 39, 40, 41, 42, 43, 44, 45, 46, 47, 58, 60, 61, 62, 64, 91, 92, 93, 94, 95, 96, 123, 124, 125, 126]
instance : LitS cs_PATH_SIGNS lc_PATH_SIGNS := ⟨rfl⟩
def cs_BLANKS : Str := ⟨#[32, 9]⟩
def lc_BLANKS : List Nat := [32, 9]
instance : LitS cs_BLANKS lc_BLANKS := ⟨rfl⟩
theorem lith_ : ("" : Str) = S [] := by decide +kernel
instance : LitS "" [] := ⟨lith_⟩
theorem lit_0 : ("0" : Str) = S [48] := by decide +kernel
instance : LitS "0" [48] := ⟨lit_0⟩
theorem lith_2d : ("-" : Str) = S [45] := by decide +kernel
instance : LitS "-" [45] := ⟨lith_2d⟩
theorem lith_2e : ("." : Str) = S [46] := by decide +kernel
instance : LitS "." [46] := ⟨lith_2e⟩
theorem lith_2f : ("/" : Str) = S [47] := by decide +kernel
instance : LitS "/" [47] := ⟨lith_2f⟩
theorem lit_https : ("https" : Str) = S [104, 116, 116, 112, 115] := by decide +kernel
instance : LitS "https" [104, 116, 116, 112, 115] := ⟨lit_https⟩
theorem lit_localhost : ("localhost" : Str) = S [108, 111, 99, 97, 108, 104, 111, 115, 116] := by decide +kernel
instance : LitS "localhost" [108, 111, 99, 97, 108, 104, 111, 115, 116] := ⟨lit_localhost⟩
theorem litm_550572946f : (".localhost" : Str) = S [46, 108, 111, 99, 97, 108, 104, 111, 115, 116] := by decide +kernel
instance : LitS ".localhost" [46, 108, 111, 99, 97, 108, 104, 111, 115, 116] := ⟨litm_550572946f⟩
theorem lith_20 : (" " : Str) = S [32] := by decide +kernel
instance : LitS " " [32] := ⟨lith_20⟩
theorem lith_09 : ("\t" : Str) = S [9] := by decide +kernel
instance : LitS "\t" [9] := ⟨lith_09⟩
theorem lith_3b : (";" : Str) = S [59] := by decide +kernel
instance : LitS ";" [59] := ⟨lith_3b⟩
theorem lit_name : ("name" : Str) = S [110, 97, 109, 101] := by decide +kernel
instance : LitS "name" [110, 97, 109, 101] := ⟨lit_name⟩
theorem lit_value : ("value" : Str) = S [118, 97, 108, 117, 101] := by decide +kernel
instance : LitS "value" [118, 97, 108, 117, 101] := ⟨lit_value⟩
theorem lit_expires : ("expires" : Str) = S [101, 120, 112, 105, 114, 101, 115] := by decide +kernel
instance : LitS "expires" [101, 120, 112, 105, 114, 101, 115] := ⟨lit_expires⟩
theorem lit_age : ("age" : Str) = S [97, 103, 101] := by decide +kernel
instance : LitS "age" [97, 103, 101] := ⟨lit_age⟩
theorem lit_domain : ("domain" : Str) = S [100, 111, 109, 97, 105, 110] := by decide +kernel
instance : LitS "domain" [100, 111, 109, 97, 105, 110] := ⟨lit_domain⟩
theorem lit_path : ("path" : Str) = S [112, 97, 116, 104] := by decide +kernel
instance : LitS "path" [112, 97, 116, 104] := ⟨lit_path⟩
theorem litm_f61bb9094d : ("is_secure" : Str) = S [105, 115, 95, 115, 101, 99, 117, 114, 101] := by decide +kernel
instance : LitS "is_secure" [105, 115, 95, 115, 101, 99, 117, 114, 101] := ⟨litm_f61bb9094d⟩
theorem litm_105c5ce92c : ("is_hidden" : Str) = S [105, 115, 95, 104, 105, 100, 100, 101, 110] := by decide +kernel
instance : LitS "is_hidden" [105, 115, 95, 104, 105, 100, 100, 101, 110] := ⟨litm_105c5ce92c⟩
theorem lit_same : ("same" : Str) = S [115, 97, 109, 101] := by decide +kernel
instance : LitS "same" [115, 97, 109, 101] := ⟨lit_same⟩
theorem litm_f44dae9e49 : ("is_partitioned" : Str) = S [105, 115, 95, 112, 97, 114, 116, 105, 116, 105, 111, 110, 101, 100] := by decide +kernel
instance : LitS "is_partitioned" [105, 115, 95, 112, 97, 114, 116, 105, 116, 105, 111, 110, 101, 100] := ⟨litm_f44dae9e49⟩
theorem lit_priority : ("priority" : Str) = S [112, 114, 105, 111, 114, 105, 116, 121] := by decide +kernel
instance : LitS "priority" [112, 114, 105, 111, 114, 105, 116, 121] := ⟨lit_priority⟩
theorem lith_3d3b : ("=;" : Str) = S [61, 59] := by decide +kernel
instance : LitS "=;" [61, 59] := ⟨lith_3d3b⟩
theorem lith_21 : ("!" : Str) = S [33] := by decide +kernel
instance : LitS "!" [33] := ⟨lith_21⟩
theorem lith_2a : ("*" : Str) = S [42] := by decide +kernel
instance : LitS "*" [42] := ⟨lith_2a⟩
theorem lit_none : ("none" : Str) = S [110, 111, 110, 101] := by decide +kernel
instance : LitS "none" [110, 111, 110, 101] := ⟨lit_none⟩
theorem lit_host : ("host" : Str) = S [104, 111, 115, 116] := by decide +kernel
instance : LitS "host" [104, 111, 115, 116] := ⟨lit_host⟩
theorem litm_1ab40400b5 : ("is_exact" : Str) = S [105, 115, 95, 101, 120, 97, 99, 116] := by decide +kernel
instance : LitS "is_exact" [105, 115, 95, 101, 120, 97, 99, 116] := ⟨litm_1ab40400b5⟩
theorem lith_5f5f686f73742d : ("__host-" : Str) = S [95, 95, 104, 111, 115, 116, 45] := by decide +kernel
instance : LitS "__host-" [95, 95, 104, 111, 115, 116, 45] := ⟨lith_5f5f686f73742d⟩
theorem lit_born : ("born" : Str) = S [98, 111, 114, 110] := by decide +kernel
instance : LitS "born" [98, 111, 114, 110] := ⟨lit_born⟩
theorem lit_seen : ("seen" : Str) = S [115, 101, 101, 110] := by decide +kernel
instance : LitS "seen" [115, 101, 101, 110] := ⟨lit_seen⟩
theorem lit_ends : ("ends" : Str) = S [101, 110, 100, 115] := by decide +kernel
instance : LitS "ends" [101, 110, 100, 115] := ⟨lit_ends⟩
theorem lit_space : ("space" : Str) = S [115, 112, 97, 99, 101] := by decide +kernel
instance : LitS "space" [115, 112, 97, 99, 101] := ⟨lit_space⟩
theorem lit_default : ("default" : Str) = S [100, 101, 102, 97, 117, 108, 116] := by decide +kernel
instance : LitS "default" [100, 101, 102, 97, 117, 108, 116] := ⟨lit_default⟩
theorem lit_crumb : ("crumb" : Str) = S [99, 114, 117, 109, 98] := by decide +kernel
instance : LitS "crumb" [99, 114, 117, 109, 98] := ⟨lit_crumb⟩
theorem lit_left : ("left" : Str) = S [108, 101, 102, 116] := by decide +kernel
instance : LitS "left" [108, 101, 102, 116] := ⟨lit_left⟩
theorem lit_cell : ("cell" : Str) = S [99, 101, 108, 108] := by decide +kernel
instance : LitS "cell" [99, 101, 108, 108] := ⟨lit_cell⟩
theorem lit_turns : ("turns" : Str) = S [116, 117, 114, 110, 115] := by decide +kernel
instance : LitS "turns" [116, 117, 114, 110, 115] := ⟨lit_turns⟩
theorem lit_abc : ("abc" : Str) = S [97, 98, 99] := by decide +kernel
instance : LitS "abc" [97, 98, 99] := ⟨lit_abc⟩
theorem lit_v : ("v" : Str) = S [118] := by decide +kernel
instance : LitS "v" [118] := ⟨lit_v⟩
theorem lith_612e636f6d : ("a.com" : Str) = S [97, 46, 99, 111, 109] := by decide +kernel
instance : LitS "a.com" [97, 46, 99, 111, 109] := ⟨lith_612e636f6d⟩
theorem litm_30f4a7bbef : ("www.a.com" : Str) = S [119, 119, 119, 46, 97, 46, 99, 111, 109] := by decide +kernel
instance : LitS "www.a.com" [119, 119, 119, 46, 97, 46, 99, 111, 109] := ⟨litm_30f4a7bbef⟩
theorem lith_622e6f7267 : ("b.org" : Str) = S [98, 46, 111, 114, 103] := by decide +kernel
instance : LitS "b.org" [98, 46, 111, 114, 103] := ⟨lith_622e6f7267⟩
theorem lith_2f78 : ("/x" : Str) = S [47, 120] := by decide +kernel
instance : LitS "/x" [47, 120] := ⟨lith_2f78⟩
theorem lit_com : ("com" : Str) = S [99, 111, 109] := by decide +kernel
instance : LitS "com" [99, 111, 109] := ⟨lit_com⟩
theorem lit_org : ("org" : Str) = S [111, 114, 103] := by decide +kernel
instance : LitS "org" [111, 114, 103] := ⟨lit_org⟩
theorem lit_n : ("n" : Str) = S [110] := by decide +kernel
instance : LitS "n" [110] := ⟨lit_n⟩
theorem lith_632e6e6574 : ("c.net" : Str) = S [99, 46, 110, 101, 116] := by decide +kernel
instance : LitS "c.net" [99, 46, 110, 101, 116] := ⟨lith_632e6e6574⟩
def cv_SCHEMES : List V := [.str ⟨#[104, 116, 116, 112]⟩, .str ⟨#[104, 116, 116, 112, 115]⟩]
def lcv_SCHEMES : List (List Nat) := [[104, 116, 116, 112], [104, 116, 116, 112, 115]]
def cv_SAMES_pieces : List V := [.str ⟨#[115, 116, 114, 105, 99, 116]⟩, .str ⟨#[108, 97, 120]⟩, .str ⟨#[110, 111, 110, 101]⟩]
def lcv_SAMES_pieces : List (List Nat) := [[115, 116, 114, 105, 99, 116], [108, 97, 120], [110, 111, 110, 101]]
def cv_SAMES_crumbs : List V := [.str ⟨#[115, 116, 114, 105, 99, 116]⟩, .str ⟨#[108, 97, 120]⟩, .str ⟨#[110, 111, 110, 101]⟩, .str ⟨#[100, 101, 102, 97, 117, 108, 116]⟩]
def lcv_SAMES_crumbs : List (List Nat) := [[115, 116, 114, 105, 99, 116], [108, 97, 120], [110, 111, 110, 101], [100, 101, 102, 97, 117, 108, 116]]
def cv_PREFIXES : List V := [.str ⟨#[95, 95, 115, 101, 99, 117, 114, 101, 45]⟩, .str ⟨#[95, 95, 104, 111, 115, 116, 45]⟩]
def lcv_PREFIXES : List (List Nat) := [[95, 95, 115, 101, 99, 117, 114, 101, 45], [95, 95, 104, 111, 115, 116, 45]]
abbrev kws_Line_init : List (Str × V) := [("expires", .non), ("age", .non), ("domain", .non), ("path", .non), ("is_secure", .bl false), ("is_hidden", .bl false), ("same", .non), ("is_partitioned", .bl false), ("priority", .non)]
abbrev kws_Crumb_init (ka_born : Addr) : List (Str × V) := [("is_exact", .bl true), ("path", .str (S [47])), ("is_secure", .bl false), ("is_hidden", .bl false), ("same", .str (S [100, 101, 102, 97, 117, 108, 116])), ("priority", .int (1)), ("space", .non), ("born", .ref ka_born), ("seen", .int (0)), ("ends", .non)]
set_option genInjectivity false in
set_option genSizeOf false in
set_option genSizeOfSpec false in
structure Txt (K : PySem.W.Frag) (mg : Str → Option Value) (w : World) where
  f_is_integer : Addr
  d_is_integer : FuncData
  F_is_integer : Fun K "is_integer" "is_integer" S_is_integer f_is_integer d_is_integer
  g_is_integer : mg "is_integer" = some (.ref f_is_integer)
  f_is_tick : Addr
  d_is_tick : FuncData
  F_is_tick : Fun K "is_tick" "is_tick" S_is_tick f_is_tick d_is_tick
  g_is_tick : mg "is_tick" = some (.ref f_is_tick)
  f_need_tick : Addr
  d_need_tick : FuncData
  F_need_tick : Fun K "need_tick" "need_tick" S_need_tick f_need_tick d_need_tick
  g_need_tick : mg "need_tick" = some (.ref f_need_tick)
  f_small_text : Addr
  d_small_text : FuncData
  F_small_text : Fun K "small_text" "small_text" S_small_text f_small_text d_small_text
  g_small_text : mg "small_text" = some (.ref f_small_text)
  f_s1_is_number_word : Addr
  d_s1_is_number_word : FuncData
  F_s1_is_number_word : Fun K "s1_is_number_word" "s1_is_number_word" S_s1_is_number_word f_s1_is_number_word d_s1_is_number_word
  g_s1_is_number_word : mg "s1_is_number_word" = some (.ref f_s1_is_number_word)
  f_s1_is_small : Addr
  d_s1_is_small : FuncData
  F_s1_is_small : Fun K "s1_is_small" "s1_is_small" S_s1_is_small f_s1_is_small d_s1_is_small
  g_s1_is_small : mg "s1_is_small" = some (.ref f_s1_is_small)
  f_s1_is_label : Addr
  d_s1_is_label : FuncData
  F_s1_is_label : Fun K "s1_is_label" "s1_is_label" S_s1_is_label f_s1_is_label d_s1_is_label
  g_s1_is_label : mg "s1_is_label" = some (.ref f_s1_is_label)
  f_is_address_host : Addr
  d_is_address_host : FuncData
  F_is_address_host : Fun K "is_address_host" "is_address_host" S_is_address_host f_is_address_host d_is_address_host
  g_is_address_host : mg "is_address_host" = some (.ref f_is_address_host)
  f_is_host : Addr
  d_is_host : FuncData
  F_is_host : Fun K "is_host" "is_host" S_is_host f_is_host d_is_host
  g_is_host : mg "is_host" = some (.ref f_is_host)
  f_s1_may_become_address : Addr
  d_s1_may_become_address : FuncData
  F_s1_may_become_address : Fun K "s1_may_become_address" "s1_may_become_address" S_s1_may_become_address f_s1_may_become_address d_s1_may_become_address
  g_s1_may_become_address : mg "s1_may_become_address" = some (.ref f_s1_may_become_address)
  f_s1_begins : Addr
  d_s1_begins : FuncData
  F_s1_begins : Fun K "s1_begins" "s1_begins" S_s1_begins f_s1_begins d_s1_begins
  g_s1_begins : mg "s1_begins" = some (.ref f_s1_begins)
  f_s1_place : Addr
  d_s1_place : FuncData
  F_s1_place : Fun K "s1_place" "s1_place" S_s1_place f_s1_place d_s1_place
  g_s1_place : mg "s1_place" = some (.ref f_s1_place)
  f_need_host : Addr
  d_need_host : FuncData
  F_need_host : Fun K "need_host" "need_host" S_need_host f_need_host d_need_host
  g_need_host : mg "need_host" = some (.ref f_need_host)
  f_s1_fits : Addr
  d_s1_fits : FuncData
  F_s1_fits : Fun K "s1_fits" "s1_fits" S_s1_fits f_s1_fits d_s1_fits
  g_s1_fits : mg "s1_fits" = some (.ref f_s1_fits)
  f_s1_is_path_sign : Addr
  d_s1_is_path_sign : FuncData
  F_s1_is_path_sign : Fun K "s1_is_path_sign" "s1_is_path_sign" S_s1_is_path_sign f_s1_is_path_sign d_s1_is_path_sign
  g_s1_is_path_sign : mg "s1_is_path_sign" = some (.ref f_s1_is_path_sign)
  f_is_path : Addr
  d_is_path : FuncData
  F_is_path : Fun K "is_path" "is_path" S_is_path f_is_path d_is_path
  g_is_path : mg "is_path" = some (.ref f_is_path)
  f_is_origin : Addr
  d_is_origin : FuncData
  F_is_origin : Fun K "is_origin" "is_origin" S_is_origin f_is_origin d_is_origin
  g_is_origin : mg "is_origin" = some (.ref f_is_origin)
  f_s1_is_safe : Addr
  d_s1_is_safe : FuncData
  F_s1_is_safe : Fun K "s1_is_safe" "s1_is_safe" S_s1_is_safe f_s1_is_safe d_s1_is_safe
  g_s1_is_safe : mg "s1_is_safe" = some (.ref f_s1_is_safe)
  f_s2_has_control : Addr
  d_s2_has_control : FuncData
  F_s2_has_control : Fun K "s2_has_control" "s2_has_control" S_s2_has_control f_s2_has_control d_s2_has_control
  g_s2_has_control : mg "s2_has_control" = some (.ref f_s2_has_control)
  f_s2_is_kept : Addr
  d_s2_is_kept : FuncData
  F_s2_is_kept : Fun K "s2_is_kept" "s2_is_kept" S_s2_is_kept f_s2_is_kept d_s2_is_kept
  g_s2_is_kept : mg "s2_is_kept" = some (.ref f_s2_is_kept)
  f_s2_is_value : Addr
  d_s2_is_value : FuncData
  F_s2_is_value : Fun K "s2_is_value" "s2_is_value" S_s2_is_value f_s2_is_value d_s2_is_value
  g_s2_is_value : mg "s2_is_value" = some (.ref f_s2_is_value)
  f_s2_is_age : Addr
  d_s2_is_age : FuncData
  F_s2_is_age : Fun K "s2_is_age" "s2_is_age" S_s2_is_age f_s2_is_age d_s2_is_age
  g_s2_is_age : mg "s2_is_age" = some (.ref f_s2_is_age)
  f_s2_is_same : Addr
  d_s2_is_same : FuncData
  F_s2_is_same : Fun K "s2_is_same" "s2_is_same" S_s2_is_same f_s2_is_same d_s2_is_same
  g_s2_is_same : mg "s2_is_same" = some (.ref f_s2_is_same)
  f_s2_is_priority : Addr
  d_s2_is_priority : FuncData
  F_s2_is_priority : Fun K "s2_is_priority" "s2_is_priority" S_s2_is_priority f_s2_is_priority d_s2_is_priority
  g_s2_is_priority : mg "s2_is_priority" = some (.ref f_s2_is_priority)
  f_s2_need : Addr
  d_s2_need : FuncData
  F_s2_need : Fun K "s2_need" "s2_need" S_s2_need f_s2_need d_s2_need
  g_s2_need : mg "s2_need" = some (.ref f_s2_need)
  f_Line_init : Addr
  d_Line_init : FuncData
  F_Line_init : Fun K "__init__" "Line.__init__" S_Line_init f_Line_init d_Line_init
  D_Line_init : FunD K "__init__" "Line.__init__" (defArgs S_Line_init) (defBody S_Line_init) (defScope S_Line_init) [] (kws_Line_init) f_Line_init d_Line_init
  f_s1_is_rule : Addr
  d_s1_is_rule : FuncData
  F_s1_is_rule : Fun K "s1_is_rule" "s1_is_rule" S_s1_is_rule f_s1_is_rule d_s1_is_rule
  g_s1_is_rule : mg "s1_is_rule" = some (.ref f_s1_is_rule)
  f_need_rules : Addr
  d_need_rules : FuncData
  F_need_rules : Fun K "need_rules" "need_rules" S_need_rules f_need_rules d_need_rules
  g_need_rules : mg "need_rules" = some (.ref f_need_rules)
  f_s1_matching : Addr
  d_s1_matching : FuncData
  F_s1_matching : Fun K "s1_matching" "s1_matching" S_s1_matching f_s1_matching d_s1_matching
  g_s1_matching : mg "s1_matching" = some (.ref f_s1_matching)
  f_s1_suffix : Addr
  d_s1_suffix : FuncData
  F_s1_suffix : Fun K "s1_suffix" "s1_suffix" S_s1_suffix f_s1_suffix d_s1_suffix
  g_s1_suffix : mg "s1_suffix" = some (.ref f_s1_suffix)
  f_s1_family : Addr
  d_s1_family : FuncData
  F_s1_family : Fun K "s1_family" "s1_family" S_s1_family f_s1_family d_s1_family
  g_s1_family : mg "s1_family" = some (.ref f_s1_family)
  f_need_both : Addr
  d_need_both : FuncData
  F_need_both : Fun K "need_both" "need_both" S_need_both f_need_both d_need_both
  g_need_both : mg "need_both" = some (.ref f_need_both)
  f_family_of : Addr
  d_family_of : FuncData
  F_family_of : Fun K "family_of" "family_of" S_family_of f_family_of d_family_of
  g_family_of : mg "family_of" = some (.ref f_family_of)
  f_s3_prefix : Addr
  d_s3_prefix : FuncData
  F_s3_prefix : Fun K "s3_prefix" "s3_prefix" S_s3_prefix f_s3_prefix d_s3_prefix
  g_s3_prefix : mg "s3_prefix" = some (.ref f_s3_prefix)
  f_s3_wrong_text : Addr
  d_s3_wrong_text : FuncData
  F_s3_wrong_text : Fun K "s3_wrong_text" "s3_wrong_text" S_s3_wrong_text f_s3_wrong_text d_s3_wrong_text
  g_s3_wrong_text : mg "s3_wrong_text" = some (.ref f_s3_wrong_text)
  f_s3_is_born : Addr
  d_s3_is_born : FuncData
  F_s3_is_born : Fun K "s3_is_born" "s3_is_born" S_s3_is_born f_s3_is_born d_s3_is_born
  g_s3_is_born : mg "s3_is_born" = some (.ref f_s3_is_born)
  f_s3_is_space : Addr
  d_s3_is_space : FuncData
  F_s3_is_space : Fun K "s3_is_space" "s3_is_space" S_s3_is_space f_s3_is_space d_s3_is_space
  g_s3_is_space : mg "s3_is_space" = some (.ref f_s3_is_space)
  f_s3_can_live : Addr
  d_s3_can_live : FuncData
  F_s3_can_live : Fun K "s3_can_live" "s3_can_live" S_s3_can_live f_s3_can_live d_s3_can_live
  g_s3_can_live : mg "s3_can_live" = some (.ref f_s3_can_live)
  f_s3_wrong_place : Addr
  d_s3_wrong_place : FuncData
  F_s3_wrong_place : Fun K "s3_wrong_place" "s3_wrong_place" S_s3_wrong_place f_s3_wrong_place d_s3_wrong_place
  g_s3_wrong_place : mg "s3_wrong_place" = some (.ref f_s3_wrong_place)
  f_s3_wrong_time : Addr
  d_s3_wrong_time : FuncData
  F_s3_wrong_time : Fun K "s3_wrong_time" "s3_wrong_time" S_s3_wrong_time f_s3_wrong_time d_s3_wrong_time
  g_s3_wrong_time : mg "s3_wrong_time" = some (.ref f_s3_wrong_time)
  f_s3_wrong_field : Addr
  d_s3_wrong_field : FuncData
  F_s3_wrong_field : Fun K "s3_wrong_field" "s3_wrong_field" S_s3_wrong_field f_s3_wrong_field d_s3_wrong_field
  g_s3_wrong_field : mg "s3_wrong_field" = some (.ref f_s3_wrong_field)
  f_Crumb_init : Addr
  d_Crumb_init : FuncData
  F_Crumb_init : Fun K "__init__" "Crumb.__init__" S_Crumb_init f_Crumb_init d_Crumb_init
  ka_Crumb_init_born : Addr
  kt_Crumb_init_born : ∀ H, SqT K H ka_Crumb_init_born [V.int (0), V.int (0)]
  D_Crumb_init : FunD K "__init__" "Crumb.__init__" (defArgs S_Crumb_init) (defBody S_Crumb_init) (defScope S_Crumb_init) [] (kws_Crumb_init ka_Crumb_init_born) f_Crumb_init d_Crumb_init
  f_Crumb_name : Addr
  d_Crumb_name : FuncData
  F_Crumb_name : Fun K "name" "Crumb.name" S_Crumb_name f_Crumb_name d_Crumb_name
  f_Crumb_host : Addr
  d_Crumb_host : FuncData
  F_Crumb_host : Fun K "host" "Crumb.host" S_Crumb_host f_Crumb_host d_Crumb_host
  f_Crumb_is_exact : Addr
  d_Crumb_is_exact : FuncData
  F_Crumb_is_exact : Fun K "is_exact" "Crumb.is_exact" S_Crumb_is_exact f_Crumb_is_exact d_Crumb_is_exact
  f_Crumb_path : Addr
  d_Crumb_path : FuncData
  F_Crumb_path : Fun K "path" "Crumb.path" S_Crumb_path f_Crumb_path d_Crumb_path
  f_Crumb_is_secure : Addr
  d_Crumb_is_secure : FuncData
  F_Crumb_is_secure : Fun K "is_secure" "Crumb.is_secure" S_Crumb_is_secure f_Crumb_is_secure d_Crumb_is_secure
  f_Crumb_priority : Addr
  d_Crumb_priority : FuncData
  F_Crumb_priority : Fun K "priority" "Crumb.priority" S_Crumb_priority f_Crumb_priority d_Crumb_priority
  f_Crumb_space : Addr
  d_Crumb_space : FuncData
  F_Crumb_space : Fun K "space" "Crumb.space" S_Crumb_space f_Crumb_space d_Crumb_space
  f_Crumb_seen : Addr
  d_Crumb_seen : FuncData
  F_Crumb_seen : Fun K "seen" "Crumb.seen" S_Crumb_seen f_Crumb_seen d_Crumb_seen
  f_Crumb_ends : Addr
  d_Crumb_ends : FuncData
  F_Crumb_ends : Fun K "ends" "Crumb.ends" S_Crumb_ends f_Crumb_ends d_Crumb_ends
  f_Crumb_key : Addr
  d_Crumb_key : FuncData
  F_Crumb_key : Fun K "key" "Crumb.key" S_Crumb_key f_Crumb_key d_Crumb_key
  f_need_crumb : Addr
  d_need_crumb : FuncData
  F_need_crumb : Fun K "need_crumb" "need_crumb" S_need_crumb f_need_crumb d_need_crumb
  g_need_crumb : mg "need_crumb" = some (.ref f_need_crumb)
  f_s3_has_ended : Addr
  d_s3_has_ended : FuncData
  F_s3_has_ended : Fun K "s3_has_ended" "s3_has_ended" S_s3_has_ended f_s3_has_ended d_s3_has_ended
  g_s3_has_ended : mg "s3_has_ended" = some (.ref f_s3_has_ended)
  f_has_ended : Addr
  d_has_ended : FuncData
  F_has_ended : Fun K "has_ended" "has_ended" S_has_ended f_has_ended d_has_ended
  g_has_ended : mg "has_ended" = some (.ref f_has_ended)
  f_rank_of : Addr
  d_rank_of : FuncData
  F_rank_of : Fun K "rank_of" "rank_of" S_rank_of f_rank_of d_rank_of
  g_rank_of : mg "rank_of" = some (.ref f_rank_of)
  f_group_of : Addr
  d_group_of : FuncData
  F_group_of : Fun K "group_of" "group_of" S_group_of f_group_of d_group_of
  g_group_of : mg "group_of" = some (.ref f_group_of)
  f_swept : Addr
  d_swept : FuncData
  F_swept : Fun K "swept" "swept" S_swept f_swept d_swept
  g_swept : mg "swept" = some (.ref f_swept)
  f_goes : Addr
  d_goes : FuncData
  F_goes : Fun K "goes" "goes" S_goes f_goes d_goes
  g_goes : mg "goes" = some (.ref f_goes)
  f__law_mixed : Addr
  d__law_mixed : FuncData
  F__law_mixed : Fun K "_law_mixed" "_law_mixed" S__law_mixed f__law_mixed d__law_mixed
  g__law_mixed : mg "_law_mixed" = some (.ref f__law_mixed)
  f__law_draw : Addr
  d__law_draw : FuncData
  F__law_draw : Fun K "_law_draw" "_law_draw" S__law_draw f__law_draw d__law_draw
  g__law_draw : mg "_law_draw" = some (.ref f__law_draw)
  f__law_digit : Addr
  d__law_digit : FuncData
  F__law_digit : Fun K "_law_digit" "_law_digit" S__law_digit f__law_digit d__law_digit
  g__law_digit : mg "_law_digit" = some (.ref f__law_digit)
  f__law_crumb : Addr
  d__law_crumb : FuncData
  F__law_crumb : Fun K "_law_crumb" "_law_crumb" S__law_crumb f__law_crumb d__law_crumb
  g__law_crumb : mg "_law_crumb" = some (.ref f__law_crumb)
  f__law_some_crumbs : Addr
  d__law_some_crumbs : FuncData
  F__law_some_crumbs : Fun K "_law_some_crumbs" "_law_some_crumbs" S__law_some_crumbs f__law_some_crumbs d__law_some_crumbs
  g__law_some_crumbs : mg "_law_some_crumbs" = some (.ref f__law_some_crumbs)
  f__law_name_of : Addr
  d__law_name_of : FuncData
  F__law_name_of : Fun K "_law_name_of" "_law_name_of" S__law_name_of f__law_name_of d__law_name_of
  g__law_name_of : mg "_law_name_of" = some (.ref f__law_name_of)
  f__law_out : Addr
  d__law_out : FuncData
  F__law_out : Fun K "_law_out" "_law_out" S__law_out f__law_out d__law_out
  g__law_out : mg "_law_out" = some (.ref f__law_out)
  f__law_swept_right : Addr
  d__law_swept_right : FuncData
  F__law_swept_right : Fun K "_law_swept_right" "_law_swept_right" S__law_swept_right f__law_swept_right d__law_swept_right
  g__law_swept_right : mg "_law_swept_right" = some (.ref f__law_swept_right)
  f__law_cell_right : Addr
  d__law_cell_right : FuncData
  F__law_cell_right : Fun K "_law_cell_right" "_law_cell_right" S__law_cell_right f__law_cell_right d__law_cell_right
  g__law_cell_right : mg "_law_cell_right" = some (.ref f__law_cell_right)
  f_law : Addr
  d_law : FuncData
  F_law : Fun K "law" "law" S_law f_law d_law
  g_law : mg "law" = some (.ref f_law)
  c_LAST_TICK : ∃ t, mg "LAST_TICK" = some (.int (253402300799) t)
  c_SMALL : ∃ t, mg "SMALL" = some (.str cs_SMALL t)
  c_GREAT : ∃ t, mg "GREAT" = some (.str cs_GREAT t)
  c_DIGITS : ∃ t, mg "DIGITS" = some (.str cs_DIGITS t)
  c_MOST_SIGNS : ∃ t, mg "MOST_SIGNS" = some (.int (100) t)
  c_MOST_LABELS : ∃ t, mg "MOST_LABELS" = some (.int (10) t)
  c_MOST_LABEL : ∃ t, mg "MOST_LABEL" = some (.int (20) t)
  c_LABEL_SIGNS : ∃ t, mg "LABEL_SIGNS" = some (.str cs_LABEL_SIGNS t)
  c_MOST_PATH : ∃ t, mg "MOST_PATH" = some (.int (200) t)
  c_PATH_SIGNS : ∃ t, mg "PATH_SIGNS" = some (.str cs_PATH_SIGNS t)
  c_MOST_AGE_pieces : ∃ t, mg "MOST_AGE_pieces" = some (.int (34560000) t)
  c_BLANKS : ∃ t, mg "BLANKS" = some (.str cs_BLANKS t)
  c_MOST_LINE : ∃ t, mg "MOST_LINE" = some (.int (4096) t)
  c_MOST_RULES : ∃ t, mg "MOST_RULES" = some (.int (30) t)
  c_MOST_AGE_crumbs : ∃ t, mg "MOST_AGE_crumbs" = some (.int (34560000) t)
  a_SCHEMES : Addr
  q_SCHEMES : mg "SCHEMES" = some (.ref a_SCHEMES)
  s_SCHEMES : ∀ H, SqT K H a_SCHEMES cv_SCHEMES
  t_SCHEMES : ∀ H, tyV K "tuple" (.ref a_SCHEMES) H
  a_SAMES_pieces : Addr
  q_SAMES_pieces : mg "SAMES_pieces" = some (.ref a_SAMES_pieces)
  s_SAMES_pieces : ∀ H, SqT K H a_SAMES_pieces cv_SAMES_pieces
  t_SAMES_pieces : ∀ H, tyV K "tuple" (.ref a_SAMES_pieces) H
  a_SAMES_crumbs : Addr
  q_SAMES_crumbs : mg "SAMES_crumbs" = some (.ref a_SAMES_crumbs)
  s_SAMES_crumbs : ∀ H, SqT K H a_SAMES_crumbs cv_SAMES_crumbs
  t_SAMES_crumbs : ∀ H, tyV K "tuple" (.ref a_SAMES_crumbs) H
  a_PREFIXES : Addr
  q_PREFIXES : mg "PREFIXES" = some (.ref a_PREFIXES)
  s_PREFIXES : ∀ H, SqT K H a_PREFIXES cv_PREFIXES
  t_PREFIXES : ∀ H, tyV K "tuple" (.ref a_PREFIXES) H
  C_BadTick : Addr
  I_BadTick : Addr
  E_BadTick : ExS.ExcT PW K mg "BadTick" "BadTick.__init__" SI_BadTick C_BadTick I_BadTick "given"
  C_BadHost : Addr
  I_BadHost : Addr
  E_BadHost : ExS.ExcT PW K mg "BadHost" "BadHost.__init__" SI_BadHost C_BadHost I_BadHost "place"
  C_BadLine : Addr
  I_BadLine : Addr
  E_BadLine : ExS.ExcT PW K mg "BadLine" "BadLine.__init__" SI_BadLine C_BadLine I_BadLine "field"
  C_BadRules : Addr
  I_BadRules : Addr
  E_BadRules : ExS.ExcT PW K mg "BadRules" "BadRules.__init__" SI_BadRules C_BadRules I_BadRules "index"
  C_BadCrumb : Addr
  I_BadCrumb : Addr
  E_BadCrumb : ExS.ExcT PW K mg "BadCrumb" "BadCrumb.__init__" SI_BadCrumb C_BadCrumb I_BadCrumb "field"
  y_BadTick_BadHost : PySem.W.subIn K (.ref C_BadTick) (.ref C_BadHost) = some false
  y_BadTick_BadLine : PySem.W.subIn K (.ref C_BadTick) (.ref C_BadLine) = some false
  y_BadTick_BadRules : PySem.W.subIn K (.ref C_BadTick) (.ref C_BadRules) = some false
  y_BadTick_BadCrumb : PySem.W.subIn K (.ref C_BadTick) (.ref C_BadCrumb) = some false
  y_BadHost_BadTick : PySem.W.subIn K (.ref C_BadHost) (.ref C_BadTick) = some false
  y_BadHost_BadLine : PySem.W.subIn K (.ref C_BadHost) (.ref C_BadLine) = some false
  y_BadHost_BadRules : PySem.W.subIn K (.ref C_BadHost) (.ref C_BadRules) = some false
  y_BadHost_BadCrumb : PySem.W.subIn K (.ref C_BadHost) (.ref C_BadCrumb) = some false
  y_BadLine_BadTick : PySem.W.subIn K (.ref C_BadLine) (.ref C_BadTick) = some false
  y_BadLine_BadHost : PySem.W.subIn K (.ref C_BadLine) (.ref C_BadHost) = some false
  y_BadLine_BadRules : PySem.W.subIn K (.ref C_BadLine) (.ref C_BadRules) = some false
  y_BadLine_BadCrumb : PySem.W.subIn K (.ref C_BadLine) (.ref C_BadCrumb) = some false
  y_BadRules_BadTick : PySem.W.subIn K (.ref C_BadRules) (.ref C_BadTick) = some false
  y_BadRules_BadHost : PySem.W.subIn K (.ref C_BadRules) (.ref C_BadHost) = some false
  y_BadRules_BadLine : PySem.W.subIn K (.ref C_BadRules) (.ref C_BadLine) = some false
  y_BadRules_BadCrumb : PySem.W.subIn K (.ref C_BadRules) (.ref C_BadCrumb) = some false
  y_BadCrumb_BadTick : PySem.W.subIn K (.ref C_BadCrumb) (.ref C_BadTick) = some false
  y_BadCrumb_BadHost : PySem.W.subIn K (.ref C_BadCrumb) (.ref C_BadHost) = some false
  y_BadCrumb_BadLine : PySem.W.subIn K (.ref C_BadCrumb) (.ref C_BadLine) = some false
  y_BadCrumb_BadRules : PySem.W.subIn K (.ref C_BadCrumb) (.ref C_BadRules) = some false
  C_Line : Addr
  K_Line : Sy.OwnC K mg "Line" C_Line
  M_Line : Mk K C_Line f_Line_init
  n_Line_line_settings : NoAttr K C_Line "line_settings"
  C_Crumb : Addr
  K_Crumb : Sy.OwnC K mg "Crumb" C_Crumb
  M_Crumb : Mk K C_Crumb f_Crumb_init
  n_Crumb_own_parts : NoAttr K C_Crumb "own_parts"
  p_Crumb_space : Addr
  P_Crumb_space : PropOf K C_Crumb "space" p_Crumb_space f_Crumb_space
  p_Crumb_host : Addr
  P_Crumb_host : PropOf K C_Crumb "host" p_Crumb_host f_Crumb_host
  p_Crumb_is_exact : Addr
  P_Crumb_is_exact : PropOf K C_Crumb "is_exact" p_Crumb_is_exact f_Crumb_is_exact
  p_Crumb_path : Addr
  P_Crumb_path : PropOf K C_Crumb "path" p_Crumb_path f_Crumb_path
  p_Crumb_name : Addr
  P_Crumb_name : PropOf K C_Crumb "name" p_Crumb_name f_Crumb_name
  p_Crumb_ends : Addr
  P_Crumb_ends : PropOf K C_Crumb "ends" p_Crumb_ends f_Crumb_ends
  p_Crumb_priority : Addr
  P_Crumb_priority : PropOf K C_Crumb "priority" p_Crumb_priority f_Crumb_priority
  p_Crumb_is_secure : Addr
  P_Crumb_is_secure : PropOf K C_Crumb "is_secure" p_Crumb_is_secure f_Crumb_is_secure
  p_Crumb_seen : Addr
  P_Crumb_seen : PropOf K C_Crumb "seen" p_Crumb_seen f_Crumb_seen
  p_Crumb_key : Addr
  P_Crumb_key : PropOf K C_Crumb "key" p_Crumb_key f_Crumb_key
  z_Line_Crumb : PySem.W.subIn K (.ref C_Line) (.ref C_Crumb) = some false
  zn_Line_Crumb : C_Line ≠ C_Crumb
  z_Crumb_Line : PySem.W.subIn K (.ref C_Crumb) (.ref C_Line) = some false
  zn_Crumb_Line : C_Crumb ≠ C_Line
  n_all : mg "all" = none
  n_any : mg "any" = none
  n_bool : mg "bool" = none
  n_enumerate : mg "enumerate" = none
  n_int : mg "int" = none
  n_isinstance : mg "isinstance" = none
  n_len : mg "len" = none
  n_list : mg "list" = none
  n_max : mg "max" = none
  n_range : mg "range" = none
  n_repr : mg "repr" = none
  n_sorted : mg "sorted" = none
  n_str : mg "str" = none
  n_super : mg "super" = none
  n_tuple : mg "tuple" = none
  n_zip : mg "zip" = none
section
variable {K : PySem.W.Frag} {mg : Str → Option Value} {w : World}
theorem Txt.b_is_integer (T : Txt K mg w) : Binds K T.d_is_integer ["value"] [] := T.F_is_integer.binds fun _ _ _ _ _ _ us hl => match us, hl with | [_], _ => rfl
theorem Txt.b_is_tick (T : Txt K mg w) : Binds K T.d_is_tick ["value"] [] := T.F_is_tick.binds fun _ _ _ _ _ _ us hl => match us, hl with | [_], _ => rfl
theorem Txt.b_need_tick (T : Txt K mg w) : Binds K T.d_need_tick ["value"] [] := T.F_need_tick.binds fun _ _ _ _ _ _ us hl => match us, hl with | [_], _ => rfl
theorem Txt.b_small_text (T : Txt K mg w) : Binds K T.d_small_text ["text"] [] := T.F_small_text.binds fun _ _ _ _ _ _ us hl => match us, hl with | [_], _ => rfl
theorem Txt.b_s1_is_number_word (T : Txt K mg w) : Binds K T.d_s1_is_number_word ["text"] [] := T.F_s1_is_number_word.binds fun _ _ _ _ _ _ us hl => match us, hl with | [_], _ => rfl
theorem Txt.b_s1_is_small (T : Txt K mg w) : Binds K T.d_s1_is_small ["word"] [] := T.F_s1_is_small.binds fun _ _ _ _ _ _ us hl => match us, hl with | [_], _ => rfl
theorem Txt.b_s1_is_label (T : Txt K mg w) : Binds K T.d_s1_is_label ["text"] [] := T.F_s1_is_label.binds fun _ _ _ _ _ _ us hl => match us, hl with | [_], _ => rfl
theorem Txt.b_is_address_host (T : Txt K mg w) : Binds K T.d_is_address_host ["value"] [] := T.F_is_address_host.binds fun _ _ _ _ _ _ us hl => match us, hl with | [_], _ => rfl
theorem Txt.b_is_host (T : Txt K mg w) : Binds K T.d_is_host ["value"] [] := T.F_is_host.binds fun _ _ _ _ _ _ us hl => match us, hl with | [_], _ => rfl
theorem Txt.b_s1_may_become_address (T : Txt K mg w) : Binds K T.d_s1_may_become_address ["words"] [] := T.F_s1_may_become_address.binds fun _ _ _ _ _ _ us hl => match us, hl with | [_], _ => rfl
theorem Txt.b_s1_begins (T : Txt K mg w) : Binds K T.d_s1_begins ["text"] [] := T.F_s1_begins.binds fun _ _ _ _ _ _ us hl => match us, hl with | [_], _ => rfl
theorem Txt.b_s1_place (T : Txt K mg w) : Binds K T.d_s1_place ["value"] [] := T.F_s1_place.binds fun _ _ _ _ _ _ us hl => match us, hl with | [_], _ => rfl
theorem Txt.b_need_host (T : Txt K mg w) : Binds K T.d_need_host ["value"] [] := T.F_need_host.binds fun _ _ _ _ _ _ us hl => match us, hl with | [_], _ => rfl
theorem Txt.b_s1_fits (T : Txt K mg w) : Binds K T.d_s1_fits ["host", "domain"] [] := T.F_s1_fits.binds fun _ _ _ _ _ _ us hl => match us, hl with | [_, _], _ => rfl
theorem Txt.b_s1_is_path_sign (T : Txt K mg w) : Binds K T.d_s1_is_path_sign ["sign"] [] := T.F_s1_is_path_sign.binds fun _ _ _ _ _ _ us hl => match us, hl with | [_], _ => rfl
theorem Txt.b_is_path (T : Txt K mg w) : Binds K T.d_is_path ["value"] [] := T.F_is_path.binds fun _ _ _ _ _ _ us hl => match us, hl with | [_], _ => rfl
theorem Txt.b_is_origin (T : Txt K mg w) : Binds K T.d_is_origin ["value"] [] := T.F_is_origin.binds fun _ _ _ _ _ _ us hl => match us, hl with | [_], _ => rfl
theorem Txt.b_s1_is_safe (T : Txt K mg w) : Binds K T.d_s1_is_safe ["origin"] [] := T.F_s1_is_safe.binds fun _ _ _ _ _ _ us hl => match us, hl with | [_], _ => rfl
theorem Txt.b_s2_has_control (T : Txt K mg w) : Binds K T.d_s2_has_control ["text"] [] := T.F_s2_has_control.binds fun _ _ _ _ _ _ us hl => match us, hl with | [_], _ => rfl
theorem Txt.b_s2_is_kept (T : Txt K mg w) : Binds K T.d_s2_is_kept ["value", "forbidden"] [] := T.F_s2_is_kept.binds fun _ _ _ _ _ _ us hl => match us, hl with | [_, _], _ => rfl
theorem Txt.b_s2_is_value (T : Txt K mg w) : Binds K T.d_s2_is_value ["name", "value"] [] := T.F_s2_is_value.binds fun _ _ _ _ _ _ us hl => match us, hl with | [_, _], _ => rfl
theorem Txt.b_s2_is_age (T : Txt K mg w) : Binds K T.d_s2_is_age ["value"] [] := T.F_s2_is_age.binds fun _ _ _ _ _ _ us hl => match us, hl with | [_], _ => rfl
theorem Txt.b_s2_is_same (T : Txt K mg w) : Binds K T.d_s2_is_same ["value"] [] := T.F_s2_is_same.binds fun _ _ _ _ _ _ us hl => match us, hl with | [_], _ => rfl
theorem Txt.b_s2_is_priority (T : Txt K mg w) : Binds K T.d_s2_is_priority ["value"] [] := T.F_s2_is_priority.binds fun _ _ _ _ _ _ us hl => match us, hl with | [_], _ => rfl
theorem Txt.b_s2_need (T : Txt K mg w) : Binds K T.d_s2_need ["field", "good"] [] := T.F_s2_need.binds fun _ _ _ _ _ _ us hl => match us, hl with | [_, _], _ => rfl
theorem Txt.b_s1_is_rule (T : Txt K mg w) : Binds K T.d_s1_is_rule ["value"] [] := T.F_s1_is_rule.binds fun _ _ _ _ _ _ us hl => match us, hl with | [_], _ => rfl
theorem Txt.b_need_rules (T : Txt K mg w) : Binds K T.d_need_rules ["rules"] [] := T.F_need_rules.binds fun _ _ _ _ _ _ us hl => match us, hl with | [_], _ => rfl
theorem Txt.b_s1_matching (T : Txt K mg w) : Binds K T.d_s1_matching ["rules", "labels"] [] := T.F_s1_matching.binds fun _ _ _ _ _ _ us hl => match us, hl with | [_, _], _ => rfl
theorem Txt.b_s1_suffix (T : Txt K mg w) : Binds K T.d_s1_suffix ["rules", "host"] [] := T.F_s1_suffix.binds fun _ _ _ _ _ _ us hl => match us, hl with | [_, _], _ => rfl
theorem Txt.b_s1_family (T : Txt K mg w) : Binds K T.d_s1_family ["rules", "host"] [] := T.F_s1_family.binds fun _ _ _ _ _ _ us hl => match us, hl with | [_, _], _ => rfl
theorem Txt.b_need_both (T : Txt K mg w) : Binds K T.d_need_both ["rules", "host"] [] := T.F_need_both.binds fun _ _ _ _ _ _ us hl => match us, hl with | [_, _], _ => rfl
theorem Txt.b_family_of (T : Txt K mg w) : Binds K T.d_family_of ["rules", "host"] [] := T.F_family_of.binds fun _ _ _ _ _ _ us hl => match us, hl with | [_, _], _ => rfl
theorem Txt.b_s3_prefix (T : Txt K mg w) : Binds K T.d_s3_prefix ["name", "value"] [] := T.F_s3_prefix.binds fun _ _ _ _ _ _ us hl => match us, hl with | [_, _], _ => rfl
theorem Txt.b_s3_wrong_text (T : Txt K mg w) : Binds K T.d_s3_wrong_text ["name", "value"] [] := T.F_s3_wrong_text.binds fun _ _ _ _ _ _ us hl => match us, hl with | [_, _], _ => rfl
theorem Txt.b_s3_is_born (T : Txt K mg w) : Binds K T.d_s3_is_born ["value"] [] := T.F_s3_is_born.binds fun _ _ _ _ _ _ us hl => match us, hl with | [_], _ => rfl
theorem Txt.b_s3_is_space (T : Txt K mg w) : Binds K T.d_s3_is_space ["value"] [] := T.F_s3_is_space.binds fun _ _ _ _ _ _ us hl => match us, hl with | [_], _ => rfl
theorem Txt.b_s3_can_live (T : Txt K mg w) : Binds K T.d_s3_can_live ["host", "same", "is_secure", "space"] [] := T.F_s3_can_live.binds fun _ _ _ _ _ _ us hl => match us, hl with | [_, _, _, _], _ => rfl
theorem Txt.b_s3_wrong_place (T : Txt K mg w) : Binds K T.d_s3_wrong_place ["host", "is_exact", "path", "is_secure", "is_hidden", "prefix"] [] := T.F_s3_wrong_place.binds fun _ _ _ _ _ _ us hl => match us, hl with | [_, _, _, _, _, _], _ => rfl
theorem Txt.b_s3_wrong_time (T : Txt K mg w) : Binds K T.d_s3_wrong_time ["born", "seen", "ends"] [] := T.F_s3_wrong_time.binds fun _ _ _ _ _ _ us hl => match us, hl with | [_, _, _], _ => rfl
theorem Txt.b_s3_wrong_field (T : Txt K mg w) : Binds K T.d_s3_wrong_field ["crumb"] [] := T.F_s3_wrong_field.binds fun _ _ _ _ _ _ us hl => match us, hl with | [_], _ => rfl
theorem Txt.b_Crumb_name (T : Txt K mg w) : Binds K T.d_Crumb_name ["self"] [] := T.F_Crumb_name.binds fun _ _ _ _ _ _ us hl => match us, hl with | [_], _ => rfl
theorem Txt.b_Crumb_host (T : Txt K mg w) : Binds K T.d_Crumb_host ["self"] [] := T.F_Crumb_host.binds fun _ _ _ _ _ _ us hl => match us, hl with | [_], _ => rfl
theorem Txt.b_Crumb_is_exact (T : Txt K mg w) : Binds K T.d_Crumb_is_exact ["self"] [] := T.F_Crumb_is_exact.binds fun _ _ _ _ _ _ us hl => match us, hl with | [_], _ => rfl
theorem Txt.b_Crumb_path (T : Txt K mg w) : Binds K T.d_Crumb_path ["self"] [] := T.F_Crumb_path.binds fun _ _ _ _ _ _ us hl => match us, hl with | [_], _ => rfl
theorem Txt.b_Crumb_is_secure (T : Txt K mg w) : Binds K T.d_Crumb_is_secure ["self"] [] := T.F_Crumb_is_secure.binds fun _ _ _ _ _ _ us hl => match us, hl with | [_], _ => rfl
theorem Txt.b_Crumb_priority (T : Txt K mg w) : Binds K T.d_Crumb_priority ["self"] [] := T.F_Crumb_priority.binds fun _ _ _ _ _ _ us hl => match us, hl with | [_], _ => rfl
theorem Txt.b_Crumb_space (T : Txt K mg w) : Binds K T.d_Crumb_space ["self"] [] := T.F_Crumb_space.binds fun _ _ _ _ _ _ us hl => match us, hl with | [_], _ => rfl
theorem Txt.b_Crumb_seen (T : Txt K mg w) : Binds K T.d_Crumb_seen ["self"] [] := T.F_Crumb_seen.binds fun _ _ _ _ _ _ us hl => match us, hl with | [_], _ => rfl
theorem Txt.b_Crumb_ends (T : Txt K mg w) : Binds K T.d_Crumb_ends ["self"] [] := T.F_Crumb_ends.binds fun _ _ _ _ _ _ us hl => match us, hl with | [_], _ => rfl
theorem Txt.b_Crumb_key (T : Txt K mg w) : Binds K T.d_Crumb_key ["self"] [] := T.F_Crumb_key.binds fun _ _ _ _ _ _ us hl => match us, hl with | [_], _ => rfl
theorem Txt.b_need_crumb (T : Txt K mg w) : Binds K T.d_need_crumb ["value"] [] := T.F_need_crumb.binds fun _ _ _ _ _ _ us hl => match us, hl with | [_], _ => rfl
theorem Txt.b_s3_has_ended (T : Txt K mg w) : Binds K T.d_s3_has_ended ["crumb", "tick"] [] := T.F_s3_has_ended.binds fun _ _ _ _ _ _ us hl => match us, hl with | [_, _], _ => rfl
theorem Txt.b_has_ended (T : Txt K mg w) : Binds K T.d_has_ended ["crumb", "tick"] [] := T.F_has_ended.binds fun _ _ _ _ _ _ us hl => match us, hl with | [_, _], _ => rfl
theorem Txt.b_rank_of (T : Txt K mg w) : Binds K T.d_rank_of ["crumb"] [] := T.F_rank_of.binds fun _ _ _ _ _ _ us hl => match us, hl with | [_], _ => rfl
theorem Txt.b_group_of (T : Txt K mg w) : Binds K T.d_group_of ["rules", "crumb"] [] := T.F_group_of.binds fun _ _ _ _ _ _ us hl => match us, hl with | [_, _], _ => rfl
theorem Txt.b_swept (T : Txt K mg w) : Binds K T.d_swept ["crumbs", "tick"] [] := T.F_swept.binds fun _ _ _ _ _ _ us hl => match us, hl with | [_, _], _ => rfl
theorem Txt.b__law_mixed (T : Txt K mg w) : Binds K T.d__law_mixed ["_law_cell", "_law_k"] [] := T.F__law_mixed.binds fun _ _ _ _ _ _ us hl => match us, hl with | [_, _], _ => rfl
theorem Txt.b__law_draw (T : Txt K mg w) : Binds K T.d__law_draw ["_law_cell", "_law_k"] [] := T.F__law_draw.binds fun _ _ _ _ _ _ us hl => match us, hl with | [_, _], _ => rfl
theorem Txt.b__law_digit (T : Txt K mg w) : Binds K T.d__law_digit ["_law_state", "_law_size"] [] := T.F__law_digit.binds fun _ _ _ _ _ _ us hl => match us, hl with | [_, _], _ => rfl
theorem Txt.b__law_crumb (T : Txt K mg w) : Binds K T.d__law_crumb ["_law_state", "_law_at"] [] := T.F__law_crumb.binds fun _ _ _ _ _ _ us hl => match us, hl with | [_, _], _ => rfl
theorem Txt.b__law_some_crumbs (T : Txt K mg w) : Binds K T.d__law_some_crumbs ["_law_state", "_law_many"] [] := T.F__law_some_crumbs.binds fun _ _ _ _ _ _ us hl => match us, hl with | [_, _], _ => rfl
theorem Txt.b__law_name_of (T : Txt K mg w) : Binds K T.d__law_name_of ["_law_host"] [] := T.F__law_name_of.binds fun _ _ _ _ _ _ us hl => match us, hl with | [_], _ => rfl
theorem Txt.b__law_out (T : Txt K mg w) : Binds K T.d__law_out ["_law_some", "_law_key", "_law_limits"] [] := T.F__law_out.binds fun _ _ _ _ _ _ us hl => match us, hl with | [_, _, _], _ => rfl
theorem Txt.b__law_swept_right (T : Txt K mg w) : Binds K T.d__law_swept_right ["_law_some", "_law_moment"] [] := T.F__law_swept_right.binds fun _ _ _ _ _ _ us hl => match us, hl with | [_, _], _ => rfl
theorem Txt.b__law_cell_right (T : Txt K mg w) : Binds K T.d__law_cell_right ["_law_cell"] [] := T.F__law_cell_right.binds fun _ _ _ _ _ _ us hl => match us, hl with | [_], _ => rfl
theorem Txt.bd_Line_init (T : Txt K mg w) : ∃ ds, Vals ((kws_Line_init).map (·.2)) ds ∧ Binds K T.d_Line_init ["self", "name", "value", "expires", "age", "domain", "path", "is_secure", "is_hidden", "same", "is_partitioned", "priority"] ds := T.D_Line_init.binds0 3 (by intro h; cases h) rfl fun D doc pm an cdv ct us ks hl hk => match us, ks, hl, hk with | [u0, u1, u2], [z0, z1, z2, z3, z4, z5, z6, z7, z8], _, _ => ⟨_, _, _, _, _, _, rfl, rfl, ⟨_, _, _, _, _, _, rfl, rfl, ⟨_, _, _, _, _, _, rfl, rfl, ⟨_, _, _, _, _, _, rfl, rfl, ⟨_, _, _, _, _, _, rfl, rfl, ⟨_, _, _, _, _, _, rfl, rfl, ⟨_, _, _, _, _, _, rfl, rfl, ⟨_, _, _, _, _, _, rfl, rfl, ⟨_, _, _, _, _, _, rfl, rfl, rfl⟩⟩⟩⟩⟩⟩⟩⟩⟩
def kg_1_Crumb_init {α : Type} (us mv ws : List α) : List α := us ++ ((mv.drop 0).take 1 ++ ((ws.drop 0).take 1 ++ ((ws.drop 5).take 1 ++ ((mv.drop 1).take 1 ++ ((mv.drop 2).take 1 ++ ((ws.drop 4).take 1 ++ ((mv.drop 3).take 1 ++ ((ws.drop 1).take 1 ++ ((ws.drop 2).take 1 ++ ((ws.drop 3).take 1 ++ []))))))))))
theorem kgA_1_Crumb_init {G : Hp} {l m z : List As} {vs ms zs : List V} (h1 : All2 G l vs) (h2 : All2 G m ms) (h3 : All2 G z zs) : All2 G (kg_1_Crumb_init l m z) (kg_1_Crumb_init vs ms zs) := h1.app ((All2.take 1 (All2.drop 0 h2)).app ((All2.take 1 (All2.drop 0 h3)).app ((All2.take 1 (All2.drop 5 h3)).app ((All2.take 1 (All2.drop 1 h2)).app ((All2.take 1 (All2.drop 2 h2)).app ((All2.take 1 (All2.drop 4 h3)).app ((All2.take 1 (All2.drop 3 h2)).app ((All2.take 1 (All2.drop 1 h3)).app ((All2.take 1 (All2.drop 2 h3)).app ((All2.take 1 (All2.drop 3 h3)).app .nil))))))))))
theorem Txt.kx_1_Crumb_init (T : Txt K mg w) : ∃ mv : List Value, KBn K T.d_Crumb_init ["self", "name", "value", "host", "is_exact", "path", "is_secure", "is_hidden", "same", "priority", "space", "born", "seen", "ends"] 4 ["path", "born", "seen", "ends", "priority", "is_secure"] (fun us ws => kg_1_Crumb_init us mv ws) (fun vs zs => kg_1_Crumb_init vs ([("is_exact", .bl true), ("is_hidden", .bl false), ("same", .str (S [100, 101, 102, 97, 117, 108, 116])), ("space", .non)].map (·.2)) zs) :=
  T.D_Crumb_init.kbinds0 (ps := ["self", "name", "value", "host", "is_exact", "path", "is_secure", "is_hidden", "same", "priority", "space", "born", "seen", "ends"]) 4 ["path", "born", "seen", "ends", "priority", "is_secure"] [("is_exact", .bl true), ("is_hidden", .bl false), ("same", .str (S [100, 101, 102, 97, 117, 108, 116])), ("space", .non)] (fun us mv ws => kg_1_Crumb_init us mv ws) (by intro h; cases h) (fun q hq => by simp only [List.mem_cons, List.not_mem_nil, or_false] at hq ⊢; rcases hq with rfl | rfl | rfl | rfl <;> simp) (fun a b c => a.append ((vals_dt b 0).append ((vals_dt c 0).append ((vals_dt c 5).append ((vals_dt b 1).append ((vals_dt b 2).append ((vals_dt c 4).append ((vals_dt b 3).append ((vals_dt c 1).append ((vals_dt c 2).append ((vals_dt c 3).append .nil))))))))))) fun D doc pm an cdv ct us mv ws hl hm hw => match us, mv, ws, hl, hm, hw with | [u0, u1, u2, u3], [m0, m1, m2, m3], [z0, z1, z2, z3, z4, z5], _, _, _ => ⟨_, _, _, _, _, _, rfl, rfl, ⟨_, _, _, _, _, _, rfl, rfl, ⟨_, _, _, _, _, _, rfl, rfl, ⟨_, _, _, _, _, _, rfl, rfl, by (show _ = pure _; kernel_rfl)⟩⟩⟩⟩
def kg_2_Crumb_init {α : Type} (us mv ws : List α) : List α := us ++ ((mv.drop 0).take 1 ++ ((mv.drop 1).take 1 ++ ((ws.drop 0).take 1 ++ ((mv.drop 2).take 1 ++ ((mv.drop 3).take 1 ++ ((mv.drop 4).take 1 ++ ((ws.drop 1).take 1 ++ ((mv.drop 5).take 1 ++ ((mv.drop 6).take 1 ++ ((mv.drop 7).take 1 ++ []))))))))))
theorem kgA_2_Crumb_init {G : Hp} {l m z : List As} {vs ms zs : List V} (h1 : All2 G l vs) (h2 : All2 G m ms) (h3 : All2 G z zs) : All2 G (kg_2_Crumb_init l m z) (kg_2_Crumb_init vs ms zs) := h1.app ((All2.take 1 (All2.drop 0 h2)).app ((All2.take 1 (All2.drop 1 h2)).app ((All2.take 1 (All2.drop 0 h3)).app ((All2.take 1 (All2.drop 2 h2)).app ((All2.take 1 (All2.drop 3 h2)).app ((All2.take 1 (All2.drop 4 h2)).app ((All2.take 1 (All2.drop 1 h3)).app ((All2.take 1 (All2.drop 5 h2)).app ((All2.take 1 (All2.drop 6 h2)).app ((All2.take 1 (All2.drop 7 h2)).app .nil))))))))))
theorem Txt.kx_2_Crumb_init (T : Txt K mg w) : ∃ mv : List Value, KBn K T.d_Crumb_init ["self", "name", "value", "host", "is_exact", "path", "is_secure", "is_hidden", "same", "priority", "space", "born", "seen", "ends"] 4 ["is_secure", "space"] (fun us ws => kg_2_Crumb_init us mv ws) (fun vs zs => kg_2_Crumb_init vs ([("is_exact", .bl true), ("path", .str (S [47])), ("is_hidden", .bl false), ("same", .str (S [100, 101, 102, 97, 117, 108, 116])), ("priority", .int (1)), ("born", .ref T.ka_Crumb_init_born), ("seen", .int (0)), ("ends", .non)].map (·.2)) zs) :=
  T.D_Crumb_init.kbinds0 (ps := ["self", "name", "value", "host", "is_exact", "path", "is_secure", "is_hidden", "same", "priority", "space", "born", "seen", "ends"]) 4 ["is_secure", "space"] [("is_exact", .bl true), ("path", .str (S [47])), ("is_hidden", .bl false), ("same", .str (S [100, 101, 102, 97, 117, 108, 116])), ("priority", .int (1)), ("born", .ref T.ka_Crumb_init_born), ("seen", .int (0)), ("ends", .non)] (fun us mv ws => kg_2_Crumb_init us mv ws) (by intro h; cases h) (fun q hq => by simp only [List.mem_cons, List.not_mem_nil, or_false] at hq ⊢; rcases hq with rfl | rfl | rfl | rfl | rfl | rfl | rfl | rfl <;> simp) (fun a b c => a.append ((vals_dt b 0).append ((vals_dt b 1).append ((vals_dt c 0).append ((vals_dt b 2).append ((vals_dt b 3).append ((vals_dt b 4).append ((vals_dt c 1).append ((vals_dt b 5).append ((vals_dt b 6).append ((vals_dt b 7).append .nil))))))))))) fun D doc pm an cdv ct us mv ws hl hm hw => match us, mv, ws, hl, hm, hw with | [u0, u1, u2, u3], [m0, m1, m2, m3, m4, m5, m6, m7], [z0, z1], _, _, _ => ⟨_, _, _, _, _, _, rfl, rfl, ⟨_, _, _, _, _, _, rfl, rfl, ⟨_, _, _, _, _, _, rfl, rfl, ⟨_, _, _, _, _, _, rfl, rfl, ⟨_, _, _, _, _, _, rfl, rfl, ⟨_, _, _, _, _, _, rfl, rfl, ⟨_, _, _, _, _, _, rfl, rfl, ⟨_, _, _, _, _, _, rfl, rfl, by (show _ = pure _; kernel_rfl)⟩⟩⟩⟩⟩⟩⟩⟩
def kg_3_Crumb_init {α : Type} (us mv ws : List α) : List α := us ++ ((mv.drop 0).take 1 ++ ((mv.drop 1).take 1 ++ ((ws.drop 0).take 1 ++ ((mv.drop 2).take 1 ++ ((mv.drop 3).take 1 ++ ((mv.drop 4).take 1 ++ ((mv.drop 5).take 1 ++ ((mv.drop 6).take 1 ++ ((mv.drop 7).take 1 ++ ((mv.drop 8).take 1 ++ []))))))))))
theorem kgA_3_Crumb_init {G : Hp} {l m z : List As} {vs ms zs : List V} (h1 : All2 G l vs) (h2 : All2 G m ms) (h3 : All2 G z zs) : All2 G (kg_3_Crumb_init l m z) (kg_3_Crumb_init vs ms zs) := h1.app ((All2.take 1 (All2.drop 0 h2)).app ((All2.take 1 (All2.drop 1 h2)).app ((All2.take 1 (All2.drop 0 h3)).app ((All2.take 1 (All2.drop 2 h2)).app ((All2.take 1 (All2.drop 3 h2)).app ((All2.take 1 (All2.drop 4 h2)).app ((All2.take 1 (All2.drop 5 h2)).app ((All2.take 1 (All2.drop 6 h2)).app ((All2.take 1 (All2.drop 7 h2)).app ((All2.take 1 (All2.drop 8 h2)).app .nil))))))))))
theorem Txt.kx_3_Crumb_init (T : Txt K mg w) : ∃ mv : List Value, KBn K T.d_Crumb_init ["self", "name", "value", "host", "is_exact", "path", "is_secure", "is_hidden", "same", "priority", "space", "born", "seen", "ends"] 4 ["is_secure"] (fun us ws => kg_3_Crumb_init us mv ws) (fun vs zs => kg_3_Crumb_init vs ([("is_exact", .bl true), ("path", .str (S [47])), ("is_hidden", .bl false), ("same", .str (S [100, 101, 102, 97, 117, 108, 116])), ("priority", .int (1)), ("space", .non), ("born", .ref T.ka_Crumb_init_born), ("seen", .int (0)), ("ends", .non)].map (·.2)) zs) :=
  T.D_Crumb_init.kbinds0 (ps := ["self", "name", "value", "host", "is_exact", "path", "is_secure", "is_hidden", "same", "priority", "space", "born", "seen", "ends"]) 4 ["is_secure"] [("is_exact", .bl true), ("path", .str (S [47])), ("is_hidden", .bl false), ("same", .str (S [100, 101, 102, 97, 117, 108, 116])), ("priority", .int (1)), ("space", .non), ("born", .ref T.ka_Crumb_init_born), ("seen", .int (0)), ("ends", .non)] (fun us mv ws => kg_3_Crumb_init us mv ws) (by intro h; cases h) (fun q hq => by simp only [List.mem_cons, List.not_mem_nil, or_false] at hq ⊢; rcases hq with rfl | rfl | rfl | rfl | rfl | rfl | rfl | rfl | rfl <;> simp) (fun a b c => a.append ((vals_dt b 0).append ((vals_dt b 1).append ((vals_dt c 0).append ((vals_dt b 2).append ((vals_dt b 3).append ((vals_dt b 4).append ((vals_dt b 5).append ((vals_dt b 6).append ((vals_dt b 7).append ((vals_dt b 8).append .nil))))))))))) fun D doc pm an cdv ct us mv ws hl hm hw => match us, mv, ws, hl, hm, hw with | [u0, u1, u2, u3], [m0, m1, m2, m3, m4, m5, m6, m7, m8], [z0], _, _, _ => ⟨_, _, _, _, _, _, rfl, rfl, ⟨_, _, _, _, _, _, rfl, rfl, ⟨_, _, _, _, _, _, rfl, rfl, ⟨_, _, _, _, _, _, rfl, rfl, ⟨_, _, _, _, _, _, rfl, rfl, ⟨_, _, _, _, _, _, rfl, rfl, ⟨_, _, _, _, _, _, rfl, rfl, ⟨_, _, _, _, _, _, rfl, rfl, ⟨_, _, _, _, _, _, rfl, rfl, by (show _ = pure _; kernel_rfl)⟩⟩⟩⟩⟩⟩⟩⟩⟩
def kg_4_Crumb_init {α : Type} (us mv ws : List α) : List α := us ++ ((mv.drop 0).take 1 ++ ((mv.drop 1).take 1 ++ ((ws.drop 0).take 1 ++ ((mv.drop 2).take 1 ++ ((ws.drop 1).take 1 ++ ((mv.drop 3).take 1 ++ ((ws.drop 2).take 1 ++ ((mv.drop 4).take 1 ++ ((mv.drop 5).take 1 ++ ((mv.drop 6).take 1 ++ []))))))))))
theorem kgA_4_Crumb_init {G : Hp} {l m z : List As} {vs ms zs : List V} (h1 : All2 G l vs) (h2 : All2 G m ms) (h3 : All2 G z zs) : All2 G (kg_4_Crumb_init l m z) (kg_4_Crumb_init vs ms zs) := h1.app ((All2.take 1 (All2.drop 0 h2)).app ((All2.take 1 (All2.drop 1 h2)).app ((All2.take 1 (All2.drop 0 h3)).app ((All2.take 1 (All2.drop 2 h2)).app ((All2.take 1 (All2.drop 1 h3)).app ((All2.take 1 (All2.drop 3 h2)).app ((All2.take 1 (All2.drop 2 h3)).app ((All2.take 1 (All2.drop 4 h2)).app ((All2.take 1 (All2.drop 5 h2)).app ((All2.take 1 (All2.drop 6 h2)).app .nil))))))))))
theorem Txt.kx_4_Crumb_init (T : Txt K mg w) : ∃ mv : List Value, KBn K T.d_Crumb_init ["self", "name", "value", "host", "is_exact", "path", "is_secure", "is_hidden", "same", "priority", "space", "born", "seen", "ends"] 4 ["is_secure", "same", "space"] (fun us ws => kg_4_Crumb_init us mv ws) (fun vs zs => kg_4_Crumb_init vs ([("is_exact", .bl true), ("path", .str (S [47])), ("is_hidden", .bl false), ("priority", .int (1)), ("born", .ref T.ka_Crumb_init_born), ("seen", .int (0)), ("ends", .non)].map (·.2)) zs) :=
  T.D_Crumb_init.kbinds0 (ps := ["self", "name", "value", "host", "is_exact", "path", "is_secure", "is_hidden", "same", "priority", "space", "born", "seen", "ends"]) 4 ["is_secure", "same", "space"] [("is_exact", .bl true), ("path", .str (S [47])), ("is_hidden", .bl false), ("priority", .int (1)), ("born", .ref T.ka_Crumb_init_born), ("seen", .int (0)), ("ends", .non)] (fun us mv ws => kg_4_Crumb_init us mv ws) (by intro h; cases h) (fun q hq => by simp only [List.mem_cons, List.not_mem_nil, or_false] at hq ⊢; rcases hq with rfl | rfl | rfl | rfl | rfl | rfl | rfl <;> simp) (fun a b c => a.append ((vals_dt b 0).append ((vals_dt b 1).append ((vals_dt c 0).append ((vals_dt b 2).append ((vals_dt c 1).append ((vals_dt b 3).append ((vals_dt c 2).append ((vals_dt b 4).append ((vals_dt b 5).append ((vals_dt b 6).append .nil))))))))))) fun D doc pm an cdv ct us mv ws hl hm hw => match us, mv, ws, hl, hm, hw with | [u0, u1, u2, u3], [m0, m1, m2, m3, m4, m5, m6], [z0, z1, z2], _, _, _ => ⟨_, _, _, _, _, _, rfl, rfl, ⟨_, _, _, _, _, _, rfl, rfl, ⟨_, _, _, _, _, _, rfl, rfl, ⟨_, _, _, _, _, _, rfl, rfl, ⟨_, _, _, _, _, _, rfl, rfl, ⟨_, _, _, _, _, _, rfl, rfl, ⟨_, _, _, _, _, _, rfl, rfl, by (show _ = pure _; kernel_rfl)⟩⟩⟩⟩⟩⟩⟩
theorem Txt.kw_goes (T : Txt K mg w) : KBn K T.d_goes ["rules", "crumbs", "key", "most_of_family", "most"] 3 ["most_of_family", "most"] (fun us ws => us ++ ws) (fun vs zs => vs ++ zs) := by
  obtain ⟨oc, od, kV, doc, pm, an, cdv, ct, osl, e, lk, hcd⟩ := T.F_goes.ex
  rw [e]
  exact ⟨fun s us ws _ l1 l2 => match us, ws, l1, l2 with | [_, _, _], [_, _], _, _ => .of_eq (by show bindArgs _ _ = pure _; kernel_rfl), fun a b => a.append b⟩
theorem Txt.w_SCHEMES (T : Txt K mg w) : ∀ H, SqT K H T.a_SCHEMES (lcv_SCHEMES.map fun l => V.str (S l)) := T.s_SCHEMES
theorem Txt.w_SAMES_pieces (T : Txt K mg w) : ∀ H, SqT K H T.a_SAMES_pieces (lcv_SAMES_pieces.map fun l => V.str (S l)) := T.s_SAMES_pieces
theorem Txt.w_SAMES_crumbs (T : Txt K mg w) : ∀ H, SqT K H T.a_SAMES_crumbs (lcv_SAMES_crumbs.map fun l => V.str (S l)) := T.s_SAMES_crumbs
theorem Txt.w_PREFIXES (T : Txt K mg w) : ∀ H, SqT K H T.a_PREFIXES (lcv_PREFIXES.map fun l => V.str (S l)) := T.s_PREFIXES
end
set_option hygiene false
local macro_rules | `(tactic| walk_at "cj1") => `(tactic| (repeat' first
      | with_reducible refine Go.callTx ?_
      | with_reducible refine Stp.go ?_
      | ((with_reducible apply Go.var); (focus exact rfl))
      | exact GoS.retN rfl
      | with_reducible refine GoS.ret ?_
      | with_reducible refine GoS.ite ?_
      | with_reducible refine Go.ite ?_
      | with_reducible refine Go.pick ?_
      | with_reducible refine Go.tup (K := K) ?_
      | with_reducible refine Go.lst (K := K) ?_
      | with_reducible refine GoI.enumS (K := K) ?_
      | with_reducible refine Go.bm ?_
      | with_reducible apply GoT.andJ
      | with_reducible apply GoT.orJ
      | with_reducible apply Go.andVJ
      | with_reducible apply Go.orVJ
      | with_reducible apply Go.chainJ
      | with_reducible refine Go.c ?_
      | with_reducible refine Go.dni ?_
      | with_reducible refine Go.dgetC ?_
      | with_reducible refine Go.dget ?_
      | with_reducible refine Go.din ?_
      | with_reducible refine GoS.dput ?_
      | with_reducible refine Go.callQ3 ?_
      | with_reducible refine Go.callQ2 ?_
      | with_reducible refine Go.callQ ?_
      | with_reducible refine Go.callP0 ?_
      | with_reducible apply Go.lcM1 (K := K)
      | with_reducible apply Go.lcF1 (K := K)
      | with_reducible apply Go.lcM2 (K := K) (by decide)
      | with_reducible apply Go.lcF2 (K := K) (by decide)
      | ((with_reducible apply v_ixT); (focus exact rfl))
      | ((with_reducible apply v_ixL); (focus exact rfl))
      | ((with_reducible apply v_ixL); (focus exact at0 _ _))
      | refine v_tidxS ?_ ?_
      | refine v_split (K := K) (by decide) ?_ ?_
      | ((with_reducible refine Sde.mk ?_); first | (right; decide) | (left; decide) | (left; constructor <;> omega))
      | with_reducible refine and_T (by assumption) ?_
      | with_reducible refine and_F (by assumption) ?_
      | with_reducible refine ⟨fun h => absurd h (by decide), fun _ => ?_⟩
      | with_reducible refine ⟨fun _ => ?_, fun h => absurd h (by decide)⟩
      | with_reducible refine And.intro (fun h => ?_) (fun h => ?_)
      | exact ⟨_, rfl⟩
      | exact ⟨rfl, rfl⟩
      | exact ⟨rfl, rfl, rfl⟩
      | refine ⟨_, rfl, ?_⟩
      | refine ⟨_, _, _, [], _, .inr _, rfl, rfl, rfl, ?_⟩
      | refine ⟨_, _, _, [_], _, .inr _, rfl, rfl, rfl, ?_⟩
      | refine ⟨_, _, _, [_, _], _, .inr _, rfl, rfl, rfl, ?_⟩
      | refine ⟨_, .inr _, rfl, rfl, ?_⟩
      | refine ⟨_, (by assumption), ?_⟩
      | refine ⟨_, _, _, _, rfl, rfl, ?_, fun (i9 : Int) l9 u9 => ?_⟩
      | refine ⟨_, _, _, _, rfl, rfl, ?_, fun (A9 : As) h9 => ?_⟩
      | refine ⟨_, _, rfl, ?_, ?_⟩
      | refine ⟨_, _, _, rfl, ?_, ?_⟩
      | refine ⟨_, _, rfl, ?_⟩
      | refine ⟨_, _, _, rfl, ?_⟩
      | with_reducible exact ff9
      | with_reducible exact tf9
      | with_reducible intro x hx R9
      | with_reducible intro A9 h9
      | with_reducible intro _
      | exact True.intro
      | (simp only [repL_len, List.length_cons, List.length_nil, List.length_append, List.length_replicate]; decide)
      | exact Nat.le_of_ble_eq_true rfl
      | exact rfl
      | assumption
      | omega
      | (simp only [List.length_map, List.length_append, List.length_cons, List.length_nil, List.length_range]; omega)
      | exact nl1 (by omega) (by omega) (by decide)
      | exact nl2 (by omega) (by omega) (by decide)
      | exact nl3 (by omega) (by omega) (by decide) (by decide)
      | refine And.intro trivial ?_
      | with_reducible refine And.intro ?_ ?_
      | (dsimp only; omega)
      | exact false
      | fail))
local macro_rules | `(tactic| walk_at "cj2") => `(tactic| (repeat' first
      | exact GoS.retN rfl
      | with_reducible refine Go.cS cS_SMALL ?_
      | with_reducible refine Go.cS cS_GREAT ?_
      | with_reducible refine Go.cS lith_ ?_
      | with_reducible refine Go.callTx ?_
      | with_reducible refine fin_P ?_
      | with_reducible refine fin_Q ?_
      | with_reducible refine GoS.nil ?_
      | with_reducible refine GoS.seq ?_
      | with_reducible refine GoS.ret ?_
      | with_reducible refine GoS.set ?_
      | with_reducible refine GoS.ite ?_
      | with_reducible refine GoS.drop ?_
      | with_reducible refine GoS.cut ?_
      | with_reducible refine GoS.par ?_
      | with_reducible refine GoS.par3 ?_
      | with_reducible refine GoG.tup rfl ?_
      | with_reducible refine GoS.asg ?_
      | with_reducible apply GoT.andJ
      | with_reducible apply GoT.orJ
      | with_reducible apply Go.andVJ
      | with_reducible apply Go.orVJ
      | with_reducible apply Go.chainJ
      | with_reducible refine Go.notV ?_
      | with_reducible apply Go.iteA tx
      | with_reducible refine Go.tup (K := K) ?_
      | with_reducible refine Go.lst (K := K) ?_
      | with_reducible refine Go.cb ?_
      | with_reducible refine Go.bm ?_
      | with_reducible refine Go.bm0 ?_
      | with_reducible refine Go.m1 ?_
      | with_reducible refine Go.m0 ?_
      | with_reducible refine Go.sl ?_
      | with_reducible refine Go.un ?_
      | with_reducible refine Go.op ?_
      | with_reducible refine Go.dni ?_
      | with_reducible refine Go.dgetC ?_
      | with_reducible refine Go.dget ?_
      | with_reducible refine Go.din ?_
      | with_reducible refine GoS.dput ?_
      | with_reducible refine Go.callQ3 ?_
      | with_reducible refine Go.callQ2 ?_
      | with_reducible refine Go.callQ ?_
      | with_reducible refine Go.digit ?_
      | with_reducible refine Go.pick ?_
      | with_reducible refine Go.callP3 ?_
      | with_reducible refine Go.callP2 ?_
      | with_reducible refine Go.callP0 ?_
      | with_reducible refine Go.callP ?_
      | with_reducible refine GoA.nil ?_
      | with_reducible refine GoA.cons ?_
      | with_reducible refine GoO.none ?_
      | with_reducible refine GoO.part ?_
      | with_reducible refine GoT.test ?_
      | with_reducible refine GoT.b ?_
      | with_reducible refine GoT.tru ?_
      | with_reducible refine GoT.not ?_
      | with_reducible refine GoT.yes ?_
      | with_reducible refine GoG.name ?_
      | with_reducible refine GoGs.nil ?_
      | with_reducible refine GoGs.cons ?_
      | with_reducible refine GoI.ofL ?_
      | with_reducible refine GoI.ofT ?_
      | with_reducible refine GoI.str ?_
      | with_reducible refine GoI.rng1 ?_
      | with_reducible refine GoI.rng2 ?_
      | with_reducible refine GoI.enum ?_
      | with_reducible refine GoI.enumT ?_
      | with_reducible apply Go.lcM1 (K := K)
      | with_reducible apply Go.lcF1 (K := K)
      | with_reducible apply Go.lcM2 (K := K) (by decide)
      | with_reducible apply Go.lcF2 (K := K) (by decide)
      | refine Go.var rfl ?_
      | with_reducible refine Go.c ?_
      | refine GoS.retN ?_
      | refine v_mod (by first | decide | omega) ?_
      | refine v_fdiv (by first | decide | (constructor <;> omega)) ?_
      | refine v_fdivW (by omega) ?_
      | refine v_mul (by first | decide | (right; decide) | (left; decide) | (left; constructor <;> omega)) ?_
      | refine v_addI ?_
      | refine v_rU ?_
      | refine v_subI ?_
      | with_reducible refine v_is_s_str ?_
      | with_reducible refine v_is_s_int ?_
      | with_reducible refine v_is_s_bool ?_
      | with_reducible refine v_is_s_tuple ?_
      | with_reducible refine v_is_s_list ?_
      | with_reducible refine v_is_s_dict ?_
      | with_reducible refine v_is_i_str ?_
      | with_reducible refine v_is_i_int ?_
      | with_reducible refine v_is_i_bool ?_
      | with_reducible refine v_is_i_tuple ?_
      | with_reducible refine v_is_i_list ?_
      | with_reducible refine v_is_i_dict ?_
      | with_reducible refine v_is_b_str ?_
      | with_reducible refine v_is_b_int ?_
      | with_reducible refine v_is_b_bool ?_
      | with_reducible refine v_is_b_tuple ?_
      | with_reducible refine v_is_b_list ?_
      | with_reducible refine v_is_b_dict ?_
      | with_reducible refine v_is_n_str ?_
      | with_reducible refine v_is_n_int ?_
      | with_reducible refine v_is_n_bool ?_
      | with_reducible refine v_is_n_tuple ?_
      | with_reducible refine v_is_n_list ?_
      | with_reducible refine v_is_n_dict ?_
      | with_reducible refine v_is_l_str ?_
      | with_reducible refine v_is_l_int ?_
      | with_reducible refine v_is_l_bool ?_
      | with_reducible refine v_is_l_tuple ?_
      | with_reducible refine v_is_l_list ?_
      | with_reducible refine v_is_l_dict ?_
      | with_reducible refine v_is_t_str ?_
      | with_reducible refine v_is_t_int ?_
      | with_reducible refine v_is_t_bool ?_
      | with_reducible refine v_is_t_tuple ?_
      | with_reducible refine v_is_t_list ?_
      | with_reducible refine v_is_t_dict ?_
      | with_reducible refine v_is_d_str ?_
      | with_reducible refine v_is_d_int ?_
      | with_reducible refine v_is_d_bool ?_
      | with_reducible refine v_is_d_tuple ?_
      | with_reducible refine v_is_d_list ?_
      | with_reducible refine v_is_d_dict ?_
      | refine v_eqE ?_
      | refine v_neE ?_
      | refine v_eqI ?_
      | refine v_neI ?_
      | refine v_eqS ?_
      | refine v_neS ?_
      | refine v_eqB ?_
      | refine v_neB ?_
      | refine v_lt ?_
      | refine v_le ?_
      | refine v_gt ?_
      | refine v_ge ?_
      | refine v_isNO ?_
      | refine v_notNO ?_
      | refine v_notOp ?_ ?_
      | refine v_ixT rfl ?_
      | refine v_ixL rfl ?_
      | refine v_ixL (at0 _ _) ?_
      | refine v_inTS (ns := [_]) ?_
      | refine v_inTS (ns := [_, _]) ?_
      | refine v_inTS (ns := [_, _, _]) ?_
      | refine v_inTS (ns := [_, _, _, _]) ?_
      | refine v_niTS (ns := [_]) ?_
      | refine v_niTS (ns := [_, _]) ?_
      | refine v_niTS (ns := [_, _, _]) ?_
      | refine v_niTS (ns := [_, _, _, _]) ?_
      | refine v_inLS (ns := [_]) ?_
      | refine v_inLS (ns := [_, _]) ?_
      | refine v_inLS (ns := [_, _, _]) ?_
      | refine v_inLS (ns := [_, _, _, _]) ?_
      | refine v_niLS (ns := [_]) ?_
      | refine v_niLS (ns := [_, _]) ?_
      | refine v_niLS (ns := [_, _, _]) ?_
      | refine v_niLS (ns := [_, _, _, _]) ?_
      | refine v_inTI (ns := [_]) ?_
      | refine v_inTI (ns := [_, _]) ?_
      | refine v_inTI (ns := [_, _, _]) ?_
      | refine v_inTI (ns := [_, _, _, _]) ?_
      | refine v_niTI (ns := [_]) ?_
      | refine v_niTI (ns := [_, _]) ?_
      | refine v_niTI (ns := [_, _, _]) ?_
      | refine v_niTI (ns := [_, _, _, _]) ?_
      | refine v_inLI (ns := [_]) ?_
      | refine v_inLI (ns := [_, _]) ?_
      | refine v_inLI (ns := [_, _, _]) ?_
      | refine v_inLI (ns := [_, _, _, _]) ?_
      | refine v_niLI (ns := [_]) ?_
      | refine v_niLI (ns := [_, _]) ?_
      | refine v_niLI (ns := [_, _, _]) ?_
      | refine v_niLI (ns := [_, _, _, _]) ?_
      | refine v_inTI ?_
      | refine v_inLI ?_
      | refine v_inTS ?_
      | refine v_inLS ?_
      | refine v_niTI ?_
      | refine v_niLI ?_
      | refine v_niTS ?_
      | refine v_niLS ?_
      | refine v_noIn ?_
      | refine v_noNi ?_
      | refine v_isN ?_
      | refine v_notN ?_
      | refine v_inC ?_
      | refine v_niC ?_
      | refine v_catS ?_ ?_
      | refine v_lenS ?_ ?_
      | refine v_slS ?_ ?_
      | refine v_split (K := K) (by decide) ?_ ?_
      | refine v_joinE ?_ ?_
      | refine v_joinF ?_ ?_
      | refine v_startsw ?_
      | refine v_endsw ?_
      | refine v_count1 ?_
      | refine v_intI ?_
      | refine v_intS (by assumption) (by omega) ?_
      | refine v_strN (by omega) (by omega) ?_
      | refine v_intB ?_
      | refine v_max2 ?_
      | refine v_min2 ?_
      | refine v_lenL ?_
      | refine v_lenT ?_
      | refine v_slL ?_
      | refine v_slQ ?_
      | refine v_lenQ ?_
      | refine v_sumQ ?_
      | with_reducible refine Go.dnew ?_
      | refine v_sum ?_
      | refine v_tidxS ?_ ?_
      | refine v_tupL ?_
      | refine v_tupT ?_
      | refine v_lstL ?_
      | refine v_lstT ?_
      | refine v_append (pre := []) ?_ ?_
      | refine v_append (pre := [_]) ?_ ?_
      | refine v_append (pre := [_, _]) ?_ ?_
      | refine v_append (pre := [_, _, _]) ?_ ?_
      | refine v_extend (pre := []) ?_ ?_
      | refine v_extend (pre := [_]) ?_ ?_
      | refine v_lenO (pre := []) ?_
      | refine v_lenO (pre := [_]) ?_
      | refine v_lenD (pre := []) ?_
      | refine v_lenC ?_
      | refine v_cat ?_ ?_
      | exact ty_o (pre := [])
      | exact ty_o (pre := [_])
      | exact ty_s
      | exact ty_l
      | refine v_all ?_
      | refine v_any ?_
      | exact Nat.le_of_ble_eq_true rfl
      | exact nl1 (by omega) (by omega) (by decide)
      | exact nl2 (by omega) (by omega) (by decide)
      | exact nl3 (by omega) (by omega) (by decide) (by decide)
      | exact ⟨_, rfl⟩
      | exact ⟨rfl, rfl⟩
      | exact ⟨rfl, rfl, rfl⟩
      | refine ⟨_, rfl, ?_⟩
      | refine ⟨_, _, _, [], _, .inr _, rfl, rfl, rfl, ?_⟩
      | refine ⟨_, .inr _, rfl, rfl, ?_⟩
      | refine ⟨_, (by assumption), ?_⟩
      | refine ⟨_, _, _, _, rfl, rfl, ?_, fun (i9 : Int) l9 u9 => ?_⟩
      | refine ⟨_, _, _, _, rfl, rfl, ?_, fun (A9 : As) h9 => ?_⟩
      | refine ⟨_, _, rfl, ?_, ?_⟩
      | refine ⟨_, _, _, rfl, ?_, ?_⟩
      | refine ⟨_, _, rfl, ?_⟩
      | refine ⟨_, _, _, rfl, ?_⟩
      | with_reducible refine and_T (by assumption) ?_
      | with_reducible refine and_F (by assumption) ?_
      | with_reducible refine ⟨fun h => absurd h (by decide), fun _ => ?_⟩
      | with_reducible refine ⟨fun _ => ?_, fun h => absurd h (by decide)⟩
      | with_reducible refine And.intro (fun h => ?_) (fun h => ?_)
      | with_reducible intro x hx R9
      | with_reducible intro A9 h9
      | with_reducible intro _
      | trivial
      | assumption
      | refine And.intro trivial ?_
      | with_reducible refine And.intro ?_ ?_
      | omega
      | (dsimp only; omega)
      | (simp only [List.length_append, List.length_cons, List.length_nil]; omega)
      | fail))
local macro_rules | `(tactic| walk_at "cj3") => `(tactic| (repeat' first
      | exact GoS.retN rfl
      | with_reducible refine Go.cS lit_0 ?_
      | with_reducible refine Go.callTx ?_
      | with_reducible refine fin_P ?_
      | with_reducible refine fin_Q ?_
      | with_reducible refine GoS.nil ?_
      | with_reducible refine GoS.seq ?_
      | with_reducible refine GoS.ret ?_
      | with_reducible refine GoS.set ?_
      | with_reducible refine GoS.ite ?_
      | with_reducible refine GoS.drop ?_
      | with_reducible refine GoS.cut ?_
      | with_reducible refine GoS.par ?_
      | with_reducible refine GoS.par3 ?_
      | with_reducible refine GoG.tup rfl ?_
      | with_reducible refine GoS.asg ?_
      | with_reducible apply GoT.andJ
      | with_reducible apply GoT.orJ
      | with_reducible apply Go.andVJ
      | with_reducible apply Go.orVJ
      | with_reducible apply Go.chainJ
      | with_reducible refine Go.notV ?_
      | with_reducible refine Go.ite ?_
      | with_reducible refine Go.tup (K := K) ?_
      | with_reducible refine Go.lst (K := K) ?_
      | with_reducible refine Go.cb ?_
      | with_reducible refine Go.bm ?_
      | with_reducible refine Go.bm0 ?_
      | with_reducible refine Go.m1 ?_
      | with_reducible refine Go.m0 ?_
      | with_reducible refine Go.sl ?_
      | with_reducible refine Go.un ?_
      | with_reducible refine Go.op ?_
      | with_reducible refine Go.dni ?_
      | with_reducible refine Go.dgetC ?_
      | with_reducible refine Go.dget ?_
      | with_reducible refine Go.din ?_
      | with_reducible refine GoS.dput ?_
      | with_reducible refine Go.callQ3 ?_
      | with_reducible refine Go.callQ2 ?_
      | with_reducible refine Go.callQ ?_
      | with_reducible refine Go.digit ?_
      | with_reducible refine Go.pick ?_
      | with_reducible refine Go.callP3 ?_
      | with_reducible refine Go.callP2 ?_
      | with_reducible refine Go.callP0 ?_
      | with_reducible refine Go.callP ?_
      | with_reducible refine GoA.nil ?_
      | with_reducible refine GoA.cons ?_
      | with_reducible refine GoO.none ?_
      | with_reducible refine GoO.part ?_
      | with_reducible refine GoT.test ?_
      | with_reducible refine GoT.b ?_
      | with_reducible refine GoT.tru ?_
      | with_reducible refine GoT.not ?_
      | with_reducible refine GoT.yes ?_
      | with_reducible refine GoG.name ?_
      | with_reducible refine GoGs.nil ?_
      | with_reducible refine GoGs.cons ?_
      | with_reducible refine GoI.ofL ?_
      | with_reducible refine GoI.ofT ?_
      | with_reducible refine GoI.str ?_
      | with_reducible refine GoI.rng1 ?_
      | with_reducible refine GoI.rng2 ?_
      | with_reducible refine GoI.enum ?_
      | with_reducible refine GoI.enumT ?_
      | with_reducible apply Go.lcM1 (K := K)
      | with_reducible apply Go.lcF1 (K := K)
      | with_reducible apply Go.lcM2 (K := K) (by decide)
      | with_reducible apply Go.lcF2 (K := K) (by decide)
      | refine Go.var rfl ?_
      | with_reducible refine Go.c ?_
      | refine GoS.retN ?_
      | refine v_mod (by first | decide | omega) ?_
      | refine v_fdiv (by first | decide | (constructor <;> omega)) ?_
      | refine v_fdivW (by omega) ?_
      | refine v_mul (by first | decide | (right; decide) | (left; decide) | (left; constructor <;> omega)) ?_
      | refine v_addI ?_
      | refine v_rU ?_
      | refine v_subI ?_
      | with_reducible refine v_is_s_str ?_
      | with_reducible refine v_is_s_int ?_
      | with_reducible refine v_is_s_bool ?_
      | with_reducible refine v_is_s_tuple ?_
      | with_reducible refine v_is_s_list ?_
      | with_reducible refine v_is_s_dict ?_
      | with_reducible refine v_is_i_str ?_
      | with_reducible refine v_is_i_int ?_
      | with_reducible refine v_is_i_bool ?_
      | with_reducible refine v_is_i_tuple ?_
      | with_reducible refine v_is_i_list ?_
      | with_reducible refine v_is_i_dict ?_
      | with_reducible refine v_is_b_str ?_
      | with_reducible refine v_is_b_int ?_
      | with_reducible refine v_is_b_bool ?_
      | with_reducible refine v_is_b_tuple ?_
      | with_reducible refine v_is_b_list ?_
      | with_reducible refine v_is_b_dict ?_
      | with_reducible refine v_is_n_str ?_
      | with_reducible refine v_is_n_int ?_
      | with_reducible refine v_is_n_bool ?_
      | with_reducible refine v_is_n_tuple ?_
      | with_reducible refine v_is_n_list ?_
      | with_reducible refine v_is_n_dict ?_
      | with_reducible refine v_is_l_str ?_
      | with_reducible refine v_is_l_int ?_
      | with_reducible refine v_is_l_bool ?_
      | with_reducible refine v_is_l_tuple ?_
      | with_reducible refine v_is_l_list ?_
      | with_reducible refine v_is_l_dict ?_
      | with_reducible refine v_is_t_str ?_
      | with_reducible refine v_is_t_int ?_
      | with_reducible refine v_is_t_bool ?_
      | with_reducible refine v_is_t_tuple ?_
      | with_reducible refine v_is_t_list ?_
      | with_reducible refine v_is_t_dict ?_
      | with_reducible refine v_is_d_str ?_
      | with_reducible refine v_is_d_int ?_
      | with_reducible refine v_is_d_bool ?_
      | with_reducible refine v_is_d_tuple ?_
      | with_reducible refine v_is_d_list ?_
      | with_reducible refine v_is_d_dict ?_
      | refine v_eqE ?_
      | refine v_neE ?_
      | refine v_eqI ?_
      | refine v_neI ?_
      | refine v_eqS ?_
      | refine v_neS ?_
      | refine v_eqB ?_
      | refine v_neB ?_
      | refine v_lt ?_
      | refine v_le ?_
      | refine v_gt ?_
      | refine v_ge ?_
      | refine v_isNO ?_
      | refine v_notNO ?_
      | refine v_notOp ?_ ?_
      | refine v_ixT rfl ?_
      | refine v_ixL rfl ?_
      | refine v_ixL (at0 _ _) ?_
      | refine v_inTS (ns := [_]) ?_
      | refine v_inTS (ns := [_, _]) ?_
      | refine v_inTS (ns := [_, _, _]) ?_
      | refine v_inTS (ns := [_, _, _, _]) ?_
      | refine v_niTS (ns := [_]) ?_
      | refine v_niTS (ns := [_, _]) ?_
      | refine v_niTS (ns := [_, _, _]) ?_
      | refine v_niTS (ns := [_, _, _, _]) ?_
      | refine v_inLS (ns := [_]) ?_
      | refine v_inLS (ns := [_, _]) ?_
      | refine v_inLS (ns := [_, _, _]) ?_
      | refine v_inLS (ns := [_, _, _, _]) ?_
      | refine v_niLS (ns := [_]) ?_
      | refine v_niLS (ns := [_, _]) ?_
      | refine v_niLS (ns := [_, _, _]) ?_
      | refine v_niLS (ns := [_, _, _, _]) ?_
      | refine v_inTI (ns := [_]) ?_
      | refine v_inTI (ns := [_, _]) ?_
      | refine v_inTI (ns := [_, _, _]) ?_
      | refine v_inTI (ns := [_, _, _, _]) ?_
      | refine v_niTI (ns := [_]) ?_
      | refine v_niTI (ns := [_, _]) ?_
      | refine v_niTI (ns := [_, _, _]) ?_
      | refine v_niTI (ns := [_, _, _, _]) ?_
      | refine v_inLI (ns := [_]) ?_
      | refine v_inLI (ns := [_, _]) ?_
      | refine v_inLI (ns := [_, _, _]) ?_
      | refine v_inLI (ns := [_, _, _, _]) ?_
      | refine v_niLI (ns := [_]) ?_
      | refine v_niLI (ns := [_, _]) ?_
      | refine v_niLI (ns := [_, _, _]) ?_
      | refine v_niLI (ns := [_, _, _, _]) ?_
      | refine v_inTI ?_
      | refine v_inLI ?_
      | refine v_inTS ?_
      | refine v_inLS ?_
      | refine v_niTI ?_
      | refine v_niLI ?_
      | refine v_niTS ?_
      | refine v_niLS ?_
      | refine v_noIn ?_
      | refine v_noNi ?_
      | refine v_isN ?_
      | refine v_notN ?_
      | refine v_inC ?_
      | refine v_niC ?_
      | refine v_catS ?_ ?_
      | refine v_lenS ?_ ?_
      | refine v_slS ?_ ?_
      | refine v_split (K := K) (by decide) ?_ ?_
      | refine v_joinE ?_ ?_
      | refine v_joinF ?_ ?_
      | refine v_startsw ?_
      | refine v_endsw ?_
      | refine v_count1 ?_
      | refine v_intI ?_
      | refine v_intS (by assumption) (by omega) ?_
      | refine v_strN (by omega) (by omega) ?_
      | refine v_intB ?_
      | refine v_max2 ?_
      | refine v_min2 ?_
      | refine v_lenL ?_
      | refine v_lenT ?_
      | refine v_slL ?_
      | refine v_slQ ?_
      | refine v_lenQ ?_
      | refine v_sumQ ?_
      | with_reducible refine Go.dnew ?_
      | refine v_sum ?_
      | refine v_tidxS ?_ ?_
      | refine v_tupL ?_
      | refine v_tupT ?_
      | refine v_lstL ?_
      | refine v_lstT ?_
      | refine v_append (pre := []) ?_ ?_
      | refine v_append (pre := [_]) ?_ ?_
      | refine v_append (pre := [_, _]) ?_ ?_
      | refine v_append (pre := [_, _, _]) ?_ ?_
      | refine v_extend (pre := []) ?_ ?_
      | refine v_extend (pre := [_]) ?_ ?_
      | refine v_lenO (pre := []) ?_
      | refine v_lenO (pre := [_]) ?_
      | refine v_lenD (pre := []) ?_
      | refine v_lenC ?_
      | refine v_cat ?_ ?_
      | exact ty_o (pre := [])
      | exact ty_o (pre := [_])
      | exact ty_s
      | exact ty_l
      | refine v_all ?_
      | refine v_any ?_
      | exact Nat.le_of_ble_eq_true rfl
      | exact nl1 (by omega) (by omega) (by decide)
      | exact nl2 (by omega) (by omega) (by decide)
      | exact nl3 (by omega) (by omega) (by decide) (by decide)
      | exact ⟨_, rfl⟩
      | exact ⟨rfl, rfl⟩
      | exact ⟨rfl, rfl, rfl⟩
      | refine ⟨_, rfl, ?_⟩
      | refine ⟨_, _, _, [], _, .inr _, rfl, rfl, rfl, ?_⟩
      | refine ⟨_, .inr _, rfl, rfl, ?_⟩
      | refine ⟨_, (by assumption), ?_⟩
      | refine ⟨_, _, _, _, rfl, rfl, ?_, fun (i9 : Int) l9 u9 => ?_⟩
      | refine ⟨_, _, _, _, rfl, rfl, ?_, fun (A9 : As) h9 => ?_⟩
      | refine ⟨_, _, rfl, ?_, ?_⟩
      | refine ⟨_, _, _, rfl, ?_, ?_⟩
      | refine ⟨_, _, rfl, ?_⟩
      | refine ⟨_, _, _, rfl, ?_⟩
      | with_reducible refine and_T (by assumption) ?_
      | with_reducible refine and_F (by assumption) ?_
      | with_reducible refine ⟨fun h => absurd h (by decide), fun _ => ?_⟩
      | with_reducible refine ⟨fun _ => ?_, fun h => absurd h (by decide)⟩
      | with_reducible refine And.intro (fun h => ?_) (fun h => ?_)
      | with_reducible intro x hx R9
      | with_reducible intro A9 h9
      | with_reducible intro _
      | omega
      | (simp only [List.length_map, List.length_append, List.length_cons, List.length_nil, List.length_range]; omega)
      | exact True.intro
      | exact rfl
      | assumption
      | refine And.intro trivial ?_
      | with_reducible refine And.intro ?_ ?_
      | omega
      | (dsimp only; omega)
      | (simp only [List.length_append, List.length_cons, List.length_nil]; omega)
      | fail))
local macro_rules | `(tactic| walk_at "cj4") => `(tactic| (repeat' first
      | exact GoS.retN rfl
      | with_reducible refine Go.cS lith_2e ?_
      | with_reducible refine fin_P ?_
      | with_reducible refine fin_Q ?_
      | with_reducible refine GoS.nil ?_
      | with_reducible refine GoS.seq ?_
      | with_reducible refine GoS.ret ?_
      | with_reducible refine GoS.set ?_
      | with_reducible refine GoS.ite ?_
      | with_reducible refine GoS.drop ?_
      | with_reducible refine GoS.cut ?_
      | with_reducible refine GoS.par ?_
      | with_reducible refine GoS.par3 ?_
      | with_reducible refine GoG.tup rfl ?_
      | with_reducible refine GoS.asg ?_
      | with_reducible apply GoT.andJ
      | with_reducible apply GoT.orJ
      | with_reducible apply Go.andVJ
      | with_reducible apply Go.orVJ
      | with_reducible apply Go.chainJ
      | with_reducible refine Go.notV ?_
      | with_reducible refine Go.ite ?_
      | with_reducible refine Go.tup (K := K) ?_
      | with_reducible refine Go.lst (K := K) ?_
      | with_reducible refine Go.cb ?_
      | with_reducible refine Go.bm ?_
      | with_reducible refine Go.bm0 ?_
      | with_reducible refine Go.m1 ?_
      | with_reducible refine Go.m0 ?_
      | with_reducible refine Go.sl ?_
      | with_reducible refine Go.un ?_
      | with_reducible refine Go.op ?_
      | with_reducible refine Go.dni ?_
      | with_reducible refine Go.dgetC ?_
      | with_reducible refine Go.dget ?_
      | with_reducible refine Go.din ?_
      | with_reducible refine GoS.dput ?_
      | with_reducible refine Go.callQ3 ?_
      | with_reducible refine Go.callQ2 ?_
      | with_reducible refine Go.callQ ?_
      | with_reducible refine Go.digit ?_
      | with_reducible refine Go.pick ?_
      | with_reducible refine Go.callP3 ?_
      | with_reducible refine Go.callP2 ?_
      | with_reducible refine Go.callP0 ?_
      | with_reducible refine Go.callP ?_
      | with_reducible refine GoA.nil ?_
      | with_reducible refine GoA.cons ?_
      | with_reducible refine GoO.none ?_
      | with_reducible refine GoO.part ?_
      | with_reducible refine GoT.test ?_
      | with_reducible refine GoT.b ?_
      | with_reducible refine GoT.tru ?_
      | with_reducible refine GoT.not ?_
      | with_reducible refine GoT.yes ?_
      | with_reducible refine GoG.name ?_
      | with_reducible refine GoGs.nil ?_
      | with_reducible refine GoGs.cons ?_
      | with_reducible refine GoI.ofL ?_
      | with_reducible refine GoI.ofT ?_
      | with_reducible refine GoI.str ?_
      | with_reducible refine GoI.rng1 ?_
      | with_reducible refine GoI.rng2 ?_
      | with_reducible refine GoI.enum ?_
      | with_reducible refine GoI.enumT ?_
      | with_reducible apply Go.lcM1 (K := K)
      | with_reducible apply Go.lcF1 (K := K)
      | with_reducible apply Go.lcM2 (K := K) (by decide)
      | with_reducible apply Go.lcF2 (K := K) (by decide)
      | refine Go.var rfl ?_
      | with_reducible refine Go.c ?_
      | refine GoS.retN ?_
      | refine v_mod (by first | decide | omega) ?_
      | refine v_fdiv (by first | decide | (constructor <;> omega)) ?_
      | refine v_fdivW (by omega) ?_
      | refine v_mul (by first | decide | (right; decide) | (left; decide) | (left; constructor <;> omega)) ?_
      | refine v_addI ?_
      | refine v_rU ?_
      | refine v_subI ?_
      | with_reducible refine v_is_s_str ?_
      | with_reducible refine v_is_s_int ?_
      | with_reducible refine v_is_s_bool ?_
      | with_reducible refine v_is_s_tuple ?_
      | with_reducible refine v_is_s_list ?_
      | with_reducible refine v_is_s_dict ?_
      | with_reducible refine v_is_i_str ?_
      | with_reducible refine v_is_i_int ?_
      | with_reducible refine v_is_i_bool ?_
      | with_reducible refine v_is_i_tuple ?_
      | with_reducible refine v_is_i_list ?_
      | with_reducible refine v_is_i_dict ?_
      | with_reducible refine v_is_b_str ?_
      | with_reducible refine v_is_b_int ?_
      | with_reducible refine v_is_b_bool ?_
      | with_reducible refine v_is_b_tuple ?_
      | with_reducible refine v_is_b_list ?_
      | with_reducible refine v_is_b_dict ?_
      | with_reducible refine v_is_n_str ?_
      | with_reducible refine v_is_n_int ?_
      | with_reducible refine v_is_n_bool ?_
      | with_reducible refine v_is_n_tuple ?_
      | with_reducible refine v_is_n_list ?_
      | with_reducible refine v_is_n_dict ?_
      | with_reducible refine v_is_l_str ?_
      | with_reducible refine v_is_l_int ?_
      | with_reducible refine v_is_l_bool ?_
      | with_reducible refine v_is_l_tuple ?_
      | with_reducible refine v_is_l_list ?_
      | with_reducible refine v_is_l_dict ?_
      | with_reducible refine v_is_t_str ?_
      | with_reducible refine v_is_t_int ?_
      | with_reducible refine v_is_t_bool ?_
      | with_reducible refine v_is_t_tuple ?_
      | with_reducible refine v_is_t_list ?_
      | with_reducible refine v_is_t_dict ?_
      | with_reducible refine v_is_d_str ?_
      | with_reducible refine v_is_d_int ?_
      | with_reducible refine v_is_d_bool ?_
      | with_reducible refine v_is_d_tuple ?_
      | with_reducible refine v_is_d_list ?_
      | with_reducible refine v_is_d_dict ?_
      | refine v_eqE ?_
      | refine v_neE ?_
      | refine v_eqI ?_
      | refine v_neI ?_
      | refine v_eqS ?_
      | refine v_neS ?_
      | refine v_eqB ?_
      | refine v_neB ?_
      | refine v_lt ?_
      | refine v_le ?_
      | refine v_gt ?_
      | refine v_ge ?_
      | refine v_isNO ?_
      | refine v_notNO ?_
      | refine v_notOp ?_ ?_
      | refine v_ixT rfl ?_
      | refine v_ixL rfl ?_
      | refine v_ixL (at0 _ _) ?_
      | refine v_inTS (ns := [_]) ?_
      | refine v_inTS (ns := [_, _]) ?_
      | refine v_inTS (ns := [_, _, _]) ?_
      | refine v_inTS (ns := [_, _, _, _]) ?_
      | refine v_niTS (ns := [_]) ?_
      | refine v_niTS (ns := [_, _]) ?_
      | refine v_niTS (ns := [_, _, _]) ?_
      | refine v_niTS (ns := [_, _, _, _]) ?_
      | refine v_inLS (ns := [_]) ?_
      | refine v_inLS (ns := [_, _]) ?_
      | refine v_inLS (ns := [_, _, _]) ?_
      | refine v_inLS (ns := [_, _, _, _]) ?_
      | refine v_niLS (ns := [_]) ?_
      | refine v_niLS (ns := [_, _]) ?_
      | refine v_niLS (ns := [_, _, _]) ?_
      | refine v_niLS (ns := [_, _, _, _]) ?_
      | refine v_inTI (ns := [_]) ?_
      | refine v_inTI (ns := [_, _]) ?_
      | refine v_inTI (ns := [_, _, _]) ?_
      | refine v_inTI (ns := [_, _, _, _]) ?_
      | refine v_niTI (ns := [_]) ?_
      | refine v_niTI (ns := [_, _]) ?_
      | refine v_niTI (ns := [_, _, _]) ?_
      | refine v_niTI (ns := [_, _, _, _]) ?_
      | refine v_inLI (ns := [_]) ?_
      | refine v_inLI (ns := [_, _]) ?_
      | refine v_inLI (ns := [_, _, _]) ?_
      | refine v_inLI (ns := [_, _, _, _]) ?_
      | refine v_niLI (ns := [_]) ?_
      | refine v_niLI (ns := [_, _]) ?_
      | refine v_niLI (ns := [_, _, _]) ?_
      | refine v_niLI (ns := [_, _, _, _]) ?_
      | refine v_inTI ?_
      | refine v_inLI ?_
      | refine v_inTS ?_
      | refine v_inLS ?_
      | refine v_niTI ?_
      | refine v_niLI ?_
      | refine v_niTS ?_
      | refine v_niLS ?_
      | refine v_noIn ?_
      | refine v_noNi ?_
      | refine v_isN ?_
      | refine v_notN ?_
      | refine v_inC ?_
      | refine v_niC ?_
      | refine v_catS ?_ ?_
      | refine v_lenS ?_ ?_
      | refine v_slS ?_ ?_
      | refine v_split (K := K) (by decide) ?_ ?_
      | refine v_joinE ?_ ?_
      | refine v_joinF ?_ ?_
      | refine v_startsw ?_
      | refine v_endsw ?_
      | refine v_count1 ?_
      | refine v_intI ?_
      | refine v_intS (by assumption) (by omega) ?_
      | refine v_strN (by omega) (by omega) ?_
      | refine v_intB ?_
      | refine v_max2 ?_
      | refine v_min2 ?_
      | refine v_lenL ?_
      | refine v_lenT ?_
      | refine v_slL ?_
      | refine v_slQ ?_
      | refine v_lenQ ?_
      | refine v_sumQ ?_
      | with_reducible refine Go.dnew ?_
      | refine v_sum ?_
      | refine v_tidxS ?_ ?_
      | refine v_tupL ?_
      | refine v_tupT ?_
      | refine v_lstL ?_
      | refine v_lstT ?_
      | refine v_append (pre := []) ?_ ?_
      | refine v_append (pre := [_]) ?_ ?_
      | refine v_append (pre := [_, _]) ?_ ?_
      | refine v_append (pre := [_, _, _]) ?_ ?_
      | refine v_extend (pre := []) ?_ ?_
      | refine v_extend (pre := [_]) ?_ ?_
      | refine v_lenO (pre := []) ?_
      | refine v_lenO (pre := [_]) ?_
      | refine v_lenD (pre := []) ?_
      | refine v_lenC ?_
      | refine v_cat ?_ ?_
      | exact ty_o (pre := [])
      | exact ty_o (pre := [_])
      | exact ty_s
      | exact ty_l
      | refine v_all ?_
      | refine v_any ?_
      | exact Nat.le_of_ble_eq_true rfl
      | exact nl1 (by omega) (by omega) (by decide)
      | exact nl2 (by omega) (by omega) (by decide)
      | exact nl3 (by omega) (by omega) (by decide) (by decide)
      | exact ⟨_, rfl⟩
      | exact ⟨rfl, rfl⟩
      | exact ⟨rfl, rfl, rfl⟩
      | refine ⟨_, rfl, ?_⟩
      | refine ⟨_, _, _, [], _, .inr _, rfl, rfl, rfl, ?_⟩
      | refine ⟨_, .inr _, rfl, rfl, ?_⟩
      | refine ⟨_, (by assumption), ?_⟩
      | refine ⟨_, _, _, _, rfl, rfl, ?_, fun (i9 : Int) l9 u9 => ?_⟩
      | refine ⟨_, _, _, _, rfl, rfl, ?_, fun (A9 : As) h9 => ?_⟩
      | refine ⟨_, _, rfl, ?_, ?_⟩
      | refine ⟨_, _, _, rfl, ?_, ?_⟩
      | refine ⟨_, _, rfl, ?_⟩
      | refine ⟨_, _, _, rfl, ?_⟩
      | with_reducible refine and_T (by assumption) ?_
      | with_reducible refine and_F (by assumption) ?_
      | with_reducible refine ⟨fun h => absurd h (by decide), fun _ => ?_⟩
      | with_reducible refine ⟨fun _ => ?_, fun h => absurd h (by decide)⟩
      | with_reducible refine And.intro (fun h => ?_) (fun h => ?_)
      | with_reducible intro x hx R9
      | with_reducible intro A9 h9
      | with_reducible intro _
      | omega
      | (simp only [List.length_map, List.length_append, List.length_cons, List.length_nil, List.length_range]; omega)
      | exact True.intro
      | exact rfl
      | assumption
      | refine And.intro trivial ?_
      | with_reducible refine And.intro ?_ ?_
      | omega
      | (dsimp only; omega)
      | (simp only [List.length_append, List.length_cons, List.length_nil]; omega)
      | fail))
local macro_rules | `(tactic| walk_at "cj5") => `(tactic| (repeat' first
      | with_reducible refine Go.callTx ?_
      | with_reducible refine Stp.go ?_
      | ((with_reducible apply Go.var); (focus exact rfl))
      | exact GoS.retN rfl
      | with_reducible refine GoS.ret ?_
      | with_reducible refine Go.ite ?_
      | with_reducible refine Go.pick ?_
      | with_reducible refine Go.tup (K := K) ?_
      | with_reducible refine Go.lst (K := K) ?_
      | with_reducible refine GoI.enumS (K := K) ?_
      | with_reducible refine Go.bm ?_
      | with_reducible apply GoT.andJ
      | with_reducible apply GoT.orJ
      | with_reducible apply Go.andVJ
      | with_reducible apply Go.orVJ
      | with_reducible apply Go.chainJ
      | with_reducible refine Go.c ?_
      | with_reducible refine Go.dni ?_
      | with_reducible refine Go.dgetC ?_
      | with_reducible refine Go.dget ?_
      | with_reducible refine Go.din ?_
      | with_reducible refine GoS.dput ?_
      | with_reducible refine Go.callQ3 ?_
      | with_reducible refine Go.callQ2 ?_
      | with_reducible refine Go.callQ ?_
      | with_reducible refine Go.callP0 ?_
      | with_reducible apply Go.lcM1 (K := K)
      | with_reducible apply Go.lcF1 (K := K)
      | with_reducible apply Go.lcM2 (K := K) (by decide)
      | with_reducible apply Go.lcF2 (K := K) (by decide)
      | ((with_reducible apply v_ixT); (focus exact rfl))
      | ((with_reducible apply v_ixL); (focus exact rfl))
      | ((with_reducible apply v_ixL); (focus exact at0 _ _))
      | refine v_tidxS ?_ ?_
      | refine v_split (K := K) (by decide) ?_ ?_
      | ((with_reducible refine Sde.mk ?_); first | (right; decide) | (left; decide) | (left; constructor <;> omega))
      | with_reducible refine and_T (by assumption) ?_
      | with_reducible refine and_F (by assumption) ?_
      | with_reducible refine ⟨fun h => absurd h (by decide), fun _ => ?_⟩
      | with_reducible refine ⟨fun _ => ?_, fun h => absurd h (by decide)⟩
      | with_reducible refine And.intro (fun h => ?_) (fun h => ?_)
      | exact ⟨_, rfl⟩
      | exact ⟨rfl, rfl⟩
      | exact ⟨rfl, rfl, rfl⟩
      | refine ⟨_, rfl, ?_⟩
      | refine ⟨_, _, _, [], _, .inr _, rfl, rfl, rfl, ?_⟩
      | refine ⟨_, _, _, [_], _, .inr _, rfl, rfl, rfl, ?_⟩
      | refine ⟨_, _, _, [_, _], _, .inr _, rfl, rfl, rfl, ?_⟩
      | refine ⟨_, .inr _, rfl, rfl, ?_⟩
      | refine ⟨_, (by assumption), ?_⟩
      | refine ⟨_, _, _, _, rfl, rfl, ?_, fun (i9 : Int) l9 u9 => ?_⟩
      | refine ⟨_, _, _, _, rfl, rfl, ?_, fun (A9 : As) h9 => ?_⟩
      | refine ⟨_, _, rfl, ?_, ?_⟩
      | refine ⟨_, _, _, rfl, ?_, ?_⟩
      | refine ⟨_, _, rfl, ?_⟩
      | refine ⟨_, _, _, rfl, ?_⟩
      | with_reducible exact ff9
      | with_reducible exact tf9
      | with_reducible intro x hx R9
      | with_reducible intro A9 h9
      | with_reducible intro _
      | exact True.intro
      | (simp only [repL_len, List.length_cons, List.length_nil, List.length_append, List.length_replicate]; decide)
      | exact Nat.le_of_ble_eq_true rfl
      | exact rfl
      | assumption
      | omega
      | (simp only [List.length_map, List.length_append, List.length_cons, List.length_nil, List.length_range]; omega)
      | exact nl1 (by omega) (by omega) (by decide)
      | exact nl2 (by omega) (by omega) (by decide)
      | exact nl3 (by omega) (by omega) (by decide) (by decide)
      | refine And.intro trivial ?_
      | with_reducible refine And.intro ?_ ?_
      | (dsimp only; omega)
      | exact false
      | fail))
local macro_rules | `(tactic| walk_at "cj6") => `(tactic| (repeat' first
      | with_reducible refine Go.callTx ?_
      | with_reducible refine Stp.go ?_
      | ((with_reducible apply Go.var); (focus exact rfl))
      | exact GoS.retN rfl
      | with_reducible refine Go.bmW T.t_SCHEMES T.w_SCHEMES ?_
      | with_reducible refine Go.cWS T.w_SCHEMES ?_
      | with_reducible refine GoS.ret ?_
      | with_reducible refine Go.ite ?_
      | with_reducible refine Go.pick ?_
      | with_reducible refine Go.tup (K := K) ?_
      | with_reducible refine Go.lst (K := K) ?_
      | with_reducible refine GoI.enumS (K := K) ?_
      | with_reducible refine Go.bm ?_
      | with_reducible apply GoT.andJ
      | with_reducible apply GoT.orJ
      | with_reducible apply Go.andVJ
      | with_reducible apply Go.orVJ
      | with_reducible apply Go.chainJ
      | with_reducible refine Go.c ?_
      | with_reducible refine Go.dni ?_
      | with_reducible refine Go.dgetC ?_
      | with_reducible refine Go.dget ?_
      | with_reducible refine Go.din ?_
      | with_reducible refine GoS.dput ?_
      | with_reducible refine Go.callQ3 ?_
      | with_reducible refine Go.callQ2 ?_
      | with_reducible refine Go.callQ ?_
      | with_reducible refine Go.callP0 ?_
      | with_reducible apply Go.lcM1 (K := K)
      | with_reducible apply Go.lcF1 (K := K)
      | with_reducible apply Go.lcM2 (K := K) (by decide)
      | with_reducible apply Go.lcF2 (K := K) (by decide)
      | ((with_reducible apply v_ixT); (focus exact rfl))
      | ((with_reducible apply v_ixL); (focus exact rfl))
      | ((with_reducible apply v_ixL); (focus exact at0 _ _))
      | refine v_tidxS ?_ ?_
      | refine v_split (K := K) (by decide) ?_ ?_
      | ((with_reducible refine Sde.mk ?_); first | (right; decide) | (left; decide) | (left; constructor <;> omega))
      | with_reducible refine and_T (by assumption) ?_
      | with_reducible refine and_F (by assumption) ?_
      | with_reducible refine ⟨fun h => absurd h (by decide), fun _ => ?_⟩
      | with_reducible refine ⟨fun _ => ?_, fun h => absurd h (by decide)⟩
      | with_reducible refine And.intro (fun h => ?_) (fun h => ?_)
      | exact ⟨_, rfl⟩
      | exact ⟨rfl, rfl⟩
      | exact ⟨rfl, rfl, rfl⟩
      | refine ⟨_, rfl, ?_⟩
      | refine ⟨_, _, _, [], _, .inr _, rfl, rfl, rfl, ?_⟩
      | refine ⟨_, _, _, [_], _, .inr _, rfl, rfl, rfl, ?_⟩
      | refine ⟨_, _, _, [_, _], _, .inr _, rfl, rfl, rfl, ?_⟩
      | refine ⟨_, .inr _, rfl, rfl, ?_⟩
      | refine ⟨_, (by assumption), ?_⟩
      | refine ⟨_, _, _, _, rfl, rfl, ?_, fun (i9 : Int) l9 u9 => ?_⟩
      | refine ⟨_, _, _, _, rfl, rfl, ?_, fun (A9 : As) h9 => ?_⟩
      | refine ⟨_, _, rfl, ?_, ?_⟩
      | refine ⟨_, _, _, rfl, ?_, ?_⟩
      | refine ⟨_, _, rfl, ?_⟩
      | refine ⟨_, _, _, rfl, ?_⟩
      | with_reducible exact ff9
      | with_reducible exact tf9
      | with_reducible intro x hx R9
      | with_reducible intro A9 h9
      | with_reducible intro _
      | exact True.intro
      | (simp only [repL_len, List.length_cons, List.length_nil, List.length_append, List.length_replicate]; decide)
      | exact Nat.le_of_ble_eq_true rfl
      | exact rfl
      | assumption
      | omega
      | (simp only [List.length_map, List.length_append, List.length_cons, List.length_nil, List.length_range]; omega)
      | exact nl1 (by omega) (by omega) (by decide)
      | exact nl2 (by omega) (by omega) (by decide)
      | exact nl3 (by omega) (by omega) (by decide) (by decide)
      | refine And.intro trivial ?_
      | with_reducible refine And.intro ?_ ?_
      | (dsimp only; omega)
      | exact false
      | fail))
local macro_rules | `(tactic| walk_at "cj7") => `(tactic| (repeat' first
      | with_reducible refine Go.callTx ?_
      | with_reducible refine Stp.go ?_
      | ((with_reducible apply Go.var); (focus exact rfl))
      | exact GoS.retN rfl
      | with_reducible refine Go.bmW T.t_SAMES_pieces T.w_SAMES_pieces ?_
      | with_reducible refine Go.cWS T.w_SAMES_pieces ?_
      | with_reducible refine GoS.ret ?_
      | with_reducible refine GoS.ite ?_
      | with_reducible refine Go.ite ?_
      | with_reducible refine Go.pick ?_
      | with_reducible refine Go.tup (K := K) ?_
      | with_reducible refine Go.lst (K := K) ?_
      | with_reducible refine GoI.enumS (K := K) ?_
      | with_reducible refine Go.bm ?_
      | with_reducible apply GoT.andJ
      | with_reducible apply GoT.orJ
      | with_reducible apply Go.andVJ
      | with_reducible apply Go.orVJ
      | with_reducible apply Go.chainJ
      | with_reducible refine Go.c ?_
      | with_reducible refine Go.dni ?_
      | with_reducible refine Go.dgetC ?_
      | with_reducible refine Go.dget ?_
      | with_reducible refine Go.din ?_
      | with_reducible refine GoS.dput ?_
      | with_reducible refine Go.callQ3 ?_
      | with_reducible refine Go.callQ2 ?_
      | with_reducible refine Go.callQ ?_
      | with_reducible refine Go.callP0 ?_
      | with_reducible apply Go.lcM1 (K := K)
      | with_reducible apply Go.lcF1 (K := K)
      | with_reducible apply Go.lcM2 (K := K) (by decide)
      | with_reducible apply Go.lcF2 (K := K) (by decide)
      | ((with_reducible apply v_ixT); (focus exact rfl))
      | ((with_reducible apply v_ixL); (focus exact rfl))
      | ((with_reducible apply v_ixL); (focus exact at0 _ _))
      | refine v_tidxS ?_ ?_
      | refine v_split (K := K) (by decide) ?_ ?_
      | ((with_reducible refine Sde.mk ?_); first | (right; decide) | (left; decide) | (left; constructor <;> omega))
      | with_reducible refine and_T (by assumption) ?_
      | with_reducible refine and_F (by assumption) ?_
      | with_reducible refine ⟨fun h => absurd h (by decide), fun _ => ?_⟩
      | with_reducible refine ⟨fun _ => ?_, fun h => absurd h (by decide)⟩
      | with_reducible refine And.intro (fun h => ?_) (fun h => ?_)
      | exact ⟨_, rfl⟩
      | exact ⟨rfl, rfl⟩
      | exact ⟨rfl, rfl, rfl⟩
      | refine ⟨_, rfl, ?_⟩
      | refine ⟨_, _, _, [], _, .inr _, rfl, rfl, rfl, ?_⟩
      | refine ⟨_, _, _, [_], _, .inr _, rfl, rfl, rfl, ?_⟩
      | refine ⟨_, _, _, [_, _], _, .inr _, rfl, rfl, rfl, ?_⟩
      | refine ⟨_, .inr _, rfl, rfl, ?_⟩
      | refine ⟨_, (by assumption), ?_⟩
      | refine ⟨_, _, _, _, rfl, rfl, ?_, fun (i9 : Int) l9 u9 => ?_⟩
      | refine ⟨_, _, _, _, rfl, rfl, ?_, fun (A9 : As) h9 => ?_⟩
      | refine ⟨_, _, rfl, ?_, ?_⟩
      | refine ⟨_, _, _, rfl, ?_, ?_⟩
      | refine ⟨_, _, rfl, ?_⟩
      | refine ⟨_, _, _, rfl, ?_⟩
      | with_reducible exact ff9
      | with_reducible exact tf9
      | with_reducible intro x hx R9
      | with_reducible intro A9 h9
      | with_reducible intro _
      | exact True.intro
      | (simp only [repL_len, List.length_cons, List.length_nil, List.length_append, List.length_replicate]; decide)
      | exact Nat.le_of_ble_eq_true rfl
      | exact rfl
      | assumption
      | omega
      | (simp only [List.length_map, List.length_append, List.length_cons, List.length_nil, List.length_range]; omega)
      | exact nl1 (by omega) (by omega) (by decide)
      | exact nl2 (by omega) (by omega) (by decide)
      | exact nl3 (by omega) (by omega) (by decide) (by decide)
      | refine And.intro trivial ?_
      | with_reducible refine And.intro ?_ ?_
      | (dsimp only; omega)
      | exact false
      | fail))
local macro_rules | `(tactic| walk_at "cj8") => `(tactic| (repeat' first
      | with_reducible refine Go.callTx ?_
      | with_reducible refine Stp.go ?_
      | ((with_reducible apply Go.var); (focus exact rfl))
      | exact GoS.retN rfl
      | with_reducible refine Go.fld T.K_Line.c T.n_Line_line_settings ?_
      | with_reducible refine GoS.fld T.K_Line.c T.n_Line_line_settings ?_
      | with_reducible refine GoS.ret ?_
      | with_reducible refine GoS.ite ?_
      | with_reducible refine Go.ite ?_
      | with_reducible refine Go.pick ?_
      | with_reducible refine Go.tup (K := K) ?_
      | with_reducible refine Go.lst (K := K) ?_
      | with_reducible refine GoI.enumS (K := K) ?_
      | with_reducible refine Go.bm ?_
      | with_reducible apply GoT.andJ
      | with_reducible apply GoT.orJ
      | with_reducible apply Go.andVJ
      | with_reducible apply Go.orVJ
      | with_reducible apply Go.chainJ
      | with_reducible refine Go.c ?_
      | with_reducible refine Go.dni ?_
      | with_reducible refine Go.dgetC ?_
      | with_reducible refine Go.dget ?_
      | with_reducible refine Go.din ?_
      | with_reducible refine GoS.dput ?_
      | with_reducible refine Go.callQ3 ?_
      | with_reducible refine Go.callQ2 ?_
      | with_reducible refine Go.callQ ?_
      | with_reducible refine Go.callP0 ?_
      | with_reducible apply Go.lcM1 (K := K)
      | with_reducible apply Go.lcF1 (K := K)
      | with_reducible apply Go.lcM2 (K := K) (by decide)
      | with_reducible apply Go.lcF2 (K := K) (by decide)
      | ((with_reducible apply v_ixT); (focus exact rfl))
      | ((with_reducible apply v_ixL); (focus exact rfl))
      | ((with_reducible apply v_ixL); (focus exact at0 _ _))
      | refine v_tidxS ?_ ?_
      | refine v_split (K := K) (by decide) ?_ ?_
      | ((with_reducible refine Sde.mk ?_); first | (right; decide) | (left; decide) | (left; constructor <;> omega))
      | with_reducible refine and_T (by assumption) ?_
      | with_reducible refine and_F (by assumption) ?_
      | with_reducible refine ⟨fun h => absurd h (by decide), fun _ => ?_⟩
      | with_reducible refine ⟨fun _ => ?_, fun h => absurd h (by decide)⟩
      | with_reducible refine And.intro (fun h => ?_) (fun h => ?_)
      | exact ⟨_, rfl⟩
      | exact ⟨rfl, rfl⟩
      | exact ⟨rfl, rfl, rfl⟩
      | refine ⟨_, rfl, ?_⟩
      | refine ⟨_, _, _, [], _, .inr _, rfl, rfl, rfl, ?_⟩
      | refine ⟨_, _, _, [_], _, .inr _, rfl, rfl, rfl, ?_⟩
      | refine ⟨_, _, _, [_, _], _, .inr _, rfl, rfl, rfl, ?_⟩
      | refine ⟨_, .inr _, rfl, rfl, ?_⟩
      | refine ⟨_, (by assumption), ?_⟩
      | refine ⟨_, _, _, _, rfl, rfl, ?_, fun (i9 : Int) l9 u9 => ?_⟩
      | refine ⟨_, _, _, _, rfl, rfl, ?_, fun (A9 : As) h9 => ?_⟩
      | refine ⟨_, _, rfl, ?_, ?_⟩
      | refine ⟨_, _, _, rfl, ?_, ?_⟩
      | refine ⟨_, _, rfl, ?_⟩
      | refine ⟨_, _, _, rfl, ?_⟩
      | with_reducible exact ff9
      | with_reducible exact tf9
      | with_reducible intro x hx R9
      | with_reducible intro A9 h9
      | with_reducible intro _
      | exact True.intro
      | (simp only [repL_len, List.length_cons, List.length_nil, List.length_append, List.length_replicate]; decide)
      | exact Nat.le_of_ble_eq_true rfl
      | exact rfl
      | assumption
      | omega
      | (simp only [List.length_map, List.length_append, List.length_cons, List.length_nil, List.length_range]; omega)
      | exact nl1 (by omega) (by omega) (by decide)
      | exact nl2 (by omega) (by omega) (by decide)
      | exact nl3 (by omega) (by omega) (by decide) (by decide)
      | refine And.intro trivial ?_
      | with_reducible refine And.intro ?_ ?_
      | (dsimp only; omega)
      | exact false
      | fail))
local macro_rules | `(tactic| walk_at "cj9") => `(tactic| (repeat' first
      | with_reducible refine Go.callTx ?_
      | with_reducible refine Stp.go ?_
      | ((with_reducible apply Go.var); (focus exact rfl))
      | exact GoS.retN rfl
      | with_reducible refine GoS.ite ?_
      | with_reducible refine Go.ite ?_
      | with_reducible refine Go.pick ?_
      | with_reducible refine Go.tup (K := K) ?_
      | with_reducible refine Go.lst (K := K) ?_
      | with_reducible refine GoI.enumS (K := K) ?_
      | with_reducible refine Go.bm ?_
      | with_reducible apply GoT.andJ
      | with_reducible apply GoT.orJ
      | with_reducible apply Go.orVJ
      | with_reducible apply Go.chainJ
      | with_reducible refine Go.c ?_
      | with_reducible refine Go.dni ?_
      | with_reducible refine Go.dgetC ?_
      | with_reducible refine Go.dget ?_
      | with_reducible refine Go.din ?_
      | with_reducible refine GoS.dput ?_
      | with_reducible refine Go.callQ3 ?_
      | with_reducible refine Go.callQ2 ?_
      | with_reducible refine Go.callQ ?_
      | with_reducible refine Go.callP0 ?_
      | with_reducible apply Go.lcM1 (K := K)
      | with_reducible apply Go.lcF1 (K := K)
      | with_reducible apply Go.lcM2 (K := K) (by decide)
      | with_reducible apply Go.lcF2 (K := K) (by decide)
      | ((with_reducible apply v_ixT); (focus exact rfl))
      | ((with_reducible apply v_ixL); (focus exact rfl))
      | ((with_reducible apply v_ixL); (focus exact at0 _ _))
      | refine v_tidxS ?_ ?_
      | refine v_split (K := K) (by decide) ?_ ?_
      | ((with_reducible refine Sde.mk ?_); first | (right; decide) | (left; decide) | (left; constructor <;> omega))
      | with_reducible refine and_T (by assumption) ?_
      | with_reducible refine and_F (by assumption) ?_
      | with_reducible refine ⟨fun h => absurd h (by decide), fun _ => ?_⟩
      | with_reducible refine ⟨fun _ => ?_, fun h => absurd h (by decide)⟩
      | with_reducible refine And.intro (fun h => ?_) (fun h => ?_)
      | exact ⟨_, rfl⟩
      | exact ⟨rfl, rfl⟩
      | exact ⟨rfl, rfl, rfl⟩
      | refine ⟨_, rfl, ?_⟩
      | refine ⟨_, _, _, [], _, .inr _, rfl, rfl, rfl, ?_⟩
      | refine ⟨_, _, _, [_], _, .inr _, rfl, rfl, rfl, ?_⟩
      | refine ⟨_, _, _, [_, _], _, .inr _, rfl, rfl, rfl, ?_⟩
      | refine ⟨_, .inr _, rfl, rfl, ?_⟩
      | refine ⟨_, (by assumption), ?_⟩
      | refine ⟨_, _, _, _, rfl, rfl, ?_, fun (i9 : Int) l9 u9 => ?_⟩
      | refine ⟨_, _, _, _, rfl, rfl, ?_, fun (A9 : As) h9 => ?_⟩
      | refine ⟨_, _, rfl, ?_, ?_⟩
      | refine ⟨_, _, _, rfl, ?_, ?_⟩
      | refine ⟨_, _, rfl, ?_⟩
      | refine ⟨_, _, _, rfl, ?_⟩
      | with_reducible exact ff9
      | with_reducible exact tf9
      | with_reducible intro x hx R9
      | with_reducible intro A9 h9
      | with_reducible intro _
      | exact True.intro
      | (simp only [repL_len, List.length_cons, List.length_nil, List.length_append, List.length_replicate]; decide)
      | exact Nat.le_of_ble_eq_true rfl
      | exact rfl
      | assumption
      | omega
      | (simp only [List.length_map, List.length_append, List.length_cons, List.length_nil, List.length_range]; omega)
      | exact nl1 (by omega) (by omega) (by decide)
      | exact nl2 (by omega) (by omega) (by decide)
      | exact nl3 (by omega) (by omega) (by decide) (by decide)
      | refine And.intro trivial ?_
      | with_reducible refine And.intro ?_ ?_
      | (dsimp only; omega)
      | exact false
      | fail))
local macro_rules | `(tactic| walk_at "cj10") => `(tactic| (repeat' first
      | with_reducible refine Go.callTx ?_
      | with_reducible refine Stp.go ?_
      | ((with_reducible apply Go.var); (focus exact rfl))
      | exact GoS.retN rfl
      | with_reducible refine Go.bmW T.t_PREFIXES T.w_PREFIXES ?_
      | with_reducible refine Go.cWS T.w_PREFIXES ?_
      | with_reducible refine GoS.ret ?_
      | with_reducible refine GoS.ite ?_
      | with_reducible refine Go.ite ?_
      | with_reducible refine Go.pick ?_
      | with_reducible refine Go.tup (K := K) ?_
      | with_reducible refine Go.lst (K := K) ?_
      | with_reducible refine GoI.enumS (K := K) ?_
      | with_reducible refine Go.bm ?_
      | with_reducible apply GoT.andJ
      | with_reducible apply GoT.orJ
      | with_reducible apply Go.andVJ
      | with_reducible apply Go.orVJ
      | with_reducible apply Go.chainJ
      | with_reducible refine Go.c ?_
      | with_reducible refine Go.dni ?_
      | with_reducible refine Go.dgetC ?_
      | with_reducible refine Go.dget ?_
      | with_reducible refine Go.din ?_
      | with_reducible refine GoS.dput ?_
      | with_reducible refine Go.callQ3 ?_
      | with_reducible refine Go.callQ2 ?_
      | with_reducible refine Go.callQ ?_
      | with_reducible refine Go.callP0 ?_
      | with_reducible apply Go.lcM1 (K := K)
      | with_reducible apply Go.lcM2 (K := K) (by decide)
      | with_reducible apply Go.lcF2 (K := K) (by decide)
      | ((with_reducible apply v_ixT); (focus exact rfl))
      | ((with_reducible apply v_ixL); (focus exact rfl))
      | ((with_reducible apply v_ixL); (focus exact at0 _ _))
      | refine v_tidxS ?_ ?_
      | refine v_split (K := K) (by decide) ?_ ?_
      | ((with_reducible refine Sde.mk ?_); first | (right; decide) | (left; decide) | (left; constructor <;> omega))
      | with_reducible refine and_T (by assumption) ?_
      | with_reducible refine and_F (by assumption) ?_
      | with_reducible refine ⟨fun h => absurd h (by decide), fun _ => ?_⟩
      | with_reducible refine ⟨fun _ => ?_, fun h => absurd h (by decide)⟩
      | with_reducible refine And.intro (fun h => ?_) (fun h => ?_)
      | exact ⟨_, rfl⟩
      | exact ⟨rfl, rfl⟩
      | exact ⟨rfl, rfl, rfl⟩
      | refine ⟨_, rfl, ?_⟩
      | refine ⟨_, _, _, [], _, .inr _, rfl, rfl, rfl, ?_⟩
      | refine ⟨_, _, _, [_], _, .inr _, rfl, rfl, rfl, ?_⟩
      | refine ⟨_, _, _, [_, _], _, .inr _, rfl, rfl, rfl, ?_⟩
      | refine ⟨_, .inr _, rfl, rfl, ?_⟩
      | refine ⟨_, (by assumption), ?_⟩
      | refine ⟨_, _, _, _, rfl, rfl, ?_, fun (i9 : Int) l9 u9 => ?_⟩
      | refine ⟨_, _, _, _, rfl, rfl, ?_, fun (A9 : As) h9 => ?_⟩
      | refine ⟨_, _, rfl, ?_, ?_⟩
      | refine ⟨_, _, _, rfl, ?_, ?_⟩
      | refine ⟨_, _, rfl, ?_⟩
      | refine ⟨_, _, _, rfl, ?_⟩
      | with_reducible exact ff9
      | with_reducible exact tf9
      | with_reducible intro x hx R9
      | with_reducible intro A9 h9
      | with_reducible intro _
      | exact True.intro
      | (simp only [repL_len, List.length_cons, List.length_nil, List.length_append, List.length_replicate]; decide)
      | exact Nat.le_of_ble_eq_true rfl
      | exact rfl
      | assumption
      | omega
      | (simp only [List.length_map, List.length_append, List.length_cons, List.length_nil, List.length_range]; omega)
      | exact nl1 (by omega) (by omega) (by decide)
      | exact nl2 (by omega) (by omega) (by decide)
      | exact nl3 (by omega) (by omega) (by decide) (by decide)
      | refine And.intro trivial ?_
      | with_reducible refine And.intro ?_ ?_
      | (dsimp only; omega)
      | exact false
      | fail))
local macro_rules | `(tactic| walk_at "cj11") => `(tactic| (repeat' first
      | with_reducible refine Go.callTx ?_
      | with_reducible refine Stp.go ?_
      | ((with_reducible apply Go.var); (focus exact rfl))
      | exact GoS.retN rfl
      | with_reducible refine Go.bmW T.t_SAMES_crumbs T.w_SAMES_crumbs ?_
      | with_reducible refine Go.cWS T.w_SAMES_crumbs ?_
      | with_reducible refine GoS.ret ?_
      | with_reducible refine Go.ite ?_
      | with_reducible refine Go.pick ?_
      | with_reducible refine Go.tup (K := K) ?_
      | with_reducible refine Go.lst (K := K) ?_
      | with_reducible refine GoI.enumS (K := K) ?_
      | with_reducible refine Go.bm ?_
      | with_reducible apply GoT.andJ
      | with_reducible apply GoT.orJ
      | with_reducible apply Go.andVJ
      | with_reducible apply Go.orVJ
      | with_reducible apply Go.chainJ
      | with_reducible refine Go.c ?_
      | with_reducible refine Go.dni ?_
      | with_reducible refine Go.dgetC ?_
      | with_reducible refine Go.dget ?_
      | with_reducible refine Go.din ?_
      | with_reducible refine GoS.dput ?_
      | with_reducible refine Go.callQ3 ?_
      | with_reducible refine Go.callQ2 ?_
      | with_reducible refine Go.callQ ?_
      | with_reducible refine Go.callP0 ?_
      | with_reducible apply Go.lcM1 (K := K)
      | with_reducible apply Go.lcF1 (K := K)
      | with_reducible apply Go.lcM2 (K := K) (by decide)
      | with_reducible apply Go.lcF2 (K := K) (by decide)
      | ((with_reducible apply v_ixT); (focus exact rfl))
      | ((with_reducible apply v_ixL); (focus exact rfl))
      | ((with_reducible apply v_ixL); (focus exact at0 _ _))
      | refine v_tidxS ?_ ?_
      | refine v_split (K := K) (by decide) ?_ ?_
      | ((with_reducible refine Sde.mk ?_); first | (right; decide) | (left; decide) | (left; constructor <;> omega))
      | with_reducible refine and_T (by assumption) ?_
      | with_reducible refine and_F (by assumption) ?_
      | with_reducible refine ⟨fun h => absurd h (by decide), fun _ => ?_⟩
      | with_reducible refine ⟨fun _ => ?_, fun h => absurd h (by decide)⟩
      | with_reducible refine And.intro (fun h => ?_) (fun h => ?_)
      | exact ⟨_, rfl⟩
      | exact ⟨rfl, rfl⟩
      | exact ⟨rfl, rfl, rfl⟩
      | refine ⟨_, rfl, ?_⟩
      | refine ⟨_, _, _, [], _, .inr _, rfl, rfl, rfl, ?_⟩
      | refine ⟨_, _, _, [_], _, .inr _, rfl, rfl, rfl, ?_⟩
      | refine ⟨_, _, _, [_, _], _, .inr _, rfl, rfl, rfl, ?_⟩
      | refine ⟨_, .inr _, rfl, rfl, ?_⟩
      | refine ⟨_, (by assumption), ?_⟩
      | refine ⟨_, _, _, _, rfl, rfl, ?_, fun (i9 : Int) l9 u9 => ?_⟩
      | refine ⟨_, _, _, _, rfl, rfl, ?_, fun (A9 : As) h9 => ?_⟩
      | refine ⟨_, _, rfl, ?_, ?_⟩
      | refine ⟨_, _, _, rfl, ?_, ?_⟩
      | refine ⟨_, _, rfl, ?_⟩
      | refine ⟨_, _, _, rfl, ?_⟩
      | with_reducible exact ff9
      | with_reducible exact tf9
      | with_reducible intro x hx R9
      | with_reducible intro A9 h9
      | with_reducible intro _
      | exact True.intro
      | (simp only [repL_len, List.length_cons, List.length_nil, List.length_append, List.length_replicate]; decide)
      | exact Nat.le_of_ble_eq_true rfl
      | exact rfl
      | assumption
      | omega
      | (simp only [List.length_map, List.length_append, List.length_cons, List.length_nil, List.length_range]; omega)
      | exact nl1 (by omega) (by omega) (by decide)
      | exact nl2 (by omega) (by omega) (by decide)
      | exact nl3 (by omega) (by omega) (by decide) (by decide)
      | refine And.intro trivial ?_
      | with_reducible refine And.intro ?_ ?_
      | (dsimp only; omega)
      | exact false
      | fail))
local macro_rules | `(tactic| walk_at "cj12") => `(tactic| (repeat' first
      | with_reducible refine Go.callTx ?_
      | with_reducible refine Stp.go ?_
      | ((with_reducible apply Go.var); (focus exact rfl))
      | exact GoS.retN rfl
      | with_reducible refine Go.fld T.K_Crumb.c T.n_Crumb_own_parts ?_
      | with_reducible refine GoS.fld T.K_Crumb.c T.n_Crumb_own_parts ?_
      | with_reducible refine GoS.ret ?_
      | with_reducible refine GoS.ite ?_
      | with_reducible refine Go.ite ?_
      | with_reducible refine Go.pick ?_
      | with_reducible refine Go.tup (K := K) ?_
      | with_reducible refine Go.lst (K := K) ?_
      | with_reducible refine GoI.enumS (K := K) ?_
      | with_reducible refine Go.bm ?_
      | with_reducible apply GoT.andJ
      | with_reducible apply GoT.orJ
      | with_reducible apply Go.andVJ
      | with_reducible apply Go.orVJ
      | with_reducible apply Go.chainJ
      | with_reducible refine Go.c ?_
      | with_reducible refine Go.dni ?_
      | with_reducible refine Go.dgetC ?_
      | with_reducible refine Go.dget ?_
      | with_reducible refine Go.din ?_
      | with_reducible refine GoS.dput ?_
      | with_reducible refine Go.callQ3 ?_
      | with_reducible refine Go.callQ2 ?_
      | with_reducible refine Go.callQ ?_
      | with_reducible refine Go.callP0 ?_
      | with_reducible apply Go.lcM1 (K := K)
      | with_reducible apply Go.lcF1 (K := K)
      | with_reducible apply Go.lcM2 (K := K) (by decide)
      | with_reducible apply Go.lcF2 (K := K) (by decide)
      | ((with_reducible apply v_ixT); (focus exact rfl))
      | ((with_reducible apply v_ixL); (focus exact rfl))
      | ((with_reducible apply v_ixL); (focus exact at0 _ _))
      | refine v_tidxS ?_ ?_
      | refine v_split (K := K) (by decide) ?_ ?_
      | ((with_reducible refine Sde.mk ?_); first | (right; decide) | (left; decide) | (left; constructor <;> omega))
      | with_reducible refine and_T (by assumption) ?_
      | with_reducible refine and_F (by assumption) ?_
      | with_reducible refine ⟨fun h => absurd h (by decide), fun _ => ?_⟩
      | with_reducible refine ⟨fun _ => ?_, fun h => absurd h (by decide)⟩
      | with_reducible refine And.intro (fun h => ?_) (fun h => ?_)
      | exact ⟨_, rfl⟩
      | exact ⟨rfl, rfl⟩
      | exact ⟨rfl, rfl, rfl⟩
      | refine ⟨_, rfl, ?_⟩
      | refine ⟨_, _, _, [], _, .inr _, rfl, rfl, rfl, ?_⟩
      | refine ⟨_, _, _, [_], _, .inr _, rfl, rfl, rfl, ?_⟩
      | refine ⟨_, _, _, [_, _], _, .inr _, rfl, rfl, rfl, ?_⟩
      | refine ⟨_, .inr _, rfl, rfl, ?_⟩
      | refine ⟨_, (by assumption), ?_⟩
      | refine ⟨_, _, _, _, rfl, rfl, ?_, fun (i9 : Int) l9 u9 => ?_⟩
      | refine ⟨_, _, _, _, rfl, rfl, ?_, fun (A9 : As) h9 => ?_⟩
      | refine ⟨_, _, rfl, ?_, ?_⟩
      | refine ⟨_, _, _, rfl, ?_, ?_⟩
      | refine ⟨_, _, rfl, ?_⟩
      | refine ⟨_, _, _, rfl, ?_⟩
      | with_reducible exact ff9
      | with_reducible exact tf9
      | with_reducible intro x hx R9
      | with_reducible intro A9 h9
      | with_reducible intro _
      | exact True.intro
      | (simp only [repL_len, List.length_cons, List.length_nil, List.length_append, List.length_replicate]; decide)
      | exact Nat.le_of_ble_eq_true rfl
      | exact rfl
      | assumption
      | omega
      | (simp only [List.length_map, List.length_append, List.length_cons, List.length_nil, List.length_range]; omega)
      | exact nl1 (by omega) (by omega) (by decide)
      | exact nl2 (by omega) (by omega) (by decide)
      | exact nl3 (by omega) (by omega) (by decide) (by decide)
      | refine And.intro trivial ?_
      | with_reducible refine And.intro ?_ ?_
      | (dsimp only; omega)
      | exact false
      | fail))
local macro_rules | `(tactic| walk_at "cj13") => `(tactic| (repeat' first
      | with_reducible refine Go.callTx ?_
      | with_reducible refine Stp.go ?_
      | ((with_reducible apply Go.var); (focus exact rfl))
      | exact GoS.retN rfl
      | with_reducible refine Go.prop ?_
      | with_reducible refine GoS.ret ?_
      | with_reducible refine GoS.ite ?_
      | with_reducible refine Go.ite ?_
      | with_reducible refine Go.pick ?_
      | with_reducible refine Go.tup (K := K) ?_
      | with_reducible refine Go.lst (K := K) ?_
      | with_reducible refine GoI.enumS (K := K) ?_
      | with_reducible refine Go.bm ?_
      | with_reducible apply GoT.andJ
      | with_reducible apply GoT.orJ
      | with_reducible apply Go.andVJ
      | with_reducible apply Go.orVJ
      | with_reducible apply Go.chainJ
      | with_reducible refine Go.c ?_
      | with_reducible refine Go.dni ?_
      | with_reducible refine Go.dgetC ?_
      | with_reducible refine Go.dget ?_
      | with_reducible refine Go.din ?_
      | with_reducible refine GoS.dput ?_
      | with_reducible refine Go.callQ3 ?_
      | with_reducible refine Go.callQ2 ?_
      | with_reducible refine Go.callQ ?_
      | with_reducible refine Go.callP0 ?_
      | ((with_reducible apply v_ixT); (focus exact rfl))
      | ((with_reducible apply v_ixL); (focus exact rfl))
      | ((with_reducible apply v_ixL); (focus exact at0 _ _))
      | refine v_tidxS ?_ ?_
      | refine v_split (K := K) (by decide) ?_ ?_
      | ((with_reducible refine Sde.mk ?_); first | (right; decide) | (left; decide) | (left; constructor <;> omega))
      | with_reducible refine and_T (by assumption) ?_
      | with_reducible refine and_F (by assumption) ?_
      | with_reducible refine ⟨fun h => absurd h (by decide), fun _ => ?_⟩
      | with_reducible refine ⟨fun _ => ?_, fun h => absurd h (by decide)⟩
      | with_reducible refine And.intro (fun h => ?_) (fun h => ?_)
      | exact ⟨_, rfl⟩
      | exact ⟨rfl, rfl⟩
      | exact ⟨rfl, rfl, rfl⟩
      | refine ⟨_, rfl, ?_⟩
      | refine ⟨_, _, _, [], _, .inr _, rfl, rfl, rfl, ?_⟩
      | refine ⟨_, _, _, [_], _, .inr _, rfl, rfl, rfl, ?_⟩
      | refine ⟨_, _, _, [_, _], _, .inr _, rfl, rfl, rfl, ?_⟩
      | refine ⟨_, .inr _, rfl, rfl, ?_⟩
      | refine ⟨_, (by assumption), ?_⟩
      | refine ⟨_, _, _, _, rfl, rfl, ?_, fun (i9 : Int) l9 u9 => ?_⟩
      | refine ⟨_, _, _, _, rfl, rfl, ?_, fun (A9 : As) h9 => ?_⟩
      | refine ⟨_, _, rfl, ?_, ?_⟩
      | refine ⟨_, _, _, rfl, ?_, ?_⟩
      | refine ⟨_, _, rfl, ?_⟩
      | refine ⟨_, _, _, rfl, ?_⟩
      | with_reducible exact ff9
      | with_reducible exact tf9
      | with_reducible intro x hx R9
      | with_reducible intro A9 h9
      | with_reducible intro _
      | exact True.intro
      | (simp only [repL_len, List.length_cons, List.length_nil, List.length_append, List.length_replicate]; decide)
      | exact Nat.le_of_ble_eq_true rfl
      | exact rfl
      | assumption
      | omega
      | (simp only [List.length_map, List.length_append, List.length_cons, List.length_nil, List.length_range]; omega)
      | exact nl1 (by omega) (by omega) (by decide)
      | exact nl2 (by omega) (by omega) (by decide)
      | exact nl3 (by omega) (by omega) (by decide) (by decide)
      | refine And.intro trivial ?_
      | with_reducible refine And.intro ?_ ?_
      | (dsimp only; omega)
      | exact false
      | fail))
local macro_rules | `(tactic| walk_at "cj14") => `(tactic| (repeat' first
      | exact GoS.retN rfl
      | with_reducible refine Go.cS lit_left ?_
      | with_reducible refine Go.cS lit_cell ?_
      | with_reducible refine Go.cS lit_turns ?_
      | with_reducible refine Go.callTx ?_
      | with_reducible refine fin_P ?_
      | with_reducible refine fin_Q ?_
      | with_reducible refine GoS.nil ?_
      | with_reducible refine GoS.seq ?_
      | with_reducible refine GoS.set ?_
      | with_reducible refine GoS.ite ?_
      | with_reducible refine GoS.drop ?_
      | with_reducible refine GoS.cut ?_
      | with_reducible refine GoS.par ?_
      | with_reducible refine GoS.par3 ?_
      | with_reducible refine GoG.tup rfl ?_
      | with_reducible refine GoS.asg ?_
      | with_reducible apply GoT.andJ
      | with_reducible apply GoT.orJ
      | with_reducible apply Go.andVJ
      | with_reducible apply Go.orVJ
      | with_reducible apply Go.chainJ
      | with_reducible refine Go.notV ?_
      | with_reducible refine Go.ite ?_
      | with_reducible refine Go.tup (K := K) ?_
      | with_reducible refine Go.lst (K := K) ?_
      | with_reducible refine Go.cb ?_
      | with_reducible refine Go.bm ?_
      | with_reducible refine Go.bm0 ?_
      | with_reducible refine Go.m1 ?_
      | with_reducible refine Go.m0 ?_
      | with_reducible refine Go.sl ?_
      | with_reducible refine Go.un ?_
      | with_reducible refine Go.op ?_
      | with_reducible refine Go.dni ?_
      | with_reducible refine Go.dget ?_
      | with_reducible refine Go.din ?_
      | with_reducible refine GoS.dput ?_
      | with_reducible refine Go.callQ3 ?_
      | with_reducible refine Go.callQ2 ?_
      | with_reducible refine Go.callQ ?_
      | with_reducible refine Go.digit ?_
      | with_reducible refine Go.pick ?_
      | with_reducible refine Go.callP3 ?_
      | with_reducible refine Go.callP2 ?_
      | with_reducible refine Go.callP0 ?_
      | with_reducible refine Go.callP ?_
      | with_reducible refine GoA.nil ?_
      | with_reducible refine GoA.cons ?_
      | with_reducible refine GoO.none ?_
      | with_reducible refine GoO.part ?_
      | with_reducible refine GoT.test ?_
      | with_reducible refine GoT.b ?_
      | with_reducible refine GoT.tru ?_
      | with_reducible refine GoT.not ?_
      | with_reducible refine GoT.yes ?_
      | with_reducible refine GoG.name ?_
      | with_reducible refine GoGs.nil ?_
      | with_reducible refine GoGs.cons ?_
      | with_reducible refine GoI.ofL ?_
      | with_reducible refine GoI.ofT ?_
      | with_reducible refine GoI.str ?_
      | with_reducible refine GoI.rng1 ?_
      | with_reducible refine GoI.rng2 ?_
      | with_reducible refine GoI.enum ?_
      | with_reducible refine GoI.enumT ?_
      | with_reducible apply Go.lcM1 (K := K)
      | with_reducible apply Go.lcF1 (K := K)
      | with_reducible apply Go.lcM2 (K := K) (by decide)
      | with_reducible apply Go.lcF2 (K := K) (by decide)
      | refine Go.var rfl ?_
      | with_reducible refine Go.c ?_
      | refine GoS.retN ?_
      | refine v_mod (by first | decide | omega) ?_
      | refine v_fdiv (by first | decide | (constructor <;> omega)) ?_
      | refine v_fdivW (by omega) ?_
      | refine v_mul (by first | decide | (right; decide) | (left; decide) | (left; constructor <;> omega)) ?_
      | refine v_addI ?_
      | refine v_rU ?_
      | refine v_subI ?_
      | with_reducible refine v_is_s_str ?_
      | with_reducible refine v_is_s_int ?_
      | with_reducible refine v_is_s_bool ?_
      | with_reducible refine v_is_s_tuple ?_
      | with_reducible refine v_is_s_list ?_
      | with_reducible refine v_is_s_dict ?_
      | with_reducible refine v_is_i_str ?_
      | with_reducible refine v_is_i_int ?_
      | with_reducible refine v_is_i_bool ?_
      | with_reducible refine v_is_i_tuple ?_
      | with_reducible refine v_is_i_list ?_
      | with_reducible refine v_is_i_dict ?_
      | with_reducible refine v_is_b_str ?_
      | with_reducible refine v_is_b_int ?_
      | with_reducible refine v_is_b_bool ?_
      | with_reducible refine v_is_b_tuple ?_
      | with_reducible refine v_is_b_list ?_
      | with_reducible refine v_is_b_dict ?_
      | with_reducible refine v_is_n_str ?_
      | with_reducible refine v_is_n_int ?_
      | with_reducible refine v_is_n_bool ?_
      | with_reducible refine v_is_n_tuple ?_
      | with_reducible refine v_is_n_list ?_
      | with_reducible refine v_is_n_dict ?_
      | with_reducible refine v_is_l_str ?_
      | with_reducible refine v_is_l_int ?_
      | with_reducible refine v_is_l_bool ?_
      | with_reducible refine v_is_l_tuple ?_
      | with_reducible refine v_is_l_list ?_
      | with_reducible refine v_is_l_dict ?_
      | with_reducible refine v_is_t_str ?_
      | with_reducible refine v_is_t_int ?_
      | with_reducible refine v_is_t_bool ?_
      | with_reducible refine v_is_t_tuple ?_
      | with_reducible refine v_is_t_list ?_
      | with_reducible refine v_is_t_dict ?_
      | with_reducible refine v_is_d_str ?_
      | with_reducible refine v_is_d_int ?_
      | with_reducible refine v_is_d_bool ?_
      | with_reducible refine v_is_d_tuple ?_
      | with_reducible refine v_is_d_list ?_
      | with_reducible refine v_is_d_dict ?_
      | refine v_eqE ?_
      | refine v_neE ?_
      | refine v_eqI ?_
      | refine v_neI ?_
      | refine v_eqS ?_
      | refine v_neS ?_
      | refine v_eqB ?_
      | refine v_neB ?_
      | refine v_lt ?_
      | refine v_le ?_
      | refine v_gt ?_
      | refine v_ge ?_
      | refine v_isNO ?_
      | refine v_notNO ?_
      | refine v_notOp ?_ ?_
      | refine v_ixT rfl ?_
      | refine v_ixL rfl ?_
      | refine v_ixL (at0 _ _) ?_
      | refine v_inTS (ns := [_]) ?_
      | refine v_inTS (ns := [_, _]) ?_
      | refine v_inTS (ns := [_, _, _]) ?_
      | refine v_inTS (ns := [_, _, _, _]) ?_
      | refine v_niTS (ns := [_]) ?_
      | refine v_niTS (ns := [_, _]) ?_
      | refine v_niTS (ns := [_, _, _]) ?_
      | refine v_niTS (ns := [_, _, _, _]) ?_
      | refine v_inLS (ns := [_]) ?_
      | refine v_inLS (ns := [_, _]) ?_
      | refine v_inLS (ns := [_, _, _]) ?_
      | refine v_inLS (ns := [_, _, _, _]) ?_
      | refine v_niLS (ns := [_]) ?_
      | refine v_niLS (ns := [_, _]) ?_
      | refine v_niLS (ns := [_, _, _]) ?_
      | refine v_niLS (ns := [_, _, _, _]) ?_
      | refine v_inTI (ns := [_]) ?_
      | refine v_inTI (ns := [_, _]) ?_
      | refine v_inTI (ns := [_, _, _]) ?_
      | refine v_inTI (ns := [_, _, _, _]) ?_
      | refine v_niTI (ns := [_]) ?_
      | refine v_niTI (ns := [_, _]) ?_
      | refine v_niTI (ns := [_, _, _]) ?_
      | refine v_niTI (ns := [_, _, _, _]) ?_
      | refine v_inLI (ns := [_]) ?_
      | refine v_inLI (ns := [_, _]) ?_
      | refine v_inLI (ns := [_, _, _]) ?_
      | refine v_inLI (ns := [_, _, _, _]) ?_
      | refine v_niLI (ns := [_]) ?_
      | refine v_niLI (ns := [_, _]) ?_
      | refine v_niLI (ns := [_, _, _]) ?_
      | refine v_niLI (ns := [_, _, _, _]) ?_
      | refine v_inTI ?_
      | refine v_inLI ?_
      | refine v_inTS ?_
      | refine v_inLS ?_
      | refine v_niTI ?_
      | refine v_niLI ?_
      | refine v_niTS ?_
      | refine v_niLS ?_
      | refine v_noIn ?_
      | refine v_noNi ?_
      | refine v_isN ?_
      | refine v_notN ?_
      | refine v_inC ?_
      | refine v_niC ?_
      | refine v_catS ?_ ?_
      | refine v_lenS ?_ ?_
      | refine v_slS ?_ ?_
      | refine v_split (K := K) (by decide) ?_ ?_
      | refine v_joinE ?_ ?_
      | refine v_joinF ?_ ?_
      | refine v_startsw ?_
      | refine v_endsw ?_
      | refine v_count1 ?_
      | refine v_intI ?_
      | refine v_intS (by assumption) (by omega) ?_
      | refine v_strN (by omega) (by omega) ?_
      | refine v_intB ?_
      | refine v_max2 ?_
      | refine v_min2 ?_
      | refine v_lenL ?_
      | refine v_lenT ?_
      | refine v_slL ?_
      | refine v_slQ ?_
      | refine v_lenQ ?_
      | refine v_sumQ ?_
      | with_reducible refine Go.dnew ?_
      | refine v_sum ?_
      | refine v_tidxS ?_ ?_
      | refine v_tupL ?_
      | refine v_tupT ?_
      | refine v_lstL ?_
      | refine v_lstT ?_
      | refine v_append (pre := []) ?_ ?_
      | refine v_append (pre := [_]) ?_ ?_
      | refine v_append (pre := [_, _]) ?_ ?_
      | refine v_append (pre := [_, _, _]) ?_ ?_
      | refine v_extend (pre := []) ?_ ?_
      | refine v_extend (pre := [_]) ?_ ?_
      | refine v_lenO (pre := []) ?_
      | refine v_lenO (pre := [_]) ?_
      | refine v_lenD (pre := []) ?_
      | refine v_lenC ?_
      | refine v_cat ?_ ?_
      | exact ty_o (pre := [])
      | exact ty_o (pre := [_])
      | exact ty_s
      | exact ty_l
      | refine v_all ?_
      | refine v_any ?_
      | exact Nat.le_of_ble_eq_true rfl
      | exact nl1 (by omega) (by omega) (by decide)
      | exact nl2 (by omega) (by omega) (by decide)
      | exact nl3 (by omega) (by omega) (by decide) (by decide)
      | exact ⟨_, rfl⟩
      | exact ⟨rfl, rfl⟩
      | exact ⟨rfl, rfl, rfl⟩
      | refine ⟨_, rfl, ?_⟩
      | refine ⟨_, _, _, [], _, .inr _, rfl, rfl, rfl, ?_⟩
      | refine ⟨_, .inr _, rfl, rfl, ?_⟩
      | refine ⟨_, (by assumption), ?_⟩
      | refine ⟨_, _, _, _, rfl, rfl, ?_, fun (i9 : Int) l9 u9 => ?_⟩
      | refine ⟨_, _, _, _, rfl, rfl, ?_, fun (A9 : As) h9 => ?_⟩
      | refine ⟨_, _, rfl, ?_, ?_⟩
      | refine ⟨_, _, _, rfl, ?_, ?_⟩
      | refine ⟨_, _, rfl, ?_⟩
      | refine ⟨_, _, _, rfl, ?_⟩
      | with_reducible refine and_T (by assumption) ?_
      | with_reducible refine and_F (by assumption) ?_
      | with_reducible refine ⟨fun h => absurd h (by decide), fun _ => ?_⟩
      | with_reducible refine ⟨fun _ => ?_, fun h => absurd h (by decide)⟩
      | with_reducible refine And.intro (fun h => ?_) (fun h => ?_)
      | with_reducible intro x hx R9
      | with_reducible intro A9 h9
      | with_reducible intro _
      | trivial
      | assumption
      | refine And.intro trivial ?_
      | with_reducible refine And.intro ?_ ?_
      | omega
      | (dsimp only; omega)
      | (simp only [List.length_append, List.length_cons, List.length_nil]; omega)
      | fail))
local macro_rules | `(tactic| walk_at "cj15") => `(tactic| (repeat' first
      | with_reducible refine Go.callTx ?_
      | with_reducible refine Stp.go ?_
      | ((with_reducible apply Go.var); (focus exact rfl))
      | exact GoS.retN rfl
      | with_reducible refine Go.make ?_
      | with_reducible refine Go.makeX ?_
      | with_reducible refine GoS.ret ?_
      | with_reducible refine GoS.ite ?_
      | with_reducible refine Go.ite ?_
      | with_reducible refine Go.pick ?_
      | with_reducible refine Go.tup (K := K) ?_
      | with_reducible refine Go.lst (K := K) ?_
      | with_reducible refine GoI.enumS (K := K) ?_
      | with_reducible refine Go.bm ?_
      | with_reducible apply GoT.andJ
      | with_reducible apply GoT.orJ
      | with_reducible apply Go.andVJ
      | with_reducible apply Go.orVJ
      | with_reducible apply Go.chainJ
      | with_reducible refine Go.c ?_
      | with_reducible refine Go.dni ?_
      | with_reducible refine Go.dgetC ?_
      | with_reducible refine Go.dget ?_
      | with_reducible refine Go.din ?_
      | with_reducible refine GoS.dput ?_
      | with_reducible refine Go.callQ3 ?_
      | with_reducible refine Go.callQ2 ?_
      | with_reducible refine Go.callQ ?_
      | with_reducible refine Go.callP0 ?_
      | with_reducible apply Go.lcM1 (K := K)
      | with_reducible apply Go.lcF1 (K := K)
      | with_reducible apply Go.lcM2 (K := K) (by decide)
      | with_reducible apply Go.lcF2 (K := K) (by decide)
      | ((with_reducible apply v_ixT); (focus exact rfl))
      | ((with_reducible apply v_ixL); (focus exact rfl))
      | ((with_reducible apply v_ixL); (focus exact at0 _ _))
      | refine v_tidxS ?_ ?_
      | refine v_split (K := K) (by decide) ?_ ?_
      | ((with_reducible refine Sde.mk ?_); first | (right; decide) | (left; decide) | (left; constructor <;> omega))
      | with_reducible refine and_T (by assumption) ?_
      | with_reducible refine and_F (by assumption) ?_
      | with_reducible refine ⟨fun h => absurd h (by decide), fun _ => ?_⟩
      | with_reducible refine ⟨fun _ => ?_, fun h => absurd h (by decide)⟩
      | with_reducible refine And.intro (fun h => ?_) (fun h => ?_)
      | exact ⟨_, rfl⟩
      | exact ⟨rfl, rfl⟩
      | exact ⟨rfl, rfl, rfl⟩
      | refine ⟨_, rfl, ?_⟩
      | refine ⟨_, _, _, [], _, .inr _, rfl, rfl, rfl, ?_⟩
      | refine ⟨_, _, _, [_], _, .inr _, rfl, rfl, rfl, ?_⟩
      | refine ⟨_, _, _, [_, _], _, .inr _, rfl, rfl, rfl, ?_⟩
      | refine ⟨_, .inr _, rfl, rfl, ?_⟩
      | refine ⟨_, (by assumption), ?_⟩
      | refine ⟨_, _, _, _, rfl, rfl, ?_, fun (i9 : Int) l9 u9 => ?_⟩
      | refine ⟨_, _, _, _, rfl, rfl, ?_, fun (A9 : As) h9 => ?_⟩
      | refine ⟨_, _, rfl, ?_, ?_⟩
      | refine ⟨_, _, _, rfl, ?_, ?_⟩
      | refine ⟨_, _, rfl, ?_⟩
      | refine ⟨_, _, _, rfl, ?_⟩
      | with_reducible exact ff9
      | with_reducible exact tf9
      | with_reducible intro x hx R9
      | with_reducible intro A9 h9
      | with_reducible intro _
      | exact True.intro
      | (simp only [repL_len, List.length_cons, List.length_nil, List.length_append, List.length_replicate]; decide)
      | exact Nat.le_of_ble_eq_true rfl
      | exact rfl
      | assumption
      | omega
      | (simp only [List.length_map, List.length_append, List.length_cons, List.length_nil, List.length_range]; omega)
      | exact nl1 (by omega) (by omega) (by decide)
      | exact nl2 (by omega) (by omega) (by decide)
      | exact nl3 (by omega) (by omega) (by decide) (by decide)
      | refine And.intro trivial ?_
      | with_reducible refine And.intro ?_ ?_
      | (dsimp only; omega)
      | exact false
      | fail))
local macro_rules | `(tactic| walk_at "cj16") => `(tactic| (repeat' first
      | with_reducible refine Go.callTx ?_
      | with_reducible refine Stp.go ?_
      | ((with_reducible apply Go.var); (focus exact rfl))
      | exact GoS.retN rfl
      | with_reducible refine Go.prop ?_
      | with_reducible refine Go.make ?_
      | with_reducible refine Go.makeX ?_
      | with_reducible refine GoS.ret ?_
      | with_reducible refine Go.ite ?_
      | with_reducible refine Go.pick ?_
      | with_reducible refine Go.tup (K := K) ?_
      | with_reducible refine Go.lst (K := K) ?_
      | with_reducible refine GoI.enumS (K := K) ?_
      | with_reducible refine Go.bm ?_
      | with_reducible apply GoT.andJ
      | with_reducible apply GoT.orJ
      | with_reducible apply Go.andVJ
      | with_reducible apply Go.orVJ
      | with_reducible apply Go.chainJ
      | with_reducible refine Go.c ?_
      | with_reducible refine Go.dni ?_
      | with_reducible refine Go.dgetC ?_
      | with_reducible refine Go.dget ?_
      | with_reducible refine Go.din ?_
      | with_reducible refine GoS.dput ?_
      | with_reducible refine Go.callQ3 ?_
      | with_reducible refine Go.callQ2 ?_
      | with_reducible refine Go.callQ ?_
      | with_reducible refine Go.callP0 ?_
      | ((with_reducible apply v_ixT); (focus exact rfl))
      | ((with_reducible apply v_ixL); (focus exact rfl))
      | ((with_reducible apply v_ixL); (focus exact at0 _ _))
      | refine v_tidxS ?_ ?_
      | refine v_split (K := K) (by decide) ?_ ?_
      | ((with_reducible refine Sde.mk ?_); first | (right; decide) | (left; decide) | (left; constructor <;> omega))
      | with_reducible refine and_T (by assumption) ?_
      | with_reducible refine and_F (by assumption) ?_
      | with_reducible refine ⟨fun h => absurd h (by decide), fun _ => ?_⟩
      | with_reducible refine ⟨fun _ => ?_, fun h => absurd h (by decide)⟩
      | with_reducible refine And.intro (fun h => ?_) (fun h => ?_)
      | exact ⟨_, rfl⟩
      | exact ⟨rfl, rfl⟩
      | exact ⟨rfl, rfl, rfl⟩
      | refine ⟨_, rfl, ?_⟩
      | refine ⟨_, _, _, [], _, .inr _, rfl, rfl, rfl, ?_⟩
      | refine ⟨_, _, _, [_], _, .inr _, rfl, rfl, rfl, ?_⟩
      | refine ⟨_, _, _, [_, _], _, .inr _, rfl, rfl, rfl, ?_⟩
      | refine ⟨_, .inr _, rfl, rfl, ?_⟩
      | refine ⟨_, (by assumption), ?_⟩
      | refine ⟨_, _, _, _, rfl, rfl, ?_, fun (i9 : Int) l9 u9 => ?_⟩
      | refine ⟨_, _, _, _, rfl, rfl, ?_, fun (A9 : As) h9 => ?_⟩
      | refine ⟨_, _, rfl, ?_, ?_⟩
      | refine ⟨_, _, _, rfl, ?_, ?_⟩
      | refine ⟨_, _, rfl, ?_⟩
      | refine ⟨_, _, _, rfl, ?_⟩
      | with_reducible exact ff9
      | with_reducible exact tf9
      | with_reducible intro x hx R9
      | with_reducible intro A9 h9
      | with_reducible intro _
      | exact True.intro
      | (simp only [repL_len, List.length_cons, List.length_nil, List.length_append, List.length_replicate]; decide)
      | exact Nat.le_of_ble_eq_true rfl
      | exact rfl
      | assumption
      | omega
      | (simp only [List.length_map, List.length_append, List.length_cons, List.length_nil, List.length_range]; omega)
      | exact nl1 (by omega) (by omega) (by decide)
      | exact nl2 (by omega) (by omega) (by decide)
      | exact nl3 (by omega) (by omega) (by decide) (by decide)
      | refine And.intro trivial ?_
      | with_reducible refine And.intro ?_ ?_
      | (dsimp only; omega)
      | exact false
      | fail))
/-! ### digs -/
def digSign (c : Nat) : Bool := decide (c ∈ lc_DIGITS)
theorem digSign_iff {c : Nat} : digSign c = true ↔ 48 ≤ c ∧ c ≤ 57 := by
  have h1 : ∀ c ∈ lc_DIGITS, 48 ≤ c ∧ c ≤ 57 := by decide +kernel
  have h2 : ∀ k < 10, 48 + k ∈ lc_DIGITS := by decide +kernel
  unfold digSign
  rw [decide_eq_true_eq]
  refine ⟨h1 c, fun h => ?_⟩
  have := h2 (c - 48) (by omega)
  rw [show 48 + (c - 48) = c by omega] at this
  exact this
theorem all_digits {l : List Nat} (h : l.all digSign = true) : l.all (fun c => decide (48 ≤ c) && decide (c ≤ 57)) = true := by
  refine List.all_eq_true.mpr fun c hc => ?_
  have := digSign_iff.mp (List.all_eq_true.mp h c hc)
  rw [decide_eq_true this.1, decide_eq_true this.2]
  rfl
/-! the first and the last sign -/
theorem first_at {a : List Nat} (h : a ≠ []) : ∃ c, atI a 0 = some c ∧ a.head? = some c := by
  cases a with
  | nil => exact absurd rfl h
  | cons c r => exact ⟨c, atI_nat (j := 0) rfl, rfl⟩
theorem last_at {a : List Nat} (h : a ≠ []) : ∃ c, atI a (-1) = some c ∧ a.getLast? = some c := by
  have hg : a.getLast? = some (a.getLast h) := List.getLast?_eq_some_getLast _
  exact ⟨_, atI_neg1 hg, hg⟩
theorem one_dec {c d : Nat} {o : Option Nat} (h : o = some c) : decide ([c] = [d]) = decide (o = some d) := by
  rw [h]
  exact decide_eq_decide.mpr ⟨fun z => by rw [(List.cons.inj z).1], fun z => by rw [Option.some.inj z]⟩
/-! an argument that is a text, or a value of another kind -/
def txo : List Nat ⊕ As → List As
  | .inl l => [tx l]
  | .inr A => [A]
def okText (K : PySem.W.Frag) : List Nat ⊕ As → Prop
  | .inl l => l.length ≤ 70000
  | .inr A => OddA K "str" A
theorem txo_len (a : List Nat ⊕ As) : (txo a).length = 1 := by cases a <;> rfl
theorem Go.callTx {K : PySem.W.Frag} {L : LL} {O : OO} {t : TA} {k : As → OO → Prop} {r : List Nat ⊕ As → As} {X : XK} (h : GoA L O t fun l O1 => ∃ w, l = [tx w] ∧ w.length ≤ 70000 ∧ k (r (.inl w)) O1) : Go L O (tCall (SpP (okText K) txo r) [] X t) k :=
  Go.callP fun E G0 H0 σ G H Q f s z => h _ _ _ _ _ _ _ f s fun l O' G' H' vs q => z _ _ _ _ _ (by
    obtain ⟨w, h1, h2, h3⟩ := q
    exact ⟨.inl w, h1, h2, h3⟩)
section
variable {P : Program} {w : World} {K : PySem.W.Frag} {mg : Str → Option Value} {base : Heap} [IsP P]
/-! ### is_integer -/
def vA : Int ⊕ As → List As
  | .inl i => [it i]
  | .inr A => [A]
def okI (K : PySem.W.Frag) : Int ⊕ As → Prop
  | .inl _ => True
  | .inr A => OddA K "int" A ∨ ∃ b, A = bo b
theorem vA_len (a : Int ⊕ As) : (vA a).length = 1 := by cases a <;> rfl
abbrev sp_is_integer (K : PySem.W.Frag) : Sp := SpP (okI K) vA (fun a => bo a.isLeft)
theorem ok_is_integer (T : Txt K mg w) : FnOk P w K mg base CX0 1 T.f_is_integer T.d_is_integer ["value"] (sp_is_integer K) := by
  refine fn_sy T.F_is_integer sc_is_integer (fun a _ => vA_len a) fun a cdv A outer s H E hr hp => ⟨_, (pss_one (ps_ret (pe_and (pe_callB (kIsi (K := K) rfl) (by rfl) T.n_isinstance (by decide +kernel) (pa_cons (pv 0) (pa_cons (pe_bltn (v := .ty "int") (by rfl) T.n_int (by decide +kernel) rfl) pa_nil))) (pe_one (pe_not (pe_callB (kIsi (K := K) rfl) (by rfl) T.n_isinstance (by decide +kernel) (pa_cons (pv 0) (pa_cons (pe_bltn (v := .ty "bool") (by rfl) T.n_bool (by decide +kernel) rfl) pa_nil)))))))), ?_⟩
  cases a with
  | inl i =>
    show GoS [some (it i)] [] _ _
    walk_at "cj1"
  | inr B =>
    rcases hp with hp | ⟨b, rfl⟩
    · show GoS [some B] [] _ _
      refine GoS.ret (Go.andV (Go.cb (GoA.cons (Go.var rfl (GoA.cons (Go.c (GoA.nil (v_isiOdd hp ⟨false, rfl, fun z => (by cases z), fun _ => ⟨rfl, rfl⟩⟩))))))))
    · show GoS [some (bo b)] [] _ _
      walk_at "cj1"
end
section
/-! any value of a law -/
inductive Vl where
  | n
  | b (x : Bool)
  | i (x : Int)
  | s (l : List Nat)
  | o (A : As)
def vl : Vl → As
  | .n => no
  | .b x => bo x
  | .i x => it x
  | .s l => tx l
  | .o A => A
/-- a list, a tuple, a dict, an instance -/
structure OddO (K : PySem.W.Frag) (A : As) : Prop where
  s : OddA K "str" A
  i : OddA K "int" A
  b : OddA K "bool" A
  n : NN A
def okVl (K : PySem.W.Frag) : Vl → Prop
  | .s l => l.length ≤ 70000
  | .o A => OddO K A
  | _ => True
def Vl.isN : Vl → Bool
  | .n => true
  | _ => false
def Vl.isB : Vl → Bool
  | .b _ => true
  | _ => false
def Vl.toT : Vl → List Nat ⊕ As
  | .s l => .inl l
  | v => .inr (vl v)
def Vl.toI : Vl → Int ⊕ As
  | .i x => .inl x
  | v => .inr (vl v)
section
variable {K : PySem.W.Frag} {O : OO} {k : As → OO → Prop} {v : Vl}
theorem txoV (v : Vl) : txo v.toT = [vl v] := by cases v <;> rfl
theorem vAV (v : Vl) : vA v.toI = [vl v] := by cases v <;> rfl
theorem odd_i_n : OddA K "int" no := ⟨"NoneType", by decide +kernel, fun _ => tx_n⟩
theorem odd_i_s {l : List Nat} : OddA K "int" (tx l) := ⟨"str", by decide +kernel, fun _ => tx_s⟩
theorem okVl.t (h : okVl K v) : okText K v.toT := by
  cases v with
  | n => exact odd_s_n
  | b x => exact odd_s_b
  | i x => exact odd_s_i
  | s l => exact h
  | o A => exact OddO.s h
theorem okVl.i (h : okVl K v) : okI K v.toI := by
  cases v with
  | n => exact .inl odd_i_n
  | b x => exact .inr ⟨x, rfl⟩
  | i x => exact True.intro
  | s l => exact .inl odd_i_s
  | o A => exact .inl (OddO.i h)
theorem Vl.text (h : okVl K v) : (∃ l, v = .s l) ∨ (OddA K "str" (vl v) ∧ ∀ l, v ≠ .s l) := by
  cases v with
  | n => exact .inr ⟨odd_s_n, fun l z => by cases z⟩
  | b x => exact .inr ⟨odd_s_b, fun l z => by cases z⟩
  | i x => exact .inr ⟨odd_s_i, fun l z => by cases z⟩
  | s l => exact .inl ⟨l, rfl⟩
  | o A => exact .inr ⟨OddO.s h, fun l z => by cases z⟩
theorem v_isNN {A : As} (h : NN A) (q : k (bo false) O) : V2 O (fun x y H Q => y = V.non ∧ Q (V.bl (decide (x = V.non))) H) A (cst .non) k := fun E G0 H0 G H Q x y f a b zz =>
  ⟨b, by rw [decide_eq_false (h G x a)]; exact zz _ _ _ _ _ q f (Same.refl _) rfl⟩
theorem v_noNN {A : As} (h : NN A) (q : k (bo true) O) : V2 O (fun x y H Q => y = V.non ∧ Q (V.bl (!decide (x = V.non))) H) A (cst .non) k := fun E G0 H0 G H Q x y f a b zz =>
  ⟨b, by rw [decide_eq_false (h G x a)]; exact zz _ _ _ _ _ q f (Same.refl _) rfl⟩
theorem v_isVl (h : okVl K v) (q : k (bo v.isN) O) : V2 O (fun x y H Q => y = V.non ∧ Q (V.bl (decide (x = V.non))) H) (vl v) (cst .non) k := by
  cases v with
  | n => exact v_isN (x := .non) q
  | b x => exact v_isN (x := .bl x) q
  | i x => exact v_isN (x := .int x) q
  | s l => exact v_isN (x := .str _) q
  | o A => exact v_isNN (OddO.n h) q
theorem v_bVl (h : okVl K v) (q : k (bo v.isB) O) : Vn O (rIsi K) [vl v, cst (.ty "bool")] k := by
  cases v with
  | n => exact v_is_n_bool q
  | b x => exact v_is_b_bool q
  | i x => exact v_is_i_bool q
  | s l => exact v_is_s_bool q
  | o A => exact v_isiOdd (OddO.b h) q
end
/-- what an instance of the class at C is compared with: another one, or a value of another kind -/
def okNot (K : PySem.W.Frag) (C : Addr) (A : As) : Prop := ∃ t, (∀ O, TyXA K A O t) ∧ PySem.W.subIn K t (.ref C) = some false ∧ (t == .ref C) = false
end
section
def oT : Option (List Nat) → As
  | none => no
  | some l => tx l
theorem v_isoT {O : OO} {k : As → OO → Prop} {o : Option (List Nat)} (q : k (bo o.isNone) O) : V2 O (fun x y H Q => y = V.non ∧ Q (V.bl (decide (x = V.non))) H) (oT o) (cst .non) k := by
  cases o
  · exact v_isN (x := .non) q
  · exact v_isN (x := .str _) q
theorem v_noToT {O : OO} {k : As → OO → Prop} {o : Option (List Nat)} (q : k (bo o.isSome) O) : V2 O (fun x y H Q => y = V.non ∧ Q (V.bl (!decide (x = V.non))) H) (oT o) (cst .non) k := by
  cases o
  · exact v_notN (x := .non) q
  · exact v_notN (x := .str _) q
instance {O : OO} {k : As → OO → Prop} {o : Option (List Nat)} : Stp (V2 O (fun x y H Q => y = V.non ∧ Q (V.bl (decide (x = V.non))) H) (oT o) (cst .non) k) (k (bo o.isNone) O) := ⟨v_isoT⟩
instance {O : OO} {k : As → OO → Prop} {o : Option (List Nat)} : Stp (V2 O (fun x y H Q => y = V.non ∧ Q (V.bl (!decide (x = V.non))) H) (oT o) (cst .non) k) (k (bo o.isSome) O) := ⟨v_noToT⟩
/-- blanks at both ends go -/
def trimB (l : List Nat) : List Nat := trimL (fun c => decide (c ∈ lc_BLANKS)) l
theorem trimB_len (l : List Nat) : (trimB l).length ≤ l.length := trimL_len _ l
end
section
abbrev lcv_SAMES : List (List Nat) := lcv_SAMES_pieces
end
section
variable {P : Program} {w : World} {K : PySem.W.Frag} {mg : Str → Option Value} {base : Heap} [IsP P]
/-! ### is_tick -/
def tickB : Int ⊕ As → Bool
  | .inl i => decide (0 ≤ i) && decide (i ≤ 253402300799)
  | .inr _ => false
abbrev sp_is_tick (K : PySem.W.Frag) : Sp := SpP (okI K) vA (fun a => bo (tickB a))
theorem ok_is_tick (T : Txt K mg w) : FnOk P w K mg base CX0 2 T.f_is_tick T.d_is_tick ["value"] (sp_is_tick K) := by
  refine fn_sy T.F_is_tick sc_is_tick (fun a _ => vA_len a) fun a cdv A outer s H E hr hp => ⟨_, (pss_one (ps_ret (pe_and (pe_call (ok_is_integer (P := P) T) (hr.mono (by decide)) (by rfl) T.g_is_integer T.F_is_integer.kp T.b_is_integer .nil pass0 (pa_cons (pv 0) pa_nil)) (pe_one (pe_chain op_le op_le pe_int (pv 0) (pe_glob (v := .int (253402300799)) (by rfl) T.c_LAST_TICK.choose_spec ⟨_, rfl⟩)))))), ?_⟩
  cases a with
  | inl i =>
    show GoS [some (it i)] [] _ _
    refine GoS.ret (Go.andVJ (p := true) (q := decide (0 ≤ i) && decide (i ≤ 253402300799)) ?_ (fun _ => ?_) ?_)
    · exact Go.callP (GoA.cons (Go.var rfl (GoA.nil ⟨.inl i, rfl, hp, rfl, rfl⟩)))
    · walk_at "cj1"
    · exact ⟨rfl, rfl⟩
  | inr B =>
    show GoS [some B] [] _ _
    refine GoS.ret (Go.andV ?_)
    exact Go.callP (GoA.cons (Go.var rfl (GoA.nil ⟨.inr B, rfl, hp, false, rfl, fun z => (by cases z), fun _ => ⟨rfl, rfl⟩⟩)))
/-! ### need_tick -/
def vX : Int ⊕ As → As
  | .inl i => it i
  | .inr A => A
theorem vA_eq (a : Int ⊕ As) : vA a = [vX a] := by cases a <;> rfl
/-- what is raised for what is no tick -/
abbrev rpTick (T : Txt K mg w) (a : Int ⊕ As) (cls : Value) (fs : List (Str × As)) (O' : OO) : Prop := tickB a = false ∧ cls = .ref T.C_BadTick ∧ fs = [(("given" : Str), vX a)] ∧ O' = []
abbrev sp_need_tick (T : Txt K mg w) : Sp := SpX (okI K) (fun a => [vX a]) (fun _ => []) (fun a A O' => tickB a = true ∧ A = no ∧ O' = []) (rpTick T)
theorem ok_need_tick (T : Txt K mg w) : FnOk P w K mg base (L2.CX P w) 3 T.f_need_tick T.d_need_tick ["value"] (sp_need_tick T) := by
  refine fnx_sy T.F_need_tick sc_need_tick (fun _ _ => rfl) fun a cdv A outer s H E hr hp => ⟨_, (pss_one (ps_if (pt_not (pt_val (pe_call (ok_is_tick (P := P) T) (hr.mono (by decide)) (by rfl) T.g_is_tick T.F_is_tick.kp T.b_is_tick .nil pass0 (pa_cons (pv 0) pa_nil))))
      (pss_one (ps_rz rfl takesD (ExS.pmk_ex (pn := "given") T.E_BadTick rfl rfl (IsP.eq (P := P)) (hr.mono (by decide)) rfl rfl rfl sci_BadTick (by decide +kernel) (by decide) (by decide) (by decide) (fun _ _ _ _ _ _ _ _ _ => rfl) (by rfl) (pa_cons (pv 0) pa_nil))))
      pss_nil)), ?_⟩
  refine GoSW.ite (GoWT.up (GoT.not (GoT.b (Go.callP (GoA.cons (Go.var rfl (GoA.nil ⟨a, (vA_eq a).symm, hp, _, rfl, ?_⟩)))))))
  cases h : tickB a with
  | true => exact ⟨fun z => (by cases z), fun _ => GoSW.up (GoS.nil ⟨rfl, rfl, rfl⟩)⟩
  | false => exact ⟨fun _ => GoSW.raise (GoA.cons (Go.var rfl (GoA.nil ⟨_, rfl, h, rfl, rfl, rfl⟩))), fun z => (by cases z)⟩
/-! ### small_text -/
/-! great letters made small -/
def low (c : Nat) : Nat := if 65 ≤ c ∧ c ≤ 90 then c + 32 else c
def small (l : List Nat) : List Nat := l.map low
theorem great_in : ∀ c : Nat, c ∈ lc_GREAT ↔ 65 ≤ c ∧ c ≤ 90 := by
  have h1 : ∀ c ∈ lc_GREAT, 65 ≤ c ∧ c ≤ 90 := by decide +kernel
  have h2 : ∀ k < 26, 65 + k ∈ lc_GREAT := by decide +kernel
  intro c
  refine ⟨h1 c, fun h => ?_⟩
  have := h2 (c - 65) (by omega)
  rw [show 65 + (c - 65) = c by omega] at this
  exact this
theorem great_at : ∀ k < 26, Builtin.Str.occurrences (S lc_GREAT) (S [65 + k]) 0 (S lc_GREAT).length 1 = [k] ∧ atI lc_SMALL (k : Int) = some (65 + k + 32) := by decide +kernel
theorem flat_one {α β : Type} (f : α → β) (l : List α) : (l.map fun x => [f x]).flatten = l.map f := by
  induction l with
  | nil => rfl
  | cons a r ih => rw [List.map_cons, List.flatten_cons, ih]; rfl
theorem lens_one {α β : Type} {f : α → List β} (h : ∀ a, (f a).length = 1) (l : List α) : ((l.map f).map (·.length)).sum = l.length := by
  induction l with
  | nil => rfl
  | cons a r ih =>
    rw [List.map_cons, List.map_cons, List.sum_cons, ih, List.length_cons, h]
    omega
theorem great_flat (a : List Nat) : (a.map fun x => if decide (x ∈ lc_GREAT) = true then [x + 32] else [x]).flatten = small a := by
  have e : (fun x => if decide (x ∈ lc_GREAT) = true then [x + 32] else [x]) = fun x => [low x] := funext fun c => by
    unfold low
    by_cases h : 65 ≤ c ∧ c ≤ 90
    · rw [if_pos h, if_pos (decide_eq_true ((great_in c).mpr h))]
    · rw [if_neg h, if_neg (fun z => h ((great_in c).mp (of_decide_eq_true z)))]
  rw [e, flat_one]
  rfl
abbrev sp_small_text (K : PySem.W.Frag) : Sp := SpP (fun l : List Nat => l.length ≤ 90000) (fun l => [tx l]) (fun l => tx (small l))
theorem ok_small_text (T : Txt K mg w) : FnOk P w K mg base CX0 1 T.f_small_text T.d_small_text ["text"] (sp_small_text K) := by
  refine fn_sy T.F_small_text sc_small_text (fun _ _ => rfl) fun a cdv A outer s H E hr hp => ⟨_, (pss_one (ps_ret (pe_m1 PySem.F.slot_str_join PySem.F.type_str_join (kJoin (K := K) rfl) pe_str (pe_lc (own := [("sign", 1)]) (g := gName 1) (tt := tYes) (by rfl) sc_small_text.nd (pi_str (pv 0)) (blkOk_by (own := [("sign", 1)]) (N := N_small_text) (sc := defScope S_small_text) (by decide +kernel)) (fun _ _ _ _ _ => (pg_name (i := 1) sc_small_text.nd rfl (.inl rfl))) (fun _ _ _ _ _ => pts_nil) (fun _ _ _ _ _ => (pe_ifExp (pt_cmpR op_in_sign (pv 1) (pe_glob (v := .str cs_GREAT) (by rfl) T.c_GREAT.choose_spec ⟨_, rfl⟩) (by rfl)) (pe_ix ix_str (pe_glob (v := .str cs_SMALL) (by rfl) T.c_SMALL.choose_spec ⟨_, rfl⟩) (kBm (K := K) rfl PySem.F.plainAttrs_str PySem.F.slot_str_index PySem.F.type_str_index mt_sindex (pe_glob (v := .str cs_GREAT) (by rfl) T.c_GREAT.choose_spec ⟨_, rfl⟩) (pa_cons (pv 1) pa_nil)) (fun _ _ => rfl)) (pv 1))))))), ?_⟩
  walk_at "cj2"
  · rename_i hg
    have h3 := (great_in x).mp (of_decide_eq_true hg)
    obtain ⟨g1, g2⟩ := great_at (x - 65) (by omega)
    rw [show 65 + (x - 65) = x by omega] at g1 g2
    refine Vm.sc1 (z := .int ((x - 65 : Nat) : Int)) (fun _ _ q => ⟨_, _, _, _, rfl, rfl, g1, q⟩) (v_ixS (by decide) g2 ⟨rfl, rfl⟩)
  · rw [lens_one (fun x => by split <;> rfl)]; omega
  · rw [← great_flat]
end
section
variable {P : Program} {w : World} {K : PySem.W.Frag} {mg : Str → Option Value} {base : Heap} [IsP P]
/-! ### s1_is_number_word -/
def isNum (l : List Nat) : Bool := !decide (l = []) && l.all digSign
abbrev sp_s1_is_number_word (K : PySem.W.Frag) : Sp := SpP (fun l : List Nat => l.length ≤ 100000) (fun l => [tx l]) (fun l => bo (isNum l))
theorem ok_s1_is_number_word (T : Txt K mg w) : FnOk P w K mg base CX0 1 T.f_s1_is_number_word T.d_s1_is_number_word ["text"] (sp_s1_is_number_word K) := by
  refine fn_sy T.F_s1_is_number_word sc_s1_is_number_word (fun _ _ => rfl) fun a cdv A outer s H E hr hp => ⟨_, (pss_one (ps_ret (pe_and (pe_cmpR op_ne (pv 0) pe_str (nomark _)) (pe_one (pe_callB (kAll (K := K) rfl rfl) (by rfl) T.n_all (by decide +kernel) (pa_cons (pe_lc (own := [("sign", 1)]) (g := gName 1) (tt := tYes) (by rfl) sc_s1_is_number_word.nd (pi_str (pv 0)) (blkOk_by (own := [("sign", 1)]) (N := N_s1_is_number_word) (sc := defScope S_s1_is_number_word) (by decide +kernel)) (fun _ _ _ _ _ => (pg_name (i := 1) sc_s1_is_number_word.nd rfl (.inl rfl))) (fun _ _ _ _ _ => pts_nil) (fun _ _ _ _ _ => (pe_cmpR op_in_sign (pv 1) (pe_glob (v := .str cs_DIGITS) (by rfl) T.c_DIGITS.choose_spec ⟨_, rfl⟩) (by rfl)))) pa_nil)))))), ?_⟩
  walk_at "cj1"
/-! ### s1_is_small -/
theorem isNum_digits {l : List Nat} (h : isNum l = true) : l ≠ [] ∧ l.all digSign = true := by
  unfold isNum at h
  rw [Bool.and_eq_true, Bool.not_eq_true', decide_eq_false_iff_not] at h
  exact h
def isSmall (l : List Nat) : Bool := isNum l && decide (l.length ≤ 3) && !(decide (l.head? = some 48) && !decide (l = [48])) && decide (NumText.digitsVal l ≤ 255)
abbrev sp_s1_is_small (K : PySem.W.Frag) : Sp := SpP (fun l : List Nat => l.length ≤ 100000) (fun l => [tx l]) (fun l => bo (isSmall l))
theorem ok_s1_is_small (T : Txt K mg w) : FnOk P w K mg base CX0 2 T.f_s1_is_small T.d_s1_is_small ["word"] (sp_s1_is_small K) := by
  refine fn_sy T.F_s1_is_small sc_s1_is_small (fun _ _ => rfl) fun a cdv A outer s H E hr hp => ⟨_, (pss_cons (ps_if (PW.pt (pw_or (pt_not (pt_val (pe_call (ok_s1_is_number_word (P := P) T) (hr.mono (by decide)) (by rfl) T.g_s1_is_number_word T.F_s1_is_number_word.kp T.b_s1_is_number_word .nil pass0 (pa_cons (pv 0) pa_nil)))) (pw_or (pt_cmpR op_gt (pe_callB call_len_str (by rfl) T.n_len (by decide +kernel) (pa_cons (pv 0) pa_nil)) pe_int (nomark _)) (pw_or1 (PW.pt (pw_and (pt_cmpR op_eq (pe_ix ix_str (pv 0) pe_int (fun _ _ => rfl)) pe_str (nomark _)) (pw_and1 (pt_cmpR op_ne (pv 0) pe_str (nomark _)))))))))
      (pss_one (ps_ret pe_bl))
      pss_nil)
      (pss_one (ps_ret (pe_cmpR op_le (pe_callTy call_int_str (by rfl) T.n_int (by decide +kernel) (pa_cons (pv 0) pa_nil)) pe_int (nomark _))))), ?_⟩
  refine GoS.seq (GoS.ite (GoT.orJ (p := !isNum a) (q := decide (3 < (a.length : Int)) || (decide (a.head? = some 48) && !decide (a = [48]))) ?_ (fun h1 => GoT.orJ (p := decide (3 < (a.length : Int))) (q := decide (a.head? = some 48) && !decide (a = [48])) ?_ (fun _ => GoT.andJ (p := decide (a.head? = some 48)) (q := !decide (a = [48])) ?_ (fun _ => ?_) ⟨rfl, rfl⟩) ⟨rfl, rfl⟩) ?_))
  · walk_at "cj3"
  · walk_at "cj3"
  · have hn : a ≠ [] := (isNum_digits (by simpa using h1)).1
    obtain ⟨c, h2, h3⟩ := first_at hn
    walk_at "cj3"
    refine v_ixS hp h2 ?_
    walk_at "cj3"
    exact one_dec h3
  · walk_at "cj3"
  have e : decide (a.length ≤ 3) = !decide (3 < (a.length : Int)) := by
    rw [← decide_not]
    exact decide_eq_decide.mpr (by omega)
  have ef : isSmall a = (isNum a && !decide (3 < (a.length : Int)) && !(decide (a.head? = some 48) && !decide (a = [48])) && decide (NumText.digitsVal a ≤ 255)) := by rw [← e]; rfl
  by_cases hN : isNum a = true
  · rw [hN] at ef ⊢
    by_cases hL : 3 < (a.length : Int)
    · rw [decide_eq_true hL] at ef ⊢
      refine ⟨fun _ => ?_, fun h => (by cases h)⟩
      have ef : isSmall a = false := ef
      walk_at "cj3"
      all_goals (rw [ef])
    · rw [decide_eq_false hL] at ef ⊢
      have hd := isNum_digits hN
      have hi : PySem.intText? (S a) = some (NumText.digitsVal a : Int) := SX.int_S (all_digits hd.2) hd.1 (by omega)
      have hl : a.length ≤ 640 := by omega
      generalize decide (a.head? = some 48) = x at ef ⊢
      generalize decide (a = [48]) = y at ef ⊢
      by_cases hxy : (x && !y) = true
      · rw [hxy] at ef ⊢
        refine ⟨fun _ => ?_, fun h => (by cases h)⟩
        have ef : isSmall a = false := ef
        walk_at "cj3"
        all_goals (rw [ef])
      · rw [Bool.eq_false_iff.mpr hxy] at ef ⊢
        refine ⟨fun h => (by cases h), fun _ => ?_⟩
        have ef : isSmall a = decide (NumText.digitsVal a ≤ 255) := by rw [ef]; rfl
        walk_at "cj3"
        all_goals (rw [ef]; exact congrArg bo (decide_eq_decide.mpr (by omega)))
  · rw [Bool.eq_false_iff.mpr hN] at ef ⊢
    refine ⟨fun _ => ?_, fun h => (by cases h)⟩
    have ef : isSmall a = false := ef
    walk_at "cj3"
    all_goals (rw [ef])
/-! ### s1_is_label -/
def labSign (c : Nat) : Bool := decide (c ∈ lc_LABEL_SIGNS)
def isLabel (l : List Nat) : Bool := decide (1 ≤ l.length ∧ l.length ≤ 20) && !decide (l.head? = some 45) && !decide (l.getLast? = some 45) && l.all labSign
abbrev sp_s1_is_label (K : PySem.W.Frag) : Sp := SpP (fun l : List Nat => l.length ≤ 100000) (fun l => [tx l]) (fun l => bo (isLabel l))
theorem ok_s1_is_label (T : Txt K mg w) : FnOk P w K mg base CX0 1 T.f_s1_is_label T.d_s1_is_label ["text"] (sp_s1_is_label K) := by
  refine fn_sy T.F_s1_is_label sc_s1_is_label (fun _ _ => rfl) fun a cdv A outer s H E hr hp => ⟨_, (pss_cons (ps_if (PW.pt (pw_or (pt_not (pt_chain op_le op_le pe_int (pe_callB call_len_str (by rfl) T.n_len (by decide +kernel) (pa_cons (pv 0) pa_nil)) (pe_glob (v := .int (20)) (by rfl) T.c_MOST_LABEL.choose_spec ⟨_, rfl⟩))) (pw_or (pt_cmpR op_eq (pe_ix ix_str (pv 0) pe_int (fun _ _ => rfl)) pe_str (nomark _)) (pw_or1 (pt_cmpR op_eq (pe_ix ix_str (pv 0) (pe_un un_neg pe_int) (fun _ _ => rfl)) pe_str (nomark _))))))
      (pss_one (ps_ret pe_bl))
      pss_nil)
      (pss_one (ps_ret (pe_callB (kAll (K := K) rfl rfl) (by rfl) T.n_all (by decide +kernel) (pa_cons (pe_lc (own := [("sign", 1)]) (g := gName 1) (tt := tYes) (by rfl) sc_s1_is_label.nd (pi_str (pv 0)) (blkOk_by (own := [("sign", 1)]) (N := N_s1_is_label) (sc := defScope S_s1_is_label) (by decide +kernel)) (fun _ _ _ _ _ => (pg_name (i := 1) sc_s1_is_label.nd rfl (.inl rfl))) (fun _ _ _ _ _ => pts_nil) (fun _ _ _ _ _ => (pe_cmpR op_in_sign (pv 1) (pe_glob (v := .str cs_LABEL_SIGNS) (by rfl) T.c_LABEL_SIGNS.choose_spec ⟨_, rfl⟩) (by rfl)))) pa_nil))))), ?_⟩
  refine GoS.seq (GoS.ite (GoT.orJ (p := !(decide (1 ≤ (a.length : Int)) && decide ((a.length : Int) ≤ 20))) (q := decide (a.head? = some 45) || decide (a.getLast? = some 45)) ?_ (fun h1 => GoT.orJ (p := decide (a.head? = some 45)) (q := decide (a.getLast? = some 45)) ?_ (fun _ => ?_) ⟨rfl, rfl⟩) ?_))
  · walk_at "cj1"
  · have hn : a ≠ [] := fun z => by subst z; cases h1
    obtain ⟨c, h2, h3⟩ := first_at hn
    walk_at "cj1"
    refine v_ixS hp h2 ?_
    walk_at "cj1"
    exact one_dec h3
  · have hn : a ≠ [] := fun z => by subst z; cases h1
    obtain ⟨c, h2, h3⟩ := last_at hn
    walk_at "cj1"
    refine v_ixS hp h2 ?_
    walk_at "cj1"
    exact one_dec h3
  have e : decide (1 ≤ a.length ∧ a.length ≤ 20) = (decide (1 ≤ (a.length : Int)) && decide ((a.length : Int) ≤ 20)) := by
    rw [← Bool.decide_and]
    exact decide_eq_decide.mpr (by omega)
  have ef : isLabel a = ((decide (1 ≤ (a.length : Int)) && decide ((a.length : Int) ≤ 20)) && !decide (a.head? = some 45) && !decide (a.getLast? = some 45) && a.all labSign) := by rw [← e]; rfl
  generalize (decide (1 ≤ (a.length : Int)) && decide ((a.length : Int) ≤ 20)) = x at ef ⊢
  generalize decide (a.head? = some 45) = y at ef ⊢
  generalize decide (a.getLast? = some 45) = z at ef ⊢
  by_cases hx : (!x || (y || z)) = true
  · rw [hx]
    refine ⟨fun _ => ?_, fun h => (by cases h)⟩
    have ef : isLabel a = false := by rw [ef]; revert hx; cases x <;> cases y <;> cases z <;> simp
    walk_at "cj1"
    all_goals (rw [ef])
  · rw [Bool.eq_false_iff.mpr hx]
    refine ⟨fun h => (by cases h), fun _ => ?_⟩
    have ef : isLabel a = a.all labSign := by rw [ef]; revert hx; cases x <;> cases y <;> cases z <;> simp
    walk_at "cj1"
    all_goals (rw [ef]; rfl)
/-! ### is_address_host -/
def isAddr (l : List Nat) : Bool := decide ((parts 46 l).length = 4) && (parts 46 l).all isSmall
def addrA : List Nat ⊕ As → As
  | .inl l => bo (isAddr l)
  | .inr _ => bo false
abbrev sp_is_address_host (K : PySem.W.Frag) : Sp := SpP (okText K) txo addrA
theorem ok_is_address_host (T : Txt K mg w) : FnOk P w K mg base CX0 3 T.f_is_address_host T.d_is_address_host ["value"] (sp_is_address_host K) := by
  refine fn_sy T.F_is_address_host sc_is_address_host (fun a _ => txo_len a) fun a cdv A outer s H E hr hp => ⟨_, (pss_cons (ps_if (pt_not (pt_val (pe_callB (kIsi (K := K) rfl) (by rfl) T.n_isinstance (by decide +kernel) (pa_cons (pv 0) (pa_cons (pe_bltn (v := .ty "str") (by rfl) T.n_str (by decide +kernel) rfl) pa_nil)))))
      (pss_one (ps_ret pe_bl))
      pss_nil)
      (pss_cons (ps_set (i := 1) sc_is_address_host.nd rfl (.inl rfl) (pe_split (pv 0) pe_str))
      (pss_one (ps_ret (pe_and (pe_cmpR op_eq (pe_callB (kLen (K := K) rfl) (by rfl) T.n_len (by decide +kernel) (pa_cons (pv 1) pa_nil)) pe_int (nomark _)) (pe_one (pe_callB (kAll (K := K) rfl rfl) (by rfl) T.n_all (by decide +kernel) (pa_cons (pe_lc (own := [("word", 2)]) (g := gName 2) (tt := tYes) (by rfl) sc_is_address_host.nd (kpList (K := K) rfl (pv 1)) (blkOk_by (own := [("word", 2)]) (N := N_is_address_host) (sc := defScope S_is_address_host) (by decide +kernel)) (fun _ _ _ _ _ => (pg_name (i := 2) sc_is_address_host.nd rfl (.inl rfl))) (fun _ _ _ _ _ => pts_nil) (fun _ _ _ _ _ => (pe_call (ok_s1_is_small (P := P) T) (hr.mono (by decide)) (by rfl) T.g_s1_is_small T.F_s1_is_small.kp T.b_s1_is_small .nil pass0 (pa_cons (pv 2) pa_nil)))) pa_nil)))))))), ?_⟩
  cases a with
  | inr B =>
    have hp : OddA K "str" B := hp
    show GoS [some B, none, none] [] _ _
    refine GoS.seq (GoS.ite (GoT.not (GoT.b (Go.cb (GoA.cons (Go.var rfl (GoA.cons (Go.c (GoA.nil (v_isiOdd hp ⟨false, rfl, fun _ => ?_, fun z => (by cases z)⟩)))))))))) 
    walk_at "cj1"
  | inl a =>
    have hp : a.length ≤ 70000 := hp
    have pl := parts_len 46 a
    have pe : ∀ x ∈ parts 46 a, x.length ≤ 100000 := fun x hx => by have := parts_each 46 x hx; omega
    show GoS [some (tx a), none, none] [] _ _
    walk_at "cj1"
    · exact pe x hx
    · show bo _ = bo (isAddr a)
      unfold isAddr
      rw [List.length_map]
      exact congrArg (fun b => bo (b && (parts 46 a).all isSmall)) (decide_eq_decide.mpr (by omega))
/-! ### is_host -/
def isHost (l : List Nat) : Bool := decide (l.length ≤ 100) && decide ((parts 46 l).length ≤ 10) && (parts 46 l).all isLabel && (!isNum ((parts 46 l).getLast (parts_ne 46 l)) || isAddr l)
def hostA : List Nat ⊕ As → As
  | .inl l => bo (isHost l)
  | .inr _ => bo false
abbrev sp_is_host (K : PySem.W.Frag) : Sp := SpP (okText K) txo hostA
theorem ok_is_host (T : Txt K mg w) : FnOk P w K mg base CX0 4 T.f_is_host T.d_is_host ["value"] (sp_is_host K) := by
  refine fn_sy T.F_is_host sc_is_host (fun a _ => txo_len a) fun a cdv A outer s H E hr hp => ⟨_, (pss_cons (ps_if (PW.pt (pw_or (pt_not (pt_val (pe_callB (kIsi (K := K) rfl) (by rfl) T.n_isinstance (by decide +kernel) (pa_cons (pv 0) (pa_cons (pe_bltn (v := .ty "str") (by rfl) T.n_str (by decide +kernel) rfl) pa_nil))))) (pw_or1 (pt_cmpR op_gt (pe_callB call_len_str (by rfl) T.n_len (by decide +kernel) (pa_cons (pv 0) pa_nil)) (pe_glob (v := .int (100)) (by rfl) T.c_MOST_SIGNS.choose_spec ⟨_, rfl⟩) (nomark _)))))
      (pss_one (ps_ret pe_bl))
      pss_nil)
      (pss_cons (ps_set (i := 1) sc_is_host.nd rfl (.inl rfl) (pe_split (pv 0) pe_str))
      (pss_cons (ps_if (PW.pt (pw_or (pt_cmpR op_gt (pe_callB (kLen (K := K) rfl) (by rfl) T.n_len (by decide +kernel) (pa_cons (pv 1) pa_nil)) (pe_glob (v := .int (10)) (by rfl) T.c_MOST_LABELS.choose_spec ⟨_, rfl⟩) (nomark _)) (pw_or1 (pt_not (pt_val (pe_callB (kAll (K := K) rfl rfl) (by rfl) T.n_all (by decide +kernel) (pa_cons (pe_lc (own := [("word", 2)]) (g := gName 2) (tt := tYes) (by rfl) sc_is_host.nd (kpList (K := K) rfl (pv 1)) (blkOk_by (own := [("word", 2)]) (N := N_is_host) (sc := defScope S_is_host) (by decide +kernel)) (fun _ _ _ _ _ => (pg_name (i := 2) sc_is_host.nd rfl (.inl rfl))) (fun _ _ _ _ _ => pts_nil) (fun _ _ _ _ _ => (pe_call (ok_s1_is_label (P := P) T) (hr.mono (by decide)) (by rfl) T.g_s1_is_label T.F_s1_is_label.kp T.b_s1_is_label .nil pass0 (pa_cons (pv 2) pa_nil)))) pa_nil)))))))
      (pss_one (ps_ret pe_bl))
      pss_nil)
      (pss_one (ps_ret (pe_or (pe_not (pe_call (ok_s1_is_number_word (P := P) T) (hr.mono (by decide)) (by rfl) T.g_s1_is_number_word T.F_s1_is_number_word.kp T.b_s1_is_number_word .nil pass0 (pa_cons (pe_ix (kIxL (K := K) rfl) (pv 1) (pe_un un_neg pe_int) (fun _ _ => rfl)) pa_nil))) (pe_one (pe_call (ok_is_address_host (P := P) T) (hr.mono (by decide)) (by rfl) T.g_is_address_host T.F_is_address_host.kp T.b_is_address_host .nil pass0 (pa_cons (pv 0) pa_nil))))))))), ?_⟩
  cases a with
  | inr B =>
    have hp : OddA K "str" B := hp
    show GoS [some B, none, none] [] _ _
    refine GoS.seq (GoS.ite (GoT.or (GoT.not (GoT.b (Go.cb (GoA.cons (Go.var rfl (GoA.cons (Go.c (GoA.nil (v_isiOdd hp ⟨false, rfl, ?_⟩))))))))))) 
    walk_at "cj4"
  | inl a =>
    have hp : a.length ≤ 70000 := hp
    have pl := parts_len 46 a
    have pe : ∀ x ∈ parts 46 a, x.length ≤ 100000 := fun x hx => by have := parts_each 46 x hx; omega
    have lw : (parts 46 a).getLast? = some ((parts 46 a).getLast (parts_ne 46 a)) := List.getLast?_eq_some_getLast _
    have ef : isHost a = (!decide (100 < (a.length : Int)) && !decide (10 < ((parts 46 a).length : Int)) && (parts 46 a).all isLabel && (!isNum ((parts 46 a).getLast (parts_ne 46 a)) || isAddr a)) := by
      have e1 : decide (a.length ≤ 100) = !decide (100 < (a.length : Int)) := by rw [← decide_not]; exact decide_eq_decide.mpr (by omega)
      have e2 : decide ((parts 46 a).length ≤ 10) = !decide (10 < ((parts 46 a).length : Int)) := by rw [← decide_not]; exact decide_eq_decide.mpr (by omega)
      rw [← e1, ← e2]
      rfl
    have lwl := pe _ (List.mem_of_getLast? lw)
    generalize (parts 46 a).getLast (parts_ne 46 a) = w9 at lw ef lwl
    have atw : atI ((parts 46 a).map tx) (-1) = some (tx w9) := atI_neg1 (by rw [List.getLast?_map, lw]; rfl)
    show GoS [some (tx a), none, none] [] _ _
    walk_at "cj4"
    · have h' : decide (100 < (a.length : Int)) = true := h
      show bo false = bo (isHost a)
      rw [ef, h']
      rfl
    · exact pe x hx
    · rename_i h0
      have h' : decide (100 < (a.length : Int)) = false := h0
      rw [List.length_map] at h
      show bo false = bo (isHost a)
      rw [ef, h']
      rw [Bool.or_eq_true, Bool.not_eq_true'] at h
      rcases h with h | h
      · rw [h]; rfl
      · rw [h, Bool.and_false]; rfl
    · refine v_ixL atw ?_
      walk_at "cj4"
    · exact ⟨.inl a, rfl, hp, rfl, rfl⟩
    · rename_i h0
      have h' : decide (100 < (a.length : Int)) = false := h0
      rw [List.length_map, Bool.or_eq_false_iff, Bool.not_eq_false'] at h
      show bo (!isNum w9 || isAddr a) = bo (isHost a)
      rw [ef, h', h.1, h.2]
      rfl
end
section
/-! hosts by their words: all but the last, and the last -/
theorem parts_snoc {c x : Nat} (h : x ≠ c) : ∀ {l : List Nat} {i : List (List Nat)} {w : List Nat}, parts c l = i ++ [w] → parts c (l ++ [x]) = i ++ [w ++ [x]]
  | [], i, w, e => by
    rw [parts_nil] at e
    obtain ⟨rfl, rfl⟩ : i = [] ∧ w = [] := by
      cases i with
      | nil => simp at e; exact ⟨rfl, e⟩
      | cons a r => simp at e
    rw [List.nil_append, parts_one (by simp; omega)]
    rfl
  | y :: l, i, w, e => by
    obtain ⟨i', w', e'⟩ : ∃ i' w', parts c l = i' ++ [w'] := ⟨_, _, (List.dropLast_concat_getLast (parts_ne c l)).symm⟩
    have ih := parts_snoc h e'
    by_cases hy : y = c
    · subst hy
      rw [parts_hit, e'] at e
      rw [List.cons_append, parts_hit, ih]
      rw [show [] :: (i' ++ [w']) = ([] :: i') ++ [w'] from rfl] at e
      have e1 := List.append_inj_left' e rfl
      have e2 := List.append_inj_right' e rfl
      rw [← e1, show w = w' from (List.cons.inj e2).1.symm]
      rfl
    · obtain ⟨p, r, h1, h2⟩ := parts_miss hy l
      obtain ⟨p', r', h3, h4⟩ := parts_miss hy (l ++ [x])
      rw [h2] at e
      rw [List.cons_append, h4]
      rw [h1] at e'
      rw [h3] at ih
      cases i' with
      | nil =>
        obtain ⟨rfl, rfl⟩ := List.cons.inj (show p :: r = w' :: [] from e')
        obtain ⟨rfl, rfl⟩ := List.cons.inj (show p' :: r' = (p ++ [x]) :: [] from ih)
        cases i with
        | nil =>
          have := (List.cons.inj (show (y :: p) :: [] = w :: [] from e)).1
          rw [← this]
          rfl
        | cons a b => have := congrArg List.length e; simp at this
      | cons a b =>
        obtain ⟨rfl, rfl⟩ := List.cons.inj (show p :: r = a :: (b ++ [w']) from e')
        obtain ⟨rfl, rfl⟩ := List.cons.inj (show p' :: r' = p :: (b ++ [w' ++ [x]]) from ih)
        have e1 := List.append_inj_left' (show ((y :: p') :: b) ++ [w'] = i ++ [w] from e) rfl
        have e2 := List.append_inj_right' (show ((y :: p') :: b) ++ [w'] = i ++ [w] from e) rfl
        rw [← e1, show w = w' from (List.cons.inj e2).1.symm]
        rfl
theorem words_of (l : List Nat) : ∃ i w, parts 46 l = i ++ [w] := ⟨_, _, (List.dropLast_concat_getLast (parts_ne 46 l)).symm⟩
def hostW (n : Nat) (i : List (List Nat)) (w : List Nat) : Bool := decide (n ≤ 100) && decide (i.length + 1 ≤ 10) && (i.all isLabel && isLabel w) && (!isNum w || (decide (i.length + 1 = 4) && (i.all isSmall && isSmall w)))
theorem isHost_w {l : List Nat} {i : List (List Nat)} {w : List Nat} (e : parts 46 l = i ++ [w]) : isHost l = hostW l.length i w := by
  have hl : (parts 46 l).getLast (parts_ne 46 l) = w := by
    have : (parts 46 l).getLast? = some w := by rw [e]; simp
    rw [List.getLast?_eq_some_getLast (parts_ne 46 l)] at this
    exact Option.some.inj this
  unfold isHost isAddr hostW
  rw [hl, e]
  simp [List.all_append]
def mayW (i : List (List Nat)) (w : List Nat) : Bool := decide (i.length + 1 ≤ 4) && i.all isSmall && (decide (w = []) || isSmall w)
def beginsW (n : Nat) (i : List (List Nat)) (w : List Nat) : Bool :=
  if (decide ((100 : Int) - n < 0) || (decide (10 < i.length + 1) || !i.all isLabel)) = true then false
  else if decide (w = []) = true then decide ((0 : Int) < 100 - n)
  else if (decide (w.head? = some 45) || (decide (20 < w.length) || !w.all labSign)) = true then false
  else if (!decide (w.getLast? = some 45) && !isNum w) = true then true
  else if (decide ((0 : Int) < 100 - n) && decide (w.length < 20)) = true then true
  else if decide (w.getLast? = some 45) = true then false
  else (decide ((1 : Int) < 100 - n) && decide (i.length + 1 < 10)) || (mayW i w && decide (2 * (4 - ((i.length : Int) + 1)) ≤ 100 - n))
theorem lab_a (w : List Nat) : isLabel (w ++ [97]) = (decide (w.length < 20) && !decide (w.head? = some 45) && w.all labSign) := by
  unfold isLabel
  have h1 : (w ++ [97]).getLast? = some 97 := by simp
  have h2 : (w ++ [97]).all labSign = w.all labSign := by
    rw [List.all_append, show [97].all labSign = true by decide +kernel, Bool.and_true]
  have h3 : decide ((w ++ [97]).head? = some 45) = decide (w.head? = some 45) := by
    cases w <;> simp
  have h4 : decide (1 ≤ (w ++ [97]).length ∧ (w ++ [97]).length ≤ 20) = decide (w.length < 20) := decide_eq_decide.mpr (by rw [List.length_append, List.length_singleton]; omega)
  rw [h1, h2, h3, h4]
  simp
theorem num_a (w : List Nat) : isNum (w ++ [97]) = false := by
  unfold isNum
  rw [List.all_append, show [97].all digSign = false by decide +kernel]
  simp
theorem lab_nil : isLabel [] = false := by decide +kernel
theorem lab_of {w : List Nat} (hn : w ≠ []) : isLabel w = (decide (w.length ≤ 20) && !decide (w.head? = some 45) && !decide (w.getLast? = some 45) && w.all labSign) := by
  unfold isLabel
  have : 1 ≤ w.length := List.length_pos_iff.mpr hn
  rw [show decide (1 ≤ w.length ∧ w.length ≤ 20) = decide (w.length ≤ 20) from decide_eq_decide.mpr (by omega)]
theorem begins_eq (n : Nat) (i : List (List Nat)) (w : List Nat) : beginsW n i w = (hostW n i w || hostW (n + 1) i (w ++ [97]) || hostW (n + 2) (i ++ [w]) [97]) := by
  have l97 : isLabel [97] = true := by decide +kernel
  have n97 : isNum [97] = false := by decide +kernel
  unfold hostW
  rw [lab_a, num_a, l97, n97, List.all_append, List.length_append, List.length_singleton, show [w].all isLabel = isLabel w by simp]
  unfold beginsW
  by_cases g1 : n ≤ 100
  case neg =>
    rw [if_pos (by rw [decide_eq_true (show (100 : Int) - n < 0 by omega)]; rfl), decide_eq_false g1, decide_eq_false (show ¬ n + 1 ≤ 100 by omega), decide_eq_false (show ¬ n + 2 ≤ 100 by omega)]
    rfl
  by_cases g2 : i.length + 1 ≤ 10
  case neg =>
    rw [if_pos (by rw [decide_eq_true (show 10 < i.length + 1 by omega)]; simp), decide_eq_false g2, decide_eq_false (show ¬ i.length + 1 + 1 ≤ 10 by omega)]
    simp
  cases g3 : i.all isLabel with
  | false => simp
  | true =>
    rw [if_neg (by simp; omega)]
    by_cases g4 : w = []
    · subst g4
      rw [if_pos (by simp), lab_nil]
      simp [g2]
      omega
    rw [if_neg (by simpa using g4), lab_of g4]
    cases g5 : decide (w.head? = some 45) with
    | true => simp
    | false =>
    by_cases g6 : w.length ≤ 20
    case neg => simp [g6, show 20 < w.length by omega, show ¬ w.length < 20 by omega]
    cases g7 : w.all labSign with
    | false => simp
    | true =>
    rw [if_neg (by simp; omega)]
    cases g8 : decide (w.getLast? = some 45) with
    | false =>
      cases g9 : isNum w with
      | false => simp [g1, g2, g6]
      | true =>
        simp only [Bool.not_false, Bool.not_true, Bool.and_false, Bool.true_and, Bool.false_or, Bool.false_eq_true, if_false, decide_eq_true g1, decide_eq_true g2, decide_eq_true g6, Bool.and_true]
        by_cases g10 : n < 100 ∧ w.length < 20
        · rw [if_pos (by simp; omega), decide_eq_true (show n + 1 ≤ 100 by omega), decide_eq_true g10.2]
          simp
        · rw [if_neg (by simp; omega)]
          have e1 : (decide (n + 1 ≤ 100) && decide (w.length < 20)) = false := by simp; omega
          have e2 : mayW i w = (decide (i.length + 1 ≤ 4) && (i.all isSmall && isSmall w)) := by
            unfold mayW
            rw [decide_eq_false g4, Bool.false_or, Bool.and_assoc]
          rw [e2]
          have e3 : ∀ b c d : Bool, (decide (n + 1 ≤ 100) && (b && (decide (w.length < 20) && c && d))) = false := fun b c d => by
            revert e1
            cases decide (n + 1 ≤ 100) <;> cases decide (w.length < 20) <;> cases b <;> cases c <;> simp
          generalize (i.all isSmall && isSmall w) = sm
          by_cases k1 : 1 < (100 : Int) - n ∧ i.length + 1 < 10
          · simp [k1.1, k1.2, show n + 2 ≤ 100 by omega, show i.length + 1 + 1 ≤ 10 by omega]
          · have k2 : (decide ((1 : Int) < 100 - n) && decide (i.length + 1 < 10)) = false := by simp; omega
            have k3 : (decide (n + 2 ≤ 100) && decide (i.length + 1 + 1 ≤ 10)) = false := by simp; omega
            rw [k2, k3]
            by_cases k4 : i.length + 1 = 4
            · have : (2 : Int) * (4 - ((i.length : Int) + 1)) ≤ 100 - n := by omega
              simp [this, show i.length = 3 by omega, e3]
              rw [decide_eq_true (show (n : Int) ≤ 100 by omega), show (decide (n ≤ 99) && decide (w.length < 20)) = false by simp; omega]
              simp
            · by_cases k5 : i.length + 1 ≤ 4
              · have : ¬ (2 : Int) * (4 - ((i.length : Int) + 1)) ≤ 100 - n := by omega
                simp [k4, this, e3]
                omega
              · simp [k4, k5, e3]
                omega
    | true =>
      simp [g2, g6]
      rw [show decide ((n : Int) < 100) = decide (n ≤ 99) from decide_eq_decide.mpr (by omega)]
theorem begins_of {l : List Nat} {i : List (List Nat)} {w : List Nat} (e : parts 46 l = i ++ [w]) : beginsW l.length i w = (isHost l || isHost (l ++ [97]) || isHost (l ++ [46, 97])) := by
  have e2 : parts 46 (l ++ [46, 97]) = (i ++ [w]) ++ [[97]] := by
    rw [show l ++ [46, 97] = l ++ 46 :: [97] from rfl, parts_cut, e, parts_one (by simp)]
  rw [begins_eq, isHost_w e, isHost_w (parts_snoc (x := 97) (by decide) e), isHost_w e2, List.length_append, List.length_append]
  rfl
/-- the first place at which something is wrong, counted from 1; one behind the last if there is none -/
def firstAt (p : Nat → Bool) (n : Nat) : Nat := (((List.range n).find? p).map (· + 1)).getD (n + 1)
theorem firstAt_hit {p : Nat → Bool} {n i : Nat} (hi : i < n) (h : ∀ j < i, p j = false) (hp : p i = true) : firstAt p n = i + 1 := by
  unfold firstAt
  rw [show (List.range n).find? p = some i from List.find?_range_eq_some.mpr ⟨hp, List.mem_range.mpr hi, fun j hj => by rw [h j hj]; rfl⟩]
  rfl
theorem firstAt_miss {p : Nat → Bool} {n : Nat} (h : ∀ j < n, p j = false) : firstAt p n = n + 1 := by
  unfold firstAt
  rw [show (List.range n).find? p = none from List.find?_eq_none.mpr fun j hj => by rw [h j (List.mem_range.mp hj)]; decide]
  rfl
end
section
/-! tuples of texts, with odd parts, or values of other kinds -/
def pA : List Nat ⊕ As → As
  | .inl l => tx l
  | .inr A => A
def tuA (K : PySem.W.Frag) : List (List Nat ⊕ As) ⊕ As → As
  | .inl xs => tup K (xs.map pA)
  | .inr A => A
def okTu (K : PySem.W.Frag) : List (List Nat ⊕ As) ⊕ As → Prop
  | .inl xs => xs.length ≤ 1000 ∧ ∀ x ∈ xs, okText K x
  | .inr A => OddA K "tuple" A
def schemeB (l : List Nat) : Bool := decide (l ∈ [[104, 116, 116, 112], [104, 116, 116, 112, 115]])
def hostB : List Nat ⊕ As → Bool
  | .inl h => isHost h
  | .inr _ => false
def origL : List (List Nat ⊕ As) → Bool
  | [.inl s, b] => schemeB s && hostB b
  | _ => false
def origB : List (List Nat ⊕ As) ⊕ As → Bool
  | .inl xs => origL xs
  | .inr _ => false
theorem odd_t_n {K : PySem.W.Frag} : OddA K "tuple" no := ⟨"NoneType", by decide +kernel, fun _ => tx_n⟩
end
section
/-! rules for suffixes -/
def exc (r : List Nat) : Bool := [33].isPrefixOf r
def rbody (r : List Nat) : List Nat := r.drop (if exc r then 1 else 0)
def rwords (r : List Nat) : List (List Nat) := parts 46 (rbody r)
def isRule (r : List Nat) : Bool :=
  if (rwords r).head? = some [42] then !exc r && (decide ((rwords r).length > 1) && (rwords r).tail.all isLabel) else (rwords r).all isLabel && decide ((rwords r).length > if exc r then 1 else 0)
theorem rlen (r : List Nat) : (rbody r).length ≤ r.length := by
  unfold rbody
  rw [List.length_drop]
  omega
theorem rwords_len (r : List Nat) : (rwords r).length ≤ r.length + 1 := Nat.le_trans (parts_len 46 _) (Nat.succ_le_succ (rlen r))
theorem rwords_each {r w : List Nat} (h : w ∈ rwords r) : w.length ≤ r.length := Nat.le_trans (parts_each 46 w h) (rlen r)
theorem rwords_ne (r : List Nat) : rwords r ≠ [] := parts_ne 46 _
structure GoodR (rs : List (List Nat)) : Prop where
  len : rs.length ≤ 30
  all : ∀ r ∈ rs, isRule r = true
  once : rs.Nodup
  short : ∀ r ∈ rs, r.length ≤ 70000
def okWord (w l : List Nat) : Bool := decide (w = [42]) || decide (w = l)
def matchR (r : List Nat) (ws : List (List Nat)) : Bool :=
  decide ((rwords r).length ≤ ws.length) && ((rwords r).zip (ws.drop (ws.length - (rwords r).length))).all fun p => okWord p.1 p.2
def excs (rs ws : List (List Nat)) : List Nat := (rs.filter fun r => exc r && matchR r ws).map fun r => (rwords r).length
def oths (rs ws : List (List Nat)) : List Nat := (rs.filter fun r => !exc r && matchR r ws).map fun r => (rwords r).length
theorem excs_snoc (l : List (List Nat)) (r : List Nat) (ws : List (List Nat)) : excs (l ++ [r]) ws = excs l ws ++ if (exc r && matchR r ws) = true then [(rwords r).length] else [] := by
  unfold excs
  rw [List.filter_append, List.map_append]
  cases h : (exc r && matchR r ws) <;> simp [List.filter, h]
theorem oths_snoc (l : List (List Nat)) (r : List Nat) (ws : List (List Nat)) : oths (l ++ [r]) ws = oths l ws ++ if (!exc r && matchR r ws) = true then [(rwords r).length] else [] := by
  unfold oths
  rw [List.filter_append, List.map_append]
  cases h : (!exc r && matchR r ws) <;> simp [List.filter, h]
theorem excs_len (l ws : List (List Nat)) : (excs l ws).length ≤ l.length := by
  unfold excs
  rw [List.length_map]
  exact List.length_filter_le _ _
theorem oths_len (l ws : List (List Nat)) : (oths l ws).length ≤ l.length := by
  unfold oths
  rw [List.length_map]
  exact List.length_filter_le _ _
def many (rs ws : List (List Nat)) : Nat := if excs rs ws = [] then (if oths rs ws = [] then 1 else maxL (oths rs ws)) else maxL (excs rs ws) - 1
theorem excs_le {rs ws : List (List Nat)} {k : Nat} (h : k ∈ excs rs ws) : k ≤ ws.length := by
  unfold excs at h
  obtain ⟨r, hr, rfl⟩ := List.mem_map.mp h
  have h1 := (List.mem_filter.mp hr).2
  rw [Bool.and_eq_true] at h1
  have h2 := h1.2
  unfold matchR at h2
  rw [Bool.and_eq_true, decide_eq_true_eq] at h2
  exact h2.1
theorem oths_le {rs ws : List (List Nat)} {k : Nat} (h : k ∈ oths rs ws) : k ≤ ws.length := by
  unfold oths at h
  obtain ⟨r, hr, rfl⟩ := List.mem_map.mp h
  have h1 := (List.mem_filter.mp hr).2
  rw [Bool.and_eq_true] at h1
  have h2 := h1.2
  unfold matchR at h2
  rw [Bool.and_eq_true, decide_eq_true_eq] at h2
  exact h2.1
theorem many_le {rs ws : List (List Nat)} (h : 1 ≤ ws.length) : many rs ws ≤ ws.length := by
  unfold many
  by_cases h1 : excs rs ws = []
  · rw [if_pos h1]
    by_cases h2 : oths rs ws = []
    · rw [if_pos h2]
      exact h
    · rw [if_neg h2]
      exact oths_le (maxL_mem h2)
  · rw [if_neg h1]
    have := excs_le (maxL_mem h1)
    omega
theorem isHost_len {l : List Nat} (h : isHost l = true) : l.length ≤ 100 ∧ (parts 46 l).length ≤ 10 ∧ (parts 46 l).all isLabel = true ∧ (isNum ((parts 46 l).getLast (parts_ne 46 l)) = false ∨ isAddr l = true) := by
  unfold isHost at h
  rw [Bool.and_eq_true, Bool.and_eq_true, Bool.and_eq_true, decide_eq_true_eq, decide_eq_true_eq, Bool.or_eq_true, Bool.not_eq_true'] at h
  exact ⟨h.1.1.1, h.1.1.2, h.1.2, h.2⟩
def sufT (rs : List (List Nat)) (l : List Nat) : List Nat := TL.joinL [46] ((parts 46 l).drop ((parts 46 l).length - many rs (parts 46 l)))
theorem parts_pos (c : Nat) (l : List Nat) : 1 ≤ (parts c l).length := by
  cases e : parts c l with
  | nil => exact absurd e (parts_ne c l)
  | cons a b => simp
def famN (rs ws : List (List Nat)) : Nat := if many rs ws = ws.length then ws.length else many rs ws + 1
def famT (rs : List (List Nat)) (l : List Nat) : List Nat := if isAddr l = true then l else TL.joinL [46] ((parts 46 l).drop ((parts 46 l).length - famN rs (parts 46 l)))
theorem host_nodot {l : List Nat} (h : isHost l = true) : ∀ w ∈ parts 46 l, 46 ∉ w := fun w hw m => by
  have h1 := List.all_eq_true.mp (isHost_len h).2.2.1 w hw
  unfold isLabel at h1
  rw [Bool.and_eq_true] at h1
  have h2 := List.all_eq_true.mp h1.2 46 m
  have h3 : labSign 46 = false := by decide +kernel
  rw [h3] at h2
  cases h2
theorem parts_drop {l : List Nat} (h : isHost l = true) {k : Nat} (hk : k < (parts 46 l).length) : parts 46 (TL.joinL [46] ((parts 46 l).drop k)) = (parts 46 l).drop k :=
  TL.spl_join (fun z => by have := congrArg List.length z; rw [List.length_drop] at this; simp at this; omega) fun w hw => host_nodot h w (List.mem_of_mem_drop hw)
theorem many_pos {rs ws : List (List Nat)} (G : GoodR rs) : 1 ≤ many rs ws := by
  unfold many
  by_cases h1 : excs rs ws = []
  · rw [if_pos h1]
    by_cases h2 : oths rs ws = []
    · rw [if_pos h2]
      exact Nat.le_refl _
    · rw [if_neg h2]
      have h3 := maxL_mem h2
      unfold oths at h3
      obtain ⟨r, hr, er⟩ := List.mem_map.mp h3
      have := parts_pos 46 (rbody r)
      have e5 : (parts 46 (rbody r)).length = maxL (oths rs ws) := er
      omega
  · rw [if_neg h1]
    have h3 := maxL_mem h1
    unfold excs at h3
    obtain ⟨r, hr, er⟩ := List.mem_map.mp h3
    have hm := List.mem_filter.mp hr
    have h4 := G.all r hm.1
    have h5 : exc r = true := by
      have := hm.2
      rw [Bool.and_eq_true] at this
      exact this.1
    have er' : (rwords r).length = maxL (excs rs ws) := er
    unfold isRule at h4
    rw [h5] at h4
    split at h4
    · simp at h4
    · rw [Bool.and_eq_true, decide_eq_true_eq] at h4
      have h6 : (rwords r).length > 1 := h4.2
      omega
theorem sumR_le {c : Nat} : ∀ {ws : List (List Nat)}, (∀ w ∈ ws, w.length ≤ c) → (ws.map (·.length)).sum ≤ ws.length * c
  | [], _ => Nat.zero_le _
  | w :: r, h => by
    have h1 := h w List.mem_cons_self
    have h2 := sumR_le (ws := r) fun v hv => h v (List.mem_cons_of_mem _ hv)
    rw [List.map_cons, List.sum_cons, List.length_cons, Nat.succ_mul]
    omega
def ruleB : List Nat ⊕ As → Bool
  | .inl l => isRule l
  | .inr _ => false
/-- the first item, from the i-th on, that is no rule, is among the known ones, or is the 31st -/
def rulesFrom : List (List Nat) → Nat → List (List Nat ⊕ As) → Option Nat
  | _, _, [] => none
  | kn, i, .inl l :: r => if (decide (30 ≤ i) || (!isRule l || decide (l ∈ kn))) = true then some i else rulesFrom (kn ++ [l]) (i + 1) r
  | _, i, .inr _ :: _ => some i
def rulesBad (a : List (List Nat ⊕ As)) : Option Nat := rulesFrom [] 0 a
theorem rules_good {rs : List (List Nat)} (G : GoodR rs) : rulesBad (rs.map Sum.inl) = none := by
  have h : ∀ (r kn : List (List Nat)), kn ++ r = rs → rulesFrom kn kn.length (r.map Sum.inl) = none := by
    intro r
    induction r with
    | nil => intro kn _; rfl
    | cons l r ih =>
      intro kn e
      have ml : l ∈ rs := by rw [← e]; simp
      have hl := congrArg List.length e
      rw [List.length_append, List.length_cons] at hl
      have := G.len
      have hn := G.once
      rw [← e, List.nodup_append] at hn
      have hk : l ∉ kn := fun m => hn.2.2 l m l List.mem_cons_self rfl
      show (if (decide (30 ≤ kn.length) || (!isRule l || decide (l ∈ kn))) = true then some kn.length else rulesFrom (kn ++ [l]) (kn.length + 1) (r.map Sum.inl)) = none
      rw [G.all l ml, decide_eq_false hk, decide_eq_false (by omega)]
      have := ih (kn ++ [l]) (by rw [← e]; simp)
      rw [List.length_append, List.length_singleton] at this
      exact this
  exact h rs [] rfl
theorem rules_of {a : List (List Nat ⊕ As)} (h : rulesBad a = none) (hs : ∀ l, Sum.inl l ∈ a → l.length ≤ 70000) : ∃ rs, a = rs.map Sum.inl ∧ GoodR rs := by
  have h2 : ∀ (a : List (List Nat ⊕ As)) (kn : List (List Nat)) (i : Nat), rulesFrom kn i a = none → kn.Nodup → ∃ rs, a = rs.map Sum.inl ∧ (kn ++ rs).Nodup ∧ (∀ r ∈ rs, isRule r = true) ∧ (rs ≠ [] → i + rs.length ≤ 30) := by
    intro a
    induction a with
    | nil => intro kn i _ hn; exact ⟨[], rfl, by rw [List.append_nil]; exact hn, (fun _ z => nomatch z), fun z => absurd rfl z⟩
    | cons x r ih =>
      intro kn i h hn
      cases x with
      | inr A => cases h
      | inl l =>
        have h : (if (decide (30 ≤ i) || (!isRule l || decide (l ∈ kn))) = true then some i else rulesFrom (kn ++ [l]) (i + 1) r) = none := h
        split at h
        · cases h
        rename_i hc
        simp only [Bool.or_eq_true, Bool.not_eq_true', decide_eq_true_eq, not_or, Bool.not_eq_false] at hc
        obtain ⟨c1, c2, c3⟩ := hc
        have hn2 : (kn ++ [l]).Nodup := by
          rw [List.nodup_append]
          refine ⟨hn, by simp, fun a ha b hb => ?_⟩
          rw [List.mem_singleton.mp hb]
          exact fun z => c3 (z ▸ ha)
        obtain ⟨rs, rfl, e2, e3, e4⟩ := ih (kn ++ [l]) (i + 1) h hn2
        refine ⟨l :: rs, rfl, by rw [List.append_assoc] at e2; exact e2, fun q hq => ?_, fun _ => ?_⟩
        · rcases List.mem_cons.mp hq with rfl | hq
          · exact c2
          · exact e3 q hq
        · by_cases e : rs = []
          · rw [e]; simp; omega
          · have := e4 e
            rw [List.length_cons]
            omega
  obtain ⟨rs, rfl, e2, e3, e4⟩ := h2 a [] 0 h List.nodup_nil
  refine ⟨rs, rfl, ⟨?_, e3, e2, fun r hr => hs r (List.mem_map_of_mem hr)⟩⟩
  by_cases e : rs = []
  · rw [e]; exact Nat.zero_le _
  · have := e4 e
    omega
end
section
variable {P : Program} {w : World} {K : PySem.W.Frag} {mg : Str → Option Value} {base : Heap} [IsP P]
/-! ### s1_may_become_address -/
abbrev sp_s1_may_become_address (K : PySem.W.Frag) : Sp := SpP (fun a : List (List Nat) × List Nat => a.1.length ≤ 90000 ∧ (∀ w ∈ a.1, w.length ≤ 90000) ∧ a.2.length ≤ 90000) (fun a => [lst K ((a.1 ++ [a.2]).map tx)]) (fun a => bo (mayW a.1 a.2))
theorem ok_s1_may_become_address (T : Txt K mg w) : FnOk P w K mg base CX0 3 T.f_s1_may_become_address T.d_s1_may_become_address ["words"] (sp_s1_may_become_address K) := by
  refine fn_sy T.F_s1_may_become_address sc_s1_may_become_address (fun _ _ => rfl) fun a cdv A outer s H E hr hp => ⟨_, (pss_cons (ps_if (PW.pt (pw_or (pt_cmpR op_gt (pe_callB (kLen (K := K) rfl) (by rfl) T.n_len (by decide +kernel) (pa_cons (pv 0) pa_nil)) pe_int (nomark _)) (pw_or1 (pt_not (pt_val (pe_callB (kAll (K := K) rfl rfl) (by rfl) T.n_all (by decide +kernel) (pa_cons (pe_lc (own := [("word", 1)]) (g := gName 1) (tt := tYes) (by rfl) sc_s1_may_become_address.nd (kpList (K := K) rfl (pe_slice (kSlL (K := K) rfl) (pv 0) po_none (po_some (pe_un un_neg pe_int)))) (blkOk_by (own := [("word", 1)]) (N := N_s1_may_become_address) (sc := defScope S_s1_may_become_address) (by decide +kernel)) (fun _ _ _ _ _ => (pg_name (i := 1) sc_s1_may_become_address.nd rfl (.inl rfl))) (fun _ _ _ _ _ => pts_nil) (fun _ _ _ _ _ => (pe_call (ok_s1_is_small (P := P) T) (hr.mono (by decide)) (by rfl) T.g_s1_is_small T.F_s1_is_small.kp T.b_s1_is_small .nil pass0 (pa_cons (pv 1) pa_nil)))) pa_nil)))))))
      (pss_one (ps_ret pe_bl))
      pss_nil)
      (pss_one (ps_ret (pe_or (pe_cmpR op_eq (pe_ix (kIxL (K := K) rfl) (pv 0) (pe_un un_neg pe_int) (fun _ _ => rfl)) pe_str (nomark _)) (pe_one (pe_call (ok_s1_is_small (P := P) T) (hr.mono (by decide)) (by rfl) T.g_s1_is_small T.F_s1_is_small.kp T.b_s1_is_small .nil pass0 (pa_cons (pe_ix (kIxL (K := K) rfl) (pv 0) (pe_un un_neg pe_int) (fun _ _ => rfl)) pa_nil))))))), ?_⟩
  obtain ⟨i, w⟩ := a
  obtain ⟨hl, hi, hw⟩ := hp
  dsimp only at hl hi hw ⊢
  have ci : cut ((i ++ [w]).map tx) none (some (-1)) = i.map tx := by rw [cut_init, List.map_append]; exact List.dropLast_concat
  have at9 : atI ((i ++ [w]).map tx) (-1) = some (tx w) := atI_neg1 (by simp)
  have ll : (((i ++ [w]).map tx).length : Int) = (i.length : Int) + 1 := by simp
  have ef : mayW i w = (!(decide (4 < (i.length : Int) + 1) || !i.all isSmall) && (decide (w = []) || isSmall w)) := by
    unfold mayW
    rw [Bool.not_or, Bool.not_not, show decide (i.length + 1 ≤ 4) = !decide (4 < (i.length : Int) + 1) by rw [← decide_not]; exact decide_eq_decide.mpr (by omega)]
  refine GoS.seq (GoS.ite (GoT.orJ (p := decide (4 < (i.length : Int) + 1)) (q := !i.all isSmall) ?_ (fun _ => ?_) ⟨fun h => ?_, fun h => ?_⟩))
  · walk_at "cj1"
    rw [ll]
  · walk_at "cj1"
    have := hi x hx
    omega
  · rw [h] at ef
    walk_at "cj1"
    rw [ef]
    rfl
  · rw [h] at ef
    refine GoS.nil (GoS.ret (Go.orVJ (p := decide (w = [])) (q := isSmall w) ?_ (fun _ => ?_) ?_))
    · walk_at "cj1"
      refine v_ixL at9 ?_
      walk_at "cj1"
    · walk_at "cj1"
      refine v_ixL at9 ?_
      walk_at "cj1"
    · refine ⟨?_, rfl⟩
      rw [ef]
      rfl
/-! ### s1_begins -/
def beginsL (l : List Nat) : Bool := isHost l || isHost (l ++ [97]) || isHost (l ++ [46, 97])
abbrev sp_s1_begins (K : PySem.W.Frag) : Sp := SpP (fun l : List Nat => l.length ≤ 80000) (fun l => [tx l]) (fun l => bo (beginsL l))
theorem ok_s1_begins (T : Txt K mg w) : FnOk P w K mg base CX0 4 T.f_s1_begins T.d_s1_begins ["text"] (sp_s1_begins K) := by
  refine fn_sy T.F_s1_begins sc_s1_begins (fun _ _ => rfl) fun a cdv A outer s H E hr hp => ⟨_, (pss_cons (ps_set (i := 1) sc_s1_begins.nd rfl (.inl rfl) (pe_split (pv 0) pe_str))
      (pss_cons (ps_par (by rfl) sc_s1_begins.nd (i := 2) (j := 3) rfl rfl (by decide) rfl rfl (pa_cons (pe_ix (kIxL (K := K) rfl) (pv 1) (pe_un un_neg pe_int) (fun _ _ => rfl)) (pa_cons (pe_op op_sub (pe_glob (v := .int (100)) (by rfl) T.c_MOST_SIGNS.choose_spec ⟨_, rfl⟩) (pe_callB call_len_str (by rfl) T.n_len (by decide +kernel) (pa_cons (pv 0) pa_nil))) pa_nil)) (by rfl))
      (pss_cons (ps_if (PW.pt (pw_or (pt_cmpR op_lt (pv 3) pe_int (nomark _)) (pw_or (pt_cmpR op_gt (pe_callB (kLen (K := K) rfl) (by rfl) T.n_len (by decide +kernel) (pa_cons (pv 1) pa_nil)) (pe_glob (v := .int (10)) (by rfl) T.c_MOST_LABELS.choose_spec ⟨_, rfl⟩) (nomark _)) (pw_or1 (pt_not (pt_val (pe_callB (kAll (K := K) rfl rfl) (by rfl) T.n_all (by decide +kernel) (pa_cons (pe_lc (own := [("word", 4)]) (g := gName 4) (tt := tYes) (by rfl) sc_s1_begins.nd (kpList (K := K) rfl (pe_slice (kSlL (K := K) rfl) (pv 1) po_none (po_some (pe_un un_neg pe_int)))) (blkOk_by (own := [("word", 4)]) (N := N_s1_begins) (sc := defScope S_s1_begins) (by decide +kernel)) (fun _ _ _ _ _ => (pg_name (i := 4) sc_s1_begins.nd rfl (.inl rfl))) (fun _ _ _ _ _ => pts_nil) (fun _ _ _ _ _ => (pe_call (ok_s1_is_label (P := P) T) (hr.mono (by decide)) (by rfl) T.g_s1_is_label T.F_s1_is_label.kp T.b_s1_is_label .nil pass0 (pa_cons (pv 4) pa_nil)))) pa_nil))))))))
      (pss_one (ps_ret pe_bl))
      pss_nil)
      (pss_cons (ps_if (pt_cmpR op_eq (pv 2) pe_str (nomark _))
      (pss_one (ps_ret (pe_cmpR op_gt (pv 3) pe_int (nomark _))))
      pss_nil)
      (pss_cons (ps_if (PW.pt (pw_or (pt_cmpR op_eq (pe_ix ix_str (pv 2) pe_int (fun _ _ => rfl)) pe_str (nomark _)) (pw_or (pt_cmpR op_gt (pe_callB call_len_str (by rfl) T.n_len (by decide +kernel) (pa_cons (pv 2) pa_nil)) (pe_glob (v := .int (20)) (by rfl) T.c_MOST_LABEL.choose_spec ⟨_, rfl⟩) (nomark _)) (pw_or1 (pt_not (pt_val (pe_callB (kAll (K := K) rfl rfl) (by rfl) T.n_all (by decide +kernel) (pa_cons (pe_lc (own := [("sign", 5)]) (g := gName 5) (tt := tYes) (by rfl) sc_s1_begins.nd (pi_str (pv 2)) (blkOk_by (own := [("sign", 5)]) (N := N_s1_begins) (sc := defScope S_s1_begins) (by decide +kernel)) (fun _ _ _ _ _ => (pg_name (i := 5) sc_s1_begins.nd rfl (.inl rfl))) (fun _ _ _ _ _ => pts_nil) (fun _ _ _ _ _ => (pe_cmpR op_in_sign (pv 5) (pe_glob (v := .str cs_LABEL_SIGNS) (by rfl) T.c_LABEL_SIGNS.choose_spec ⟨_, rfl⟩) (by rfl)))) pa_nil))))))))
      (pss_one (ps_ret pe_bl))
      pss_nil)
      (pss_cons (ps_if (PW.pt (pw_and (pt_cmpR op_ne (pe_ix ix_str (pv 2) (pe_un un_neg pe_int) (fun _ _ => rfl)) pe_str (nomark _)) (pw_and1 (pt_not (pt_val (pe_call (ok_s1_is_number_word (P := P) T) (hr.mono (by decide)) (by rfl) T.g_s1_is_number_word T.F_s1_is_number_word.kp T.b_s1_is_number_word .nil pass0 (pa_cons (pv 2) pa_nil)))))))
      (pss_one (ps_ret pe_bl))
      pss_nil)
      (pss_cons (ps_if (PW.pt (pw_and (pt_cmpR op_gt (pv 3) pe_int (nomark _)) (pw_and1 (pt_cmpR op_lt (pe_callB call_len_str (by rfl) T.n_len (by decide +kernel) (pa_cons (pv 2) pa_nil)) (pe_glob (v := .int (20)) (by rfl) T.c_MOST_LABEL.choose_spec ⟨_, rfl⟩) (nomark _)))))
      (pss_one (ps_ret pe_bl))
      pss_nil)
      (pss_cons (ps_if (pt_cmpR op_eq (pe_ix ix_str (pv 2) (pe_un un_neg pe_int) (fun _ _ => rfl)) pe_str (nomark _))
      (pss_one (ps_ret pe_bl))
      pss_nil)
      (pss_one (ps_ret (pe_or (pe_and (pe_cmpR op_gt (pv 3) pe_int (nomark _)) (pe_one (pe_cmpR op_lt (pe_callB (kLen (K := K) rfl) (by rfl) T.n_len (by decide +kernel) (pa_cons (pv 1) pa_nil)) (pe_glob (v := .int (10)) (by rfl) T.c_MOST_LABELS.choose_spec ⟨_, rfl⟩) (nomark _)))) (pe_one (pe_and (pe_call (ok_s1_may_become_address (P := P) T) (hr.mono (by decide)) (by rfl) T.g_s1_may_become_address T.F_s1_may_become_address.kp T.b_s1_may_become_address .nil pass0 (pa_cons (pv 1) pa_nil)) (pe_one (pe_cmpR op_ge (pv 3) (pe_op op_mul pe_int (pe_op op_sub pe_int (pe_callB (kLen (K := K) rfl) (by rfl) T.n_len (by decide +kernel) (pa_cons (pv 1) pa_nil)))) (nomark _)))))))))))))))), ?_⟩
  obtain ⟨i, w, e⟩ := words_of a
  have ef : beginsL a = beginsW a.length i w := (begins_of e).symm
  have each : ∀ x ∈ i ++ [w], x.length ≤ a.length := fun x hx => parts_each 46 x (by rw [e]; exact hx)
  have hw : w.length ≤ a.length := each w (by simp)
  have hi : i.length ≤ a.length := by
    have := parts_len 46 a
    rw [e, List.length_append, List.length_singleton] at this
    omega
  have at9 : atI ((parts 46 a).map tx) (-1) = some (tx w) := by rw [e]; exact atI_neg1 (by simp)
  have ci : cut ((parts 46 a).map tx) none (some (-1)) = i.map tx := by rw [e, cut_init, List.map_append]; exact List.dropLast_concat
  have ll : (((parts 46 a).map tx).length : Int) = (i.length : Int) + 1 := by rw [e]; simp
  unfold beginsW at ef
  walk_at "cj5"
  refine v_ixL at9 ?_
  walk_at "cj5"
  refine GoS.ite (GoT.orJ (p := decide ((100 : Int) - a.length < 0)) (q := decide (10 < i.length + 1) || !i.all isLabel) ?_ (fun _ => GoT.orJ (p := decide (10 < i.length + 1)) (q := !i.all isLabel) ?_ (fun _ => ?_) ⟨rfl, rfl⟩) ⟨fun h => ?_, fun h => ?_⟩)
  · walk_at "cj5"
  · walk_at "cj5"
    rw [ll]
    exact decide_eq_decide.mpr (by omega)
  · walk_at "cj5"
    have := each x (by simp [hx])
    omega
  · rw [if_pos h] at ef
    walk_at "cj5"
    rw [ef]
  rw [if_neg (by rw [h]; decide)] at ef
  refine GoS.nil (GoS.seq (GoS.ite (GoT.join (decide (w = [])) ?_ ⟨fun h => ?_, fun h => ?_⟩)))
  · walk_at "cj5"
  · rw [if_pos h] at ef
    walk_at "cj5"
    rw [ef]
  rw [if_neg (by rw [h]; decide)] at ef
  have hn : w ≠ [] := of_decide_eq_false h
  obtain ⟨c, c1, c2⟩ := first_at hn
  obtain ⟨d, d1, d2⟩ := last_at hn
  refine GoS.nil (GoS.seq (GoS.ite (GoT.orJ (p := decide (w.head? = some 45)) (q := decide (20 < w.length) || !w.all labSign) ?_ (fun _ => GoT.orJ (p := decide (20 < w.length)) (q := !w.all labSign) ?_ (fun _ => ?_) ⟨rfl, rfl⟩) ⟨fun h => ?_, fun h => ?_⟩)))
  · walk_at "cj5"
    refine v_ixS (by omega) c1 ?_
    walk_at "cj5"
    exact one_dec c2
  · walk_at "cj5"
    exact decide_eq_decide.mpr (by omega)
  · walk_at "cj5"
  · rw [if_pos h] at ef
    walk_at "cj5"
    rw [ef]
  rw [if_neg (by rw [h]; decide)] at ef
  refine GoS.nil (GoS.seq (GoS.ite (GoT.andJ (p := !decide (w.getLast? = some 45)) (q := !isNum w) ?_ (fun _ => ?_) ⟨fun h => ?_, fun h => ?_⟩)))
  · walk_at "cj5"
    refine v_ixS (by omega) d1 ?_
    walk_at "cj5"
    rw [one_dec d2]
  · walk_at "cj5"
  · rw [if_pos h] at ef
    walk_at "cj5"
    rw [ef]
  rw [if_neg (by rw [h]; decide)] at ef
  refine GoS.nil (GoS.seq (GoS.ite (GoT.andJ (p := decide ((0 : Int) < 100 - a.length)) (q := decide (w.length < 20)) ?_ (fun _ => ?_) ⟨fun h => ?_, fun h => ?_⟩)))
  · walk_at "cj5"
  · walk_at "cj5"
    exact decide_eq_decide.mpr (by omega)
  · rw [if_pos h] at ef
    walk_at "cj5"
    rw [ef]
  rw [if_neg (by rw [h]; decide)] at ef
  refine GoS.nil (GoS.seq (GoS.ite (GoT.join (decide (w.getLast? = some 45)) ?_ ⟨fun h => ?_, fun h => ?_⟩)))
  · walk_at "cj5"
    refine v_ixS (by omega) d1 ?_
    walk_at "cj5"
    exact one_dec d2
  · rw [if_pos h] at ef
    walk_at "cj5"
    rw [ef]
  rw [if_neg (by rw [h]; decide)] at ef
  refine GoS.nil (GoS.ret (Go.orVJ (p := decide ((1 : Int) < 100 - a.length) && decide (i.length + 1 < 10)) (q := mayW i w && decide (2 * (4 - ((i.length : Int) + 1)) ≤ 100 - a.length)) (Go.andVJ (p := decide ((1 : Int) < 100 - a.length)) (q := decide (i.length + 1 < 10)) ?_ (fun _ => ?_) ⟨rfl, rfl⟩) (fun _ => Go.andVJ (p := mayW i w) (q := decide (2 * (4 - ((i.length : Int) + 1)) ≤ 100 - a.length)) ?_ (fun _ => ?_) ⟨rfl, rfl⟩) ?_))
  · walk_at "cj5"
  · walk_at "cj5"
    rw [ll]
    exact congrArg bo (decide_eq_decide.mpr (by omega))
  · refine Go.callP (GoA.cons (Go.var rfl (GoA.nil ⟨(i, w), by rw [e], ⟨by dsimp only; omega, fun x hx => ?_, by dsimp only; omega⟩, rfl, rfl⟩)))
    have := each x (by simp; exact .inl hx)
    omega
  · walk_at "cj5"
    rw [ll]
  · exact ⟨congrArg bo ef.symm, rfl⟩
/-! ### s1_place -/
/-- the place of the first sign with which a text is no beginning of a host -/
def placeT (l : List Nat) : Nat := firstAt (fun j => !beginsL (l.take (j + 1))) l.length
def placeA : List Nat ⊕ As → As
  | .inl l => it (placeT l : Nat)
  | .inr _ => it 0
abbrev sp_s1_place (K : PySem.W.Frag) : Sp := SpP (okText K) txo placeA
theorem ok_s1_place (T : Txt K mg w) : FnOk P w K mg base CX0 5 T.f_s1_place T.d_s1_place ["value"] (sp_s1_place K) := by
  refine fn_sy T.F_s1_place sc_s1_place (fun a _ => txo_len a) fun a cdv A outer s H E hr hp => ⟨_, (pss_cons (ps_if (pt_not (pt_val (pe_callB (kIsi (K := K) rfl) (by rfl) T.n_isinstance (by decide +kernel) (pa_cons (pv 0) (pa_cons (pe_bltn (v := .ty "str") (by rfl) T.n_str (by decide +kernel) rfl) pa_nil)))))
      (pss_one (ps_ret pe_int))
      pss_nil)
      (pss_cons (ps_for PassesOwn.never rfl (pi_range1 (by rfl) T.n_range (pa_cons (pe_callB call_len_str (by rfl) T.n_len (by decide +kernel) (pa_cons (pv 0) pa_nil)) pa_nil)) (pg_name (i := 1) sc_s1_place.nd rfl (.inl rfl))
      (pss_one (ps_if (pt_not (pt_val (pe_call (ok_s1_begins (P := P) T) (hr.mono (by decide)) (by rfl) T.g_s1_begins T.F_s1_begins.kp T.b_s1_begins .nil pass0 (pa_cons (pe_slice sl_str (pv 0) po_none (po_some (pe_op op_add (pv 1) pe_int))) pa_nil))))
      (pss_one (ps_ret (pe_op op_add (pv 1) pe_int)))
      pss_nil)))
      (pss_one (ps_ret (pe_op op_add (pe_callB call_len_str (by rfl) T.n_len (by decide +kernel) (pa_cons (pv 0) pa_nil)) pe_int))))), ?_⟩
  cases a with
  | inr B =>
    have hp : OddA K "str" B := hp
    show GoS [some B, none] [] _ _
    refine GoS.seq (GoS.ite (GoT.not (GoT.b (Go.cb (GoA.cons (Go.var rfl (GoA.cons (Go.c (GoA.nil (v_isiOdd hp ⟨false, rfl, ?_⟩))))))))))
    walk_at "cj1"
  | inl a =>
    have hp : a.length ≤ 70000 := hp
    show GoS [some (tx a), none] [] _ _
    walk_at "cj1"
    refine GoS.for ?_
    walk_at "cj1"
    have ln : (rngA 0 ((a.length : Int)).toNat).length = a.length := by simp [rngA]
    refine ⟨fun i L' O' => ∃ B, L' = [some (tx a), B] ∧ O' = [] ∧ ∀ j < i, (!beginsL (a.take (j + 1))) = false, ⟨_, rfl, rfl, fun j hj => absurd hj (Nat.not_lt_zero _)⟩, ?_, ?_⟩
    · rintro i A L' O' hA ⟨B, rfl, rfl, hJ⟩
      have hi : i < a.length := by
        have := (List.getElem?_eq_some_iff.mp hA).1
        rw [ln] at this
        exact this
      obtain rfl : A = it (i : Int) := by
        unfold rngA at hA
        rw [List.getElem?_map, List.getElem?_range (by simpa using hi)] at hA
        have : A = it (0 + (i : Int)) := (Option.some.inj hA).symm
        rw [Int.zero_add] at this
        exact this
      have tl : (a.take (i + 1)).length ≤ 70000 := by rw [List.length_take]; omega
      have c1 : cut a none (some ((i : Int) + 1)) = a.take (i + 1) := cut_to a (i + 1)
      refine GoG.name (GoS.ite (GoT.not (GoT.b (Go.callP (GoA.cons (Go.sl (Go.var rfl (GoO.none (GoO.part (Go.op (Go.var rfl (Go.c (v_addI ⟨(i : Int) + 1, rfl, v_slS (by omega) (GoA.nil ⟨a.take (i + 1), by rw [c1], by omega, _, rfl, ?_⟩)⟩)))))))))))))
      refine ⟨fun hb => ?_, fun hb => GoS.nil ⟨_, rfl, rfl, fun j hj => ?_⟩⟩
      · refine GoS.ret (Go.op (Go.var rfl (Go.c (v_addI ⟨?_, rfl⟩))))
        show it ((i : Int) + 1) = it ((placeT a : Nat) : Int)
        rw [show placeT a = i + 1 from firstAt_hit hi hJ hb]
        rfl
      · by_cases e : j = i
        · subst e
          exact hb
        · exact hJ j (by omega)
    · rintro L' O' ⟨B, rfl, rfl, hJ⟩
      rw [ln] at hJ
      refine GoS.ret (Go.op (Go.cb (GoA.cons (Go.var rfl (GoA.nil (v_lenS (by omega) (Go.c (v_addI ⟨?_, rfl⟩))))))))
      show it ((a.length : Int) + 1) = it ((placeT a : Nat) : Int)
      rw [show placeT a = a.length + 1 from firstAt_miss hJ]
      rfl
/-! ### need_host -/
def rpHostB (T : Txt K mg w) (a : List Nat ⊕ As) (cls : Value) (fs : List (Str × As)) (O' : OO) : Prop := hostB a = false ∧ cls = .ref T.C_BadHost ∧ fs = [(("place" : Str), placeA a)] ∧ O' = []
abbrev sp_need_host (T : Txt K mg w) : Sp := SpX (okText K) txo (fun _ => []) (fun a A O' => O' = [] ∧ hostB a = true ∧ A = no) (rpHostB T)
theorem ok_need_host (T : Txt K mg w) : FnOk P w K mg base (L2.CX P w) 6 T.f_need_host T.d_need_host ["value"] (sp_need_host T) := by
  refine fnx_sy T.F_need_host sc_need_host (fun a _ => txo_len a) fun a cdv A outer s H E hr hp => ⟨_, (pss_one (ps_if (pt_not (pt_val (pe_call (ok_is_host (P := P) T) (hr.mono (by decide)) (by rfl) T.g_is_host T.F_is_host.kp T.b_is_host .nil pass0 (pa_cons (pv 0) pa_nil))))
      (pss_one (ps_rz rfl takesD (ExS.pmk_ex (pn := "place") T.E_BadHost rfl rfl (IsP.eq (P := P)) (hr.mono (by decide)) rfl rfl rfl sci_BadHost (by decide +kernel) (by decide) (by decide) (by decide) (fun _ _ _ _ _ _ _ _ _ => rfl) (by rfl) (pa_cons (pe_call (ok_s1_place (P := P) T) (hr.mono (by decide)) (by rfl) T.g_s1_place T.F_s1_place.kp T.b_s1_place .nil pass0 (pa_cons (pv 0) pa_nil)) pa_nil))))
      pss_nil)), ?_⟩
  obtain ⟨B, hB⟩ : ∃ B, txo a = [B] := by cases a <;> exact ⟨_, rfl⟩
  rw [hB]
  show GoSW _ _ [some B] [] _ _
  refine GoSW.ite (GoWT.up (GoT.not (GoT.b (Go.callP (GoA.cons (Go.var rfl (GoA.nil ⟨a, hB.symm, hp, hostB a, by cases a <;> rfl, ?_⟩)))))))
  cases h : hostB a with
  | true => exact ⟨fun z => (by cases z), fun _ => GoSW.up (GoS.nil ⟨rfl, rfl, rfl⟩)⟩
  | false => exact ⟨fun _ => GoSW.raise (GoA.cons (Go.callP (GoA.cons (Go.var rfl (GoA.nil ⟨a, hB.symm, hp, GoA.nil ⟨_, rfl, h, rfl, rfl, rfl⟩⟩))))), fun z => (by cases z)⟩
/-! ### s1_fits -/
/-- whether a host fits a domain -/
def fitsB (h d : List Nat) : Bool := decide (h = d) || (!isAddr h && (46 :: d).isSuffixOf h)
abbrev sp_s1_fits (K : PySem.W.Frag) : Sp := SpP (fun a : List Nat × List Nat => a.1.length ≤ 70000 ∧ a.2.length ≤ 70000) (fun a => [tx a.1, tx a.2]) (fun a => bo (fitsB a.1 a.2))
theorem ok_s1_fits (T : Txt K mg w) : FnOk P w K mg base CX0 4 T.f_s1_fits T.d_s1_fits ["host", "domain"] (sp_s1_fits K) := by
  refine fn_sy T.F_s1_fits sc_s1_fits (fun _ _ => rfl) fun a cdv A outer s H E hr hp => ⟨_, (pss_one (ps_ret (pe_or (pe_cmpR op_eq (pv 0) (pv 1) (nomark _)) (pe_one (pe_and (pe_not (pe_call (ok_is_address_host (P := P) T) (hr.mono (by decide)) (by rfl) T.g_is_address_host T.F_is_address_host.kp T.b_is_address_host .nil pass0 (pa_cons (pv 0) pa_nil))) (pe_one (pe_m1 PySem.F.slot_str_endswith PySem.F.type_str_endswith mt_endswith (pv 0) (pe_op op_add_str pe_str (pv 1))))))))), ?_⟩
  obtain ⟨h, d⟩ := a
  obtain ⟨h1, h2⟩ := hp
  dsimp only at h1 h2 ⊢
  show GoS [some (tx h), some (tx d)] [] _ _
  refine GoS.ret (Go.orVJ (p := decide (h = d)) (q := !isAddr h && (46 :: d).isSuffixOf h) ?_ (fun _ => Go.andVJ (p := !isAddr h) (q := (46 :: d).isSuffixOf h) ?_ (fun _ => ?_) ⟨rfl, rfl⟩) ⟨rfl, rfl⟩)
  · walk_at "cj1"
  · exact Go.notV (Go.callP (GoA.cons (Go.var rfl (GoA.nil ⟨.inl h, rfl, h1, isAddr h, rfl, rfl, rfl⟩))))
  · walk_at "cj1"
/-! ### s1_is_path_sign -/
def pathSign (c : Nat) : Bool := decide (c ∈ lc_PATH_SIGNS)
abbrev sp_s1_is_path_sign (K : PySem.W.Frag) : Sp := SpP (fun _ : Nat => True) (fun c => [tx [c]]) (fun c => bo (pathSign c))
theorem ok_s1_is_path_sign (T : Txt K mg w) : FnOk P w K mg base CX0 1 T.f_s1_is_path_sign T.d_s1_is_path_sign ["sign"] (sp_s1_is_path_sign K) := by
  refine fn_sy T.F_s1_is_path_sign sc_s1_is_path_sign (fun _ _ => rfl) fun a cdv A outer s H E hr hp => ⟨_, (pss_one (ps_ret (pe_cmpR op_in_sign (pv 0) (pe_glob (v := .str cs_PATH_SIGNS) (by rfl) T.c_PATH_SIGNS.choose_spec ⟨_, rfl⟩) (by rfl)))), ?_⟩
  walk_at "cj1"
/-! ### is_path -/
def isPath (l : List Nat) : Bool := decide (1 ≤ l.length ∧ l.length ≤ 200) && (l.head? == some 47) && l.all pathSign
def pathA : List Nat ⊕ As → As
  | .inl l => bo (isPath l)
  | .inr _ => bo false
abbrev sp_is_path (K : PySem.W.Frag) : Sp := SpP (okText K) txo pathA
theorem ok_is_path (T : Txt K mg w) : FnOk P w K mg base CX0 2 T.f_is_path T.d_is_path ["value"] (sp_is_path K) := by
  refine fn_sy T.F_is_path sc_is_path (fun a _ => txo_len a) fun a cdv A outer s H E hr hp => ⟨_, (pss_cons (ps_if (PW.pt (pw_or (pt_not (pt_val (pe_callB (kIsi (K := K) rfl) (by rfl) T.n_isinstance (by decide +kernel) (pa_cons (pv 0) (pa_cons (pe_bltn (v := .ty "str") (by rfl) T.n_str (by decide +kernel) rfl) pa_nil))))) (pw_or (pt_not (pt_chain op_le op_le pe_int (pe_callB call_len_str (by rfl) T.n_len (by decide +kernel) (pa_cons (pv 0) pa_nil)) (pe_glob (v := .int (200)) (by rfl) T.c_MOST_PATH.choose_spec ⟨_, rfl⟩))) (pw_or1 (pt_cmpR op_ne (pe_ix ix_str (pv 0) pe_int (fun _ _ => rfl)) pe_str (nomark _))))))
      (pss_one (ps_ret pe_bl))
      pss_nil)
      (pss_one (ps_ret (pe_callB (kAll (K := K) rfl rfl) (by rfl) T.n_all (by decide +kernel) (pa_cons (pe_lc (own := [("sign", 1)]) (g := gName 1) (tt := tYes) (by rfl) sc_is_path.nd (pi_str (pv 0)) (blkOk_by (own := [("sign", 1)]) (N := N_is_path) (sc := defScope S_is_path) (by decide +kernel)) (fun _ _ _ _ _ => (pg_name (i := 1) sc_is_path.nd rfl (.inl rfl))) (fun _ _ _ _ _ => pts_nil) (fun _ _ _ _ _ => (pe_call (ok_s1_is_path_sign (P := P) T) (hr.mono (by decide)) (by rfl) T.g_s1_is_path_sign T.F_s1_is_path_sign.kp T.b_s1_is_path_sign .nil pass0 (pa_cons (pv 1) pa_nil)))) pa_nil))))), ?_⟩
  cases a with
  | inr B =>
    have hp : OddA K "str" B := hp
    show GoS [some B, none] [] _ _
    refine GoS.seq (GoS.ite (GoT.or (GoT.not (GoT.b (Go.cb (GoA.cons (Go.var rfl (GoA.cons (Go.c (GoA.nil (v_isiOdd hp ⟨false, rfl, ?_⟩))))))))))) 
    walk_at "cj1"
  | inl a =>
    have hp : a.length ≤ 70000 := hp
    show GoS [some (tx a), none] [] _ _
    refine GoS.seq (GoS.ite (GoT.orJ (p := false) (q := !(decide (1 ≤ (a.length : Int)) && decide ((a.length : Int) ≤ 200)) || !decide (a.head? = some 47)) ?_ (fun _ => GoT.orJ (p := !(decide (1 ≤ (a.length : Int)) && decide ((a.length : Int) ≤ 200))) (q := !decide (a.head? = some 47)) ?_ (fun h1 => ?_) ⟨rfl, rfl⟩) ?_))
    · walk_at "cj1"
    · walk_at "cj1"
    · have hn : a ≠ [] := fun z => by subst z; cases h1
      obtain ⟨c, h2, h3⟩ := first_at hn
      walk_at "cj1"
      refine v_ixS (by omega) h2 ?_
      walk_at "cj1"
      rw [one_dec h3]
    have ef : isPath a = ((decide (1 ≤ (a.length : Int)) && decide ((a.length : Int) ≤ 200)) && decide (a.head? = some 47) && a.all pathSign) := by
      have e : decide (1 ≤ a.length ∧ a.length ≤ 200) = (decide (1 ≤ (a.length : Int)) && decide ((a.length : Int) ≤ 200)) := by
        rw [← Bool.decide_and]
        exact decide_eq_decide.mpr (by omega)
      have e2 : (a.head? == some 47) = decide (a.head? = some 47) := by
        by_cases z : a.head? = some 47
        · rw [decide_eq_true z, z]; rfl
        · rw [decide_eq_false z]; exact beq_eq_false_iff_ne.mpr z
      rw [← e, ← e2]
      rfl
    generalize (decide (1 ≤ (a.length : Int)) && decide ((a.length : Int) ≤ 200)) = x at ef ⊢
    generalize decide (a.head? = some 47) = y at ef ⊢
    by_cases hx : (false || (!x || !y)) = true
    · rw [hx]
      refine ⟨fun _ => ?_, fun h => (by cases h)⟩
      have ef : isPath a = false := by rw [ef]; revert hx; cases x <;> cases y <;> simp
      walk_at "cj1"
      all_goals (show bo false = bo (isPath a); rw [ef])
    · rw [Bool.eq_false_iff.mpr hx]
      refine ⟨fun h => (by cases h), fun _ => ?_⟩
      have ef : isPath a = a.all pathSign := by rw [ef]; revert hx; cases x <;> cases y <;> simp
      walk_at "cj1"
      all_goals (show bo _ = bo (isPath a); rw [ef])
end
section
variable {P : Program} {w : World} {K : PySem.W.Frag} {mg : Str → Option Value} {base : Heap} [IsP P]
/-! ### is_origin -/
abbrev sp_is_origin (K : PySem.W.Frag) : Sp := SpP (okTu K) (fun a => [tuA K a]) (fun a => bo (origB a))
theorem ok_is_origin (T : Txt K mg w) : FnOk P w K mg base CX0 5 T.f_is_origin T.d_is_origin ["value"] (sp_is_origin K) := by
  refine fn_sy T.F_is_origin sc_is_origin (fun _ _ => rfl) fun a cdv A outer s H E hr hp => ⟨_, (pss_cons (ps_if (PW.pt (pw_or (pt_not (pt_val (pe_callB (kIsi (K := K) rfl) (by rfl) T.n_isinstance (by decide +kernel) (pa_cons (pv 0) (pa_cons (pe_bltn (v := .ty "tuple") (by rfl) T.n_tuple (by decide +kernel) rfl) pa_nil))))) (pw_or (pt_cmpR op_ne (pe_callB (kLen (K := K) rfl) (by rfl) T.n_len (by decide +kernel) (pa_cons (pv 0) pa_nil)) pe_int (nomark _)) (pw_or1 (pt_not (pt_val (pe_callB (kIsi (K := K) rfl) (by rfl) T.n_isinstance (by decide +kernel) (pa_cons (pe_ix (kIxT (K := K) rfl) (pv 0) pe_int (fun _ _ => rfl)) (pa_cons (pe_bltn (v := .ty "str") (by rfl) T.n_str (by decide +kernel) rfl) pa_nil)))))))))
      (pss_one (ps_ret pe_bl))
      pss_nil)
      (pss_one (ps_ret (pe_and (pe_cmpR (kIn (K := K) rfl) (pe_ix (kIxT (K := K) rfl) (pv 0) pe_int (fun _ _ => rfl)) (pe_glob (v := .ref T.a_SCHEMES) (by rfl) T.q_SCHEMES rfl) (by rfl)) (pe_one (pe_call (ok_is_host (P := P) T) (hr.mono (by decide)) (by rfl) T.g_is_host T.F_is_host.kp T.b_is_host .nil pass0 (pa_cons (pe_ix (kIxT (K := K) rfl) (pv 0) pe_int (fun _ _ => rfl)) pa_nil))))))), ?_⟩
  cases a with
  | inr B =>
    have hp : OddA K "tuple" B := hp
    show GoS [some B] [] _ _
    refine GoS.seq (GoS.ite (GoT.or (GoT.not (GoT.b (Go.cb (GoA.cons (Go.var rfl (GoA.cons (Go.c (GoA.nil (v_isiOdd hp ⟨false, rfl, ?_⟩))))))))))) 
    walk_at "cj6"
  | inl xs =>
    obtain ⟨hl, hx⟩ := hp
    show GoS [some (tup K (xs.map pA))] [] _ _
    by_cases h2 : xs.length = 2
    case neg =>
      have e : origB (.inl xs) = false := by
        match xs, h2 with
        | [], _ => rfl
        | [a], _ => cases a <;> rfl
        | a :: _ :: _ :: _, _ => cases a <;> rfl
        | [_, _], h2 => exact absurd rfl h2
      refine GoS.seq (GoS.ite (GoT.orJ (p := false) (q := true) ?_ (fun _ => GoT.orJ (p := true) (q := true) ?_ (fun h => (by cases h)) ⟨rfl, rfl⟩) ⟨fun _ => ?_, fun h => (by cases h)⟩))
      · walk_at "cj6"
      · walk_at "cj6"
        rw [List.length_map]
        simp only [Bool.not_eq_true', decide_eq_false_iff_not]
        omega
      · walk_at "cj6"
        rw [e]
    case pos =>
      match xs, h2 with
      | [.inr A, b], _ =>
        have ha : OddA K "str" A := hx (.inr A) (by simp)
        refine GoS.seq (GoS.ite (GoT.orJ (p := false) (q := true) ?_ (fun _ => GoT.orJ (p := false) (q := true) ?_ (fun h => ?_) ⟨rfl, rfl⟩) ⟨fun _ => ?_, fun h => (by cases h)⟩))
        · walk_at "cj6"
        · walk_at "cj6"
        · exact GoT.not (GoT.b (Go.cb (GoA.cons (Go.op (Go.var rfl (Go.c (v_ixT (A := A) rfl (GoA.cons (Go.c (GoA.nil (v_isiOdd ha ⟨false, rfl, rfl, rfl⟩)))))))))))
        · walk_at "cj6"
      | [.inl s, b], _ =>
        have hb : okText K b := hx b (by simp)
        refine GoS.seq (GoS.ite (GoT.orJ (p := false) (q := false) ?_ (fun _ => GoT.orJ (p := false) (q := false) ?_ (fun h => ?_) ⟨rfl, rfl⟩) ⟨fun h => (by cases h), fun _ => GoS.nil ?_⟩))
        · walk_at "cj6"
        · walk_at "cj6"
        · walk_at "cj6"
          exact v_is_s_str ⟨true, rfl, rfl, rfl⟩
        · refine GoS.ret (Go.andVJ (p := schemeB s) (q := hostB b) ?_ (fun _ => ?_) ⟨rfl, rfl⟩)
          · walk_at "cj6"
            try exact v_inTS (n := s) (ns := lcv_SCHEMES) ⟨rfl, rfl⟩
          · refine Go.callP (GoA.cons (Go.op (Go.var rfl (Go.c (v_ixT (A := pA b) rfl (GoA.nil ⟨b, ?_, hb, ?_, rfl⟩))))))
            · cases b <;> rfl
            · cases b <;> rfl
/-! ### s1_is_safe -/
abbrev tLocal : List Nat := [108, 111, 99, 97, 108, 104, 111, 115, 116]
abbrev tHttps : List Nat := [104, 116, 116, 112, 115]
def safeB (s h : List Nat) : Bool := decide (s = tHttps) || (decide (h = tLocal) || (46 :: tLocal).isSuffixOf h)
abbrev sp_s1_is_safe (K : PySem.W.Frag) : Sp := SpP (fun a : List Nat × List Nat => a.1.length ≤ 70000 ∧ a.2.length ≤ 70000) (fun a => [tup K [tx a.1, tx a.2]]) (fun a => bo (safeB a.1 a.2))
theorem ok_s1_is_safe (T : Txt K mg w) : FnOk P w K mg base CX0 1 T.f_s1_is_safe T.d_s1_is_safe ["origin"] (sp_s1_is_safe K) := by
  refine fn_sy T.F_s1_is_safe sc_s1_is_safe (fun _ _ => rfl) fun a cdv A outer s H E hr hp => ⟨_, (pss_one (ps_ret (pe_or (pe_cmpR op_eq (pe_ix (kIxT (K := K) rfl) (pv 0) pe_int (fun _ _ => rfl)) pe_str (nomark _)) (pe_or (pe_cmpR op_eq (pe_ix (kIxT (K := K) rfl) (pv 0) pe_int (fun _ _ => rfl)) pe_str (nomark _)) (pe_one (pe_m1 PySem.F.slot_str_endswith PySem.F.type_str_endswith mt_endswith (pe_ix (kIxT (K := K) rfl) (pv 0) pe_int (fun _ _ => rfl)) pe_str)))))), ?_⟩
  obtain ⟨s, h⟩ := a
  obtain ⟨h1, h2⟩ := hp
  dsimp only at h1 h2 ⊢
  show GoS [some (tup K [tx s, tx h])] [] _ _
  refine GoS.ret (Go.orVJ (p := decide (s = tHttps)) (q := decide (h = tLocal) || (46 :: tLocal).isSuffixOf h) ?_ (fun _ => Go.orVJ (p := decide (h = tLocal)) (q := (46 :: tLocal).isSuffixOf h) ?_ (fun _ => ?_) ⟨rfl, rfl⟩) ⟨rfl, rfl⟩)
  · walk_at "cj1"
  · walk_at "cj1"
  · walk_at "cj1"
/-! ### s2_has_control -/
theorem v_ltS {O : OO} {k : As → OO → Prop} {a b : List Nat} (q : k (bo (decide (a < b))) O) : V2 O (fun x y H Q => ∃ i j, x = .str i ∧ y = .str j ∧ Q (.bl (decide (i.cps.toList < j.cps.toList))) H) (tx a) (tx b) k := V2.sc (z := .bl (decide (a < b))) (fun _ _ q => ⟨_, _, rfl, rfl, by simpa [S] using q⟩) q
instance {O : OO} {k : As → OO → Prop} {a b : List Nat} : Stp (V2 O (fun x y H Q => ∃ i j, x = .str i ∧ y = .str j ∧ Q (.bl (decide (i.cps.toList < j.cps.toList))) H) (tx a) (tx b) k) (k (bo (decide (a < b))) O) := ⟨v_ltS⟩
/-- control signs but tabs -/
def isCtl (c : Nat) : Bool := decide ([c] < [32]) && !decide ([c] = [9])
def hasCtl (l : List Nat) : Bool := l.any isCtl
abbrev sp_s2_has_control (K : PySem.W.Frag) : Sp := SpP (fun l : List Nat => l.length ≤ 100000) (fun l => [tx l]) (fun l => bo (hasCtl l))
theorem ok_s2_has_control (T : Txt K mg w) : FnOk P w K mg base CX0 1 T.f_s2_has_control T.d_s2_has_control ["text"] (sp_s2_has_control K) := by
  refine fn_sy T.F_s2_has_control sc_s2_has_control (fun _ _ => rfl) fun a cdv A outer s H E hr hp => ⟨_, (pss_one (ps_ret (pe_callB (kAny (K := K) rfl rfl) (by rfl) T.n_any (by decide +kernel) (pa_cons (pe_lc (own := [("sign", 1)]) (g := gName 1) (tt := tYes) (by rfl) sc_s2_has_control.nd (pi_str (pv 0)) (blkOk_by (own := [("sign", 1)]) (N := N_s2_has_control) (sc := defScope S_s2_has_control) (by decide +kernel)) (fun _ _ _ _ _ => (pg_name (i := 1) sc_s2_has_control.nd rfl (.inl rfl))) (fun _ _ _ _ _ => pts_nil) (fun _ _ _ _ _ => (pe_and (pe_cmpR op_lt_str (pv 1) pe_str (nomark _)) (pe_one (pe_cmpR op_ne (pv 1) pe_str (nomark _)))))) pa_nil)))), ?_⟩
  refine GoS.ret (Go.cb (GoA.cons (Go.lcM1 (K := K) (O9 := []) (l := a) (f := fun c => tx [c]) (B := fun c => bo (isCtl c)) ?_ (fun x hx T => ?_) hp (GoA.nil (v_any ?_)))))
  · walk_at "cj1"
  · walk_at "cj1"
  · exact ⟨rfl, rfl⟩
/-! ### s2_is_kept -/
/-- a text that is read as it stands -/
def keptT (l f : List Nat) : Bool := (!hasCtl l && decide (l = trimB l)) && l.all fun c => !decide (c ∈ f)
def keptB : Vl → List Nat → Bool
  | .s l, f => keptT l f
  | _, _ => false
abbrev sp_s2_is_kept (K : PySem.W.Frag) : Sp := SpP (fun a : Vl × List Nat => okVl K a.1) (fun a => [vl a.1, tx a.2]) (fun a => bo (keptB a.1 a.2))
theorem ok_s2_is_kept (T : Txt K mg w) : FnOk P w K mg base CX0 2 T.f_s2_is_kept T.d_s2_is_kept ["value", "forbidden"] (sp_s2_is_kept K) := by
  refine fn_sy T.F_s2_is_kept sc_s2_is_kept (fun _ _ => rfl) fun a cdv A outer s H E hr hp => ⟨_, (pss_cons (ps_if (PW.pt (pw_or (pt_not (pt_val (pe_callB (kIsi (K := K) rfl) (by rfl) T.n_isinstance (by decide +kernel) (pa_cons (pv 0) (pa_cons (pe_bltn (v := .ty "str") (by rfl) T.n_str (by decide +kernel) rfl) pa_nil))))) (pw_or (pt_val (pe_call (ok_s2_has_control (P := P) T) (hr.mono (by decide)) (by rfl) T.g_s2_has_control T.F_s2_has_control.kp T.b_s2_has_control .nil pass0 (pa_cons (pv 0) pa_nil))) (pw_or1 (pt_cmpR op_ne (pv 0) (kBm (K := K) rfl PySem.F.plainAttrs_str PySem.F.slot_str_strip PySem.F.type_str_strip mt_stripChars (pv 0) (pa_cons (pe_glob (v := .str cs_BLANKS) (by rfl) T.c_BLANKS.choose_spec ⟨_, rfl⟩) pa_nil)) (nomark _))))))
      (pss_one (ps_ret pe_bl))
      pss_nil)
      (pss_one (ps_ret (pe_callB (kAll (K := K) rfl rfl) (by rfl) T.n_all (by decide +kernel) (pa_cons (pe_lc (own := [("sign", 2)]) (g := gName 2) (tt := tYes) (by rfl) sc_s2_is_kept.nd (pi_str (pv 0)) (blkOk_by (own := [("sign", 2)]) (N := N_s2_is_kept) (sc := defScope S_s2_is_kept) (by decide +kernel)) (fun _ _ _ _ _ => (pg_name (i := 2) sc_s2_is_kept.nd rfl (.inl rfl))) (fun _ _ _ _ _ => pts_nil) (fun _ _ _ _ _ => (pe_cmpR op_notIn_sign (pv 2) (pv 1) (by rfl)))) pa_nil))))), ?_⟩
  obtain ⟨v, f⟩ := a
  rcases Vl.text hp with ⟨l, rfl⟩ | ⟨hB, hv⟩
  rotate_left
  · have hk : keptB v f = false := by cases v <;> first | rfl | exact absurd rfl (hv _)
    show GoS (startL N_s2_is_kept [vl v, tx f]) [] _ (eR fun A O' => A = bo (keptB v f) ∧ O' = [])
    rw [hk]
    generalize vl v = B at hB
    show GoS [some B, some (tx f), none] [] _ _
    exact GoS.seq (GoS.ite (GoT.or (GoT.not (GoT.b (Go.cb (GoA.cons (Go.var rfl (GoA.cons (Go.c (GoA.nil (v_isiOdd hB ⟨false, rfl, fun _ => ⟨fun _ => GoS.ret (Go.c ⟨rfl, rfl⟩), fun z => (by cases z)⟩, fun z => (by cases z)⟩)))))))))))
  have hp : l.length ≤ 70000 := hp
  have tl := trimB_len l
  show GoS [some (tx l), some (tx f), none] [] _ _
  refine GoS.seq (GoS.ite (GoT.join (!(!hasCtl l && decide (l = trimB l))) ?_ ⟨fun h => ?_, fun h => GoS.nil ?_⟩))
  · walk_at "cj1"
    show _ = !(!hasCtl l && decide (l = trimB l))
    rw [show trimL (fun c => decide (c ∈ lc_BLANKS)) l = trimB l from rfl]
    cases hasCtl l <;> cases decide (l = trimB l) <;> rfl
  · refine GoS.ret (Go.c ⟨?_, rfl⟩)
    show bo false = bo (keptT l f)
    unfold keptT
    rw [show (!hasCtl l && decide (l = trimB l)) = false from (Bool.not_eq_true' _).mp h]
    rfl
  · show GoS _ _ _ _
    refine GoS.ret (Go.cb (GoA.cons (Go.lcM1 (K := K) (O9 := []) (l := l) (f := fun c => tx [c]) (B := fun c => bo (!decide (c ∈ f))) ?_ (fun x hx T => ?_) (by omega) (GoA.nil (v_all ?_)))))
    · walk_at "cj1"
    · walk_at "cj1"
    · refine ⟨?_, rfl⟩
      show _ = bo (keptT l f)
      unfold keptT
      rw [show (!hasCtl l && decide (l = trimB l)) = true from by rwa [Bool.not_eq_false'] at h, Bool.true_and]
/-! ### s2_is_value -/
def sizeB (n : List Nat) : Vl → Bool
  | .s l => decide (1 ≤ (n.length : Int) + (l.length : Int)) && decide ((n.length : Int) + (l.length : Int) ≤ 4096)
  | _ => false
def valueB (n : List Nat) (v : Vl) : Bool := keptB v [59] && sizeB n v
abbrev sp_s2_is_value (K : PySem.W.Frag) : Sp := SpP (fun a : List Nat × Vl => a.1.length ≤ 70000 ∧ okVl K a.2) (fun a => [tx a.1, vl a.2]) (fun a => bo (valueB a.1 a.2))
theorem ok_s2_is_value (T : Txt K mg w) : FnOk P w K mg base CX0 3 T.f_s2_is_value T.d_s2_is_value ["name", "value"] (sp_s2_is_value K) := by
  refine fn_sy T.F_s2_is_value sc_s2_is_value (fun _ _ => rfl) fun a cdv A outer s H E hr hp => ⟨_, (pss_one (ps_ret (pe_and (pe_call (ok_s2_is_kept (P := P) T) (hr.mono (by decide)) (by rfl) T.g_s2_is_kept T.F_s2_is_kept.kp T.b_s2_is_kept .nil pass0 (pa_cons (pv 1) (pa_cons pe_str pa_nil))) (pe_one (pe_chain op_le op_le pe_int (pe_op op_add (pe_callB call_len_str (by rfl) T.n_len (by decide +kernel) (pa_cons (pv 0) pa_nil)) (pe_callB call_len_str (by rfl) T.n_len (by decide +kernel) (pa_cons (pv 1) pa_nil))) (pe_glob (v := .int (4096)) (by rfl) T.c_MOST_LINE.choose_spec ⟨_, rfl⟩)))))), ?_⟩
  obtain ⟨n, v⟩ := a
  refine GoS.ret (Go.andVJ (p := keptB v [59]) (q := sizeB n v) ?_ (fun h => ?_) ⟨rfl, rfl⟩)
  · refine Go.callP2 (GoA.cons (Go.var rfl (GoA.cons (Go.cS (l := [59]) ?_ (GoA.nil ⟨v, [59], rfl, hp.2, rfl, rfl⟩)))))
    exact LitS.eq
  · cases v with
    | s l =>
      have h1 : n.length ≤ 70000 := hp.1
      have h2 : l.length ≤ 70000 := hp.2
      show Go [some (tx n), some (tx l)] [] _ _
      walk_at "cj1"
    | _ => cases h
/-! ### s2_is_age -/
def ageB : Vl → Bool
  | .i x => decide (0 ≤ x) && decide (x ≤ 34560000)
  | _ => false
abbrev sp_s2_is_age (K : PySem.W.Frag) : Sp := SpP (fun v : Vl => okVl K v) (fun v => [vl v]) (fun v => bo (ageB v))
theorem ok_s2_is_age (T : Txt K mg w) : FnOk P w K mg base CX0 2 T.f_s2_is_age T.d_s2_is_age ["value"] (sp_s2_is_age K) := by
  refine fn_sy T.F_s2_is_age sc_s2_is_age (fun _ _ => rfl) fun a cdv A outer s H E hr hp => ⟨_, (pss_one (ps_ret (pe_and (pe_call (ok_is_integer (P := P) T) (hr.mono (by decide)) (by rfl) T.g_is_integer T.F_is_integer.kp T.b_is_integer .nil pass0 (pa_cons (pv 0) pa_nil)) (pe_one (pe_chain op_le op_le pe_int (pv 0) (pe_glob (v := .int (34560000)) (by rfl) T.c_MOST_AGE_pieces.choose_spec ⟨_, rfl⟩)))))), ?_⟩
  refine GoS.ret (Go.andVJ (p := a.toI.isLeft) (q := ageB a) ?_ (fun h => ?_) ⟨?_, rfl⟩)
  · exact Go.callP (GoA.cons (Go.var rfl (GoA.nil ⟨a.toI, (vAV a).symm, okVl.i (v := a) hp, rfl, rfl⟩)))
  · cases a with
    | i x =>
      show Go [some (it x)] [] _ _
      walk_at "cj1"
    | _ => cases h
  · cases a <;> first | rfl | (show bo (true && _) = bo _; rw [Bool.true_and])
/-! ### s2_is_same -/
def sameB : Vl → Bool
  | .s l => decide (l ∈ lcv_SAMES)
  | _ => false
abbrev sp_s2_is_same (K : PySem.W.Frag) : Sp := SpP (fun v : Vl => okVl K v) (fun v => [vl v]) (fun v => bo (sameB v))
theorem ok_s2_is_same (T : Txt K mg w) : FnOk P w K mg base CX0 1 T.f_s2_is_same T.d_s2_is_same ["value"] (sp_s2_is_same K) := by
  refine fn_sy T.F_s2_is_same sc_s2_is_same (fun _ _ => rfl) fun a cdv A outer s H E hr hp => ⟨_, (pss_one (ps_ret (pe_and (pe_callB (kIsi (K := K) rfl) (by rfl) T.n_isinstance (by decide +kernel) (pa_cons (pv 0) (pa_cons (pe_bltn (v := .ty "str") (by rfl) T.n_str (by decide +kernel) rfl) pa_nil))) (pe_one (pe_cmpR (kIn (K := K) rfl) (pv 0) (pe_glob (v := .ref T.a_SAMES_pieces) (by rfl) T.q_SAMES_pieces rfl) (by rfl)))))), ?_⟩
  rcases Vl.text hp with ⟨l, rfl⟩ | ⟨hB, hv⟩
  · show GoS [some (tx l)] [] _ _
    walk_at "cj7"
  · have hk : sameB a = false := by cases a <;> first | rfl | exact absurd rfl (hv _)
    show GoS (startL N_s2_is_same [vl a]) [] _ (eR fun A O' => A = bo (sameB a) ∧ O' = [])
    rw [hk]
    generalize vl a = B at hB
    show GoS [some B] [] _ _
    exact GoS.ret (Go.andV (Go.cb (GoA.cons (Go.var rfl (GoA.cons (Go.c (GoA.nil (v_isiOdd hB ⟨false, rfl, fun z => (by cases z), fun _ => ⟨rfl, rfl⟩⟩))))))))
/-! ### s2_is_priority -/
def prioB : Vl → Bool
  | .i x => decide (0 ≤ x) && decide (x ≤ 2)
  | _ => false
abbrev sp_s2_is_priority (K : PySem.W.Frag) : Sp := SpP (fun v : Vl => okVl K v) (fun v => [vl v]) (fun v => bo (prioB v))
theorem ok_s2_is_priority (T : Txt K mg w) : FnOk P w K mg base CX0 2 T.f_s2_is_priority T.d_s2_is_priority ["value"] (sp_s2_is_priority K) := by
  refine fn_sy T.F_s2_is_priority sc_s2_is_priority (fun _ _ => rfl) fun a cdv A outer s H E hr hp => ⟨_, (pss_one (ps_ret (pe_and (pe_call (ok_is_integer (P := P) T) (hr.mono (by decide)) (by rfl) T.g_is_integer T.F_is_integer.kp T.b_is_integer .nil pass0 (pa_cons (pv 0) pa_nil)) (pe_one (pe_chain op_le op_le pe_int (pv 0) pe_int))))), ?_⟩
  refine GoS.ret (Go.andVJ (p := a.toI.isLeft) (q := prioB a) ?_ (fun h => ?_) ⟨?_, rfl⟩)
  · exact Go.callP (GoA.cons (Go.var rfl (GoA.nil ⟨a.toI, (vAV a).symm, okVl.i (v := a) hp, rfl, rfl⟩)))
  · cases a with
    | i x =>
      show Go [some (it x)] [] _ _
      walk_at "cj1"
    | _ => cases h
  · cases a <;> first | rfl | (show bo (true && _) = bo _; rw [Bool.true_and])
/-! ### s2_need -/
abbrev sp_s2_need (T : Txt K mg w) : Sp := SpX (fun _ : List Nat × Bool => True) (fun a => [tx a.1, bo a.2]) (fun _ => []) (fun a A O' => a.2 = true ∧ A = no ∧ O' = []) (fun a cls fs O' => a.2 = false ∧ cls = .ref T.C_BadLine ∧ fs = [(("field" : Str), tx a.1)] ∧ O' = [])
theorem ok_s2_need (T : Txt K mg w) : FnOk P w K mg base (L2.CX P w) 3 T.f_s2_need T.d_s2_need ["field", "good"] (sp_s2_need T) := by
  refine fnx_sy T.F_s2_need sc_s2_need (fun _ _ => rfl) fun a cdv A outer s H E hr hp => ⟨_, (pss_one (ps_if (pt_not (pt_val (pv 1)))
      (pss_one (ps_rz rfl takesD (ExS.pmk_ex (pn := "field") T.E_BadLine rfl rfl (IsP.eq (P := P)) (hr.mono (by decide)) rfl rfl rfl sci_BadLine (by decide +kernel) (by decide) (by decide) (by decide) (fun _ _ _ _ _ _ _ _ _ => rfl) (by rfl) (pa_cons (pv 0) pa_nil))))
      pss_nil)), ?_⟩
  obtain ⟨f, g⟩ := a
  refine GoSW.ite (GoWT.up (GoT.not (GoT.b (Go.var rfl ⟨g, rfl, ?_⟩))))
  cases g with
  | true => exact ⟨fun z => (by cases z), fun _ => GoSW.up (GoS.nil ⟨rfl, rfl, rfl⟩)⟩
  | false => exact ⟨fun _ => GoSW.raise (GoA.cons (Go.var rfl (GoA.nil ⟨_, rfl, rfl, rfl, rfl, rfl⟩))), fun z => (by cases z)⟩
/-- s2_need(field, e) -/
theorem GoSW.need2 {T : Txt K mg w} {W : WX} {x : XP} {L : LL} {O : OO} {k : Es} {z : Str} {l : List Nat} {te : TE} {u : TS} (hz : z = S l) (g : Bool) (he : Go L O te fun A O1 => A = bo g ∧ O1 = O) (hf : g = false → x (.ref T.C_BadLine) [(("field" : Str), tx l)] L O) (ht : g = true → GoSW W x L O u k) :
    GoSW W x L O (tSeq (tDrop (L2.tCallS (sp_s2_need T) (WE W) (tCons (tC (.str z)) (tCons te tNil)))) u) k := by
  refine GoSW.seq (GoSW.drop (GoW.call (fun _ _ h => nomatch h) (GoWA.up (GoA.cons (Go.cS hz (GoA.cons (he.imp fun A O1 e => ?_)))))))
  obtain ⟨rfl, rfl⟩ := e
  refine GoA.nil ⟨(l, g), O1, rfl, rfl, True.intro, fun cls fs O' r => ?_, fun A O' r => ?_⟩
  · obtain ⟨h1, rfl, rfl, rfl⟩ := r
    exact hf h1
  · obtain ⟨h1, rfl, rfl⟩ := r
    exact ht h1
/-! ### Line_init -/
/-! lines -/
structure LineV where
  nm : Vl
  va : Vl
  ex : Vl
  ag : Vl
  dm : Vl
  pa : Vl
  se : Vl
  hi : Vl
  sm : Vl
  pt : Vl
  pr : Vl
def LineV.vs (a : LineV) : List Vl := [a.nm, a.va, a.ex, a.ag, a.dm, a.pa, a.se, a.hi, a.sm, a.pt, a.pr]
def nameB : Vl → Bool
  | .s l => keptT l [61, 59] && decide ((l.length : Int) ≤ 4096)
  | _ => false
def valB : Vl → Vl → Bool
  | .s n, v => valueB n v
  | _, _ => false
def tickV (v : Vl) : Bool := tickB v.toI
def hostV : Vl → Bool
  | .s l => isHost l
  | _ => false
def pathV : Vl → Bool
  | .s l => isPath l
  | _ => false
def fName : List Nat := [110, 97, 109, 101]
def fValue : List Nat := [118, 97, 108, 117, 101]
def fExpires : List Nat := [101, 120, 112, 105, 114, 101, 115]
def fAge : List Nat := [97, 103, 101]
def fDomain : List Nat := [100, 111, 109, 97, 105, 110]
def fPath : List Nat := [112, 97, 116, 104]
def fSecure : List Nat := [105, 115, 95, 115, 101, 99, 117, 114, 101]
def fHidden : List Nat := [105, 115, 95, 104, 105, 100, 100, 101, 110]
def fSame : List Nat := [115, 97, 109, 101]
def fPart : List Nat := [105, 115, 95, 112, 97, 114, 116, 105, 116, 105, 111, 110, 101, 100]
def fPrio : List Nat := [112, 114, 105, 111, 114, 105, 116, 121]
/-- the first that is wrong -/
def firstBad : List (List Nat × Bool) → Option (List Nat)
  | [] => none
  | (f, b) :: r => if b = true then firstBad r else some f
def lineTests (a : LineV) : List (List Nat × Bool) := [(fName, nameB a.nm), (fValue, valB a.nm a.va), (fExpires, a.ex.isN || tickV a.ex), (fAge, a.ag.isN || ageB a.ag), (fDomain, a.dm.isN || hostV a.dm), (fPath, a.pa.isN || pathV a.pa),
  (fSecure, a.se.isB), (fHidden, a.hi.isB), (fSame, a.sm.isN || sameB a.sm), (fPart, a.pt.isB), (fPrio, a.pr.isN || prioB a.pr)]
def lineBad (a : LineV) : Option (List Nat) := firstBad (lineTests a)
theorem firstBad_t {f : List Nat} {b : Bool} {r : List (List Nat × Bool)} (h : b = true) : firstBad ((f, b) :: r) = firstBad r := if_pos h
theorem firstBad_f {f : List Nat} {b : Bool} {r : List (List Nat × Bool)} (h : b = false) : firstBad ((f, b) :: r) = some f := if_neg (by rw [h]; exact Bool.false_ne_true)
def rpInit (C B : Addr) (bad : Option (List Nat)) (cls : Value) (fs : List (Str × As)) (O' : OO) : Prop := ∃ f D, bad = some f ∧ cls = .ref B ∧ fs = [(("field" : Str), tx f)] ∧ O' = [(D, .oi true C [])]
def lineFs (K : PySem.W.Frag) (a : LineV) : List (Str × As) := [(("line_settings" : Str), tup K (a.vs.map vl))]
abbrev sp_Line_init (T : Txt K mg w) : Sp := SpIX T.C_Line (fun a : LineV => ∀ v ∈ a.vs, okVl K v) (fun a => a.vs.map vl) (lineFs K) (fun a => lineBad a = none) (fun a => rpInit T.C_Line T.C_BadLine (lineBad a))
/-- e is None or t(e) -/
theorem orNone {K : PySem.W.Frag} {L : LL} {O : OO} {i : Nat} {v : Vl} {b : Bool} {tc : TE} (hL : L[i]? = some (some (vl v))) (hv : okVl K v) (hc : v.isN = false → Go L O tc fun A O1 => A = bo b ∧ O1 = O) :
    Go L O (tOrV (tOp (fun x y H Q => y = V.non ∧ Q (V.bl (decide (x = V.non))) H) (tVar i) (tC .non)) tc) fun A O1 => A = bo (v.isN || b) ∧ O1 = O :=
  Go.orV (Go.op (Go.var hL (Go.c (v_isVl hv ⟨_, rfl, fun h => ⟨by rw [h]; rfl, rfl⟩, fun h => (hc h).imp fun A O1 e => ⟨by rw [h]; exact e.1, e.2⟩⟩))))
theorem ok_Line_init (T : Txt K mg w) : FnOk P w K mg base (L2.CX P w) 5 T.f_Line_init T.d_Line_init ["self", "name", "value", "expires", "age", "domain", "path", "is_secure", "is_hidden", "same", "is_partitioned", "priority"] (sp_Line_init T) := by
  refine fnx_sy T.F_Line_init sc_Line_init (fun _ _ => rfl) fun a cdv A outer s H E hr hp => ⟨_, (pss_cons (ps_expr (pe_callS (ok_s2_need (P := P) T) (hr.mono (by decide)) (by rfl) T.g_s2_need T.F_s2_need.kp T.b_s2_need (fun σ => passAt takesD σ) (pa_cons pe_str (pa_cons (pe_and (pe_call (ok_s2_is_kept (P := P) T) (hr.mono (by decide)) (by rfl) T.g_s2_is_kept T.F_s2_is_kept.kp T.b_s2_is_kept .nil pass0 (pa_cons (pv 1) (pa_cons pe_str pa_nil))) (pe_one (pe_cmpR op_le (pe_callB call_len_str (by rfl) T.n_len (by decide +kernel) (pa_cons (pv 1) pa_nil)) (pe_glob (v := .int (4096)) (by rfl) T.c_MOST_LINE.choose_spec ⟨_, rfl⟩) (nomark _)))) pa_nil))))
      (pss_cons (ps_expr (pe_callS (ok_s2_need (P := P) T) (hr.mono (by decide)) (by rfl) T.g_s2_need T.F_s2_need.kp T.b_s2_need (fun σ => passAt takesD σ) (pa_cons pe_str (pa_cons (pe_call (ok_s2_is_value (P := P) T) (hr.mono (by decide)) (by rfl) T.g_s2_is_value T.F_s2_is_value.kp T.b_s2_is_value .nil pass0 (pa_cons (pv 1) (pa_cons (pv 2) pa_nil))) pa_nil))))
      (pss_cons (ps_expr (pe_callS (ok_s2_need (P := P) T) (hr.mono (by decide)) (by rfl) T.g_s2_need T.F_s2_need.kp T.b_s2_need (fun σ => passAt takesD σ) (pa_cons pe_str (pa_cons (pe_or (pe_cmpR op_isN (pv 3) pe_non (nomark _)) (pe_one (pe_call (ok_is_tick (P := P) T) (hr.mono (by decide)) (by rfl) T.g_is_tick T.F_is_tick.kp T.b_is_tick .nil pass0 (pa_cons (pv 3) pa_nil)))) pa_nil))))
      (pss_cons (ps_expr (pe_callS (ok_s2_need (P := P) T) (hr.mono (by decide)) (by rfl) T.g_s2_need T.F_s2_need.kp T.b_s2_need (fun σ => passAt takesD σ) (pa_cons pe_str (pa_cons (pe_or (pe_cmpR op_isN (pv 4) pe_non (nomark _)) (pe_one (pe_call (ok_s2_is_age (P := P) T) (hr.mono (by decide)) (by rfl) T.g_s2_is_age T.F_s2_is_age.kp T.b_s2_is_age .nil pass0 (pa_cons (pv 4) pa_nil)))) pa_nil))))
      (pss_cons (ps_expr (pe_callS (ok_s2_need (P := P) T) (hr.mono (by decide)) (by rfl) T.g_s2_need T.F_s2_need.kp T.b_s2_need (fun σ => passAt takesD σ) (pa_cons pe_str (pa_cons (pe_or (pe_cmpR op_isN (pv 5) pe_non (nomark _)) (pe_one (pe_call (ok_is_host (P := P) T) (hr.mono (by decide)) (by rfl) T.g_is_host T.F_is_host.kp T.b_is_host .nil pass0 (pa_cons (pv 5) pa_nil)))) pa_nil))))
      (pss_cons (ps_expr (pe_callS (ok_s2_need (P := P) T) (hr.mono (by decide)) (by rfl) T.g_s2_need T.F_s2_need.kp T.b_s2_need (fun σ => passAt takesD σ) (pa_cons pe_str (pa_cons (pe_or (pe_cmpR op_isN (pv 6) pe_non (nomark _)) (pe_one (pe_call (ok_is_path (P := P) T) (hr.mono (by decide)) (by rfl) T.g_is_path T.F_is_path.kp T.b_is_path .nil pass0 (pa_cons (pv 6) pa_nil)))) pa_nil))))
      (pss_cons (ps_expr (pe_callS (ok_s2_need (P := P) T) (hr.mono (by decide)) (by rfl) T.g_s2_need T.F_s2_need.kp T.b_s2_need (fun σ => passAt takesD σ) (pa_cons pe_str (pa_cons (pe_callB (kIsi (K := K) rfl) (by rfl) T.n_isinstance (by decide +kernel) (pa_cons (pv 7) (pa_cons (pe_bltn (v := .ty "bool") (by rfl) T.n_bool (by decide +kernel) rfl) pa_nil))) pa_nil))))
      (pss_cons (ps_expr (pe_callS (ok_s2_need (P := P) T) (hr.mono (by decide)) (by rfl) T.g_s2_need T.F_s2_need.kp T.b_s2_need (fun σ => passAt takesD σ) (pa_cons pe_str (pa_cons (pe_callB (kIsi (K := K) rfl) (by rfl) T.n_isinstance (by decide +kernel) (pa_cons (pv 8) (pa_cons (pe_bltn (v := .ty "bool") (by rfl) T.n_bool (by decide +kernel) rfl) pa_nil))) pa_nil))))
      (pss_cons (ps_expr (pe_callS (ok_s2_need (P := P) T) (hr.mono (by decide)) (by rfl) T.g_s2_need T.F_s2_need.kp T.b_s2_need (fun σ => passAt takesD σ) (pa_cons pe_str (pa_cons (pe_or (pe_cmpR op_isN (pv 9) pe_non (nomark _)) (pe_one (pe_call (ok_s2_is_same (P := P) T) (hr.mono (by decide)) (by rfl) T.g_s2_is_same T.F_s2_is_same.kp T.b_s2_is_same .nil pass0 (pa_cons (pv 9) pa_nil)))) pa_nil))))
      (pss_cons (ps_expr (pe_callS (ok_s2_need (P := P) T) (hr.mono (by decide)) (by rfl) T.g_s2_need T.F_s2_need.kp T.b_s2_need (fun σ => passAt takesD σ) (pa_cons pe_str (pa_cons (pe_callB (kIsi (K := K) rfl) (by rfl) T.n_isinstance (by decide +kernel) (pa_cons (pv 10) (pa_cons (pe_bltn (v := .ty "bool") (by rfl) T.n_bool (by decide +kernel) rfl) pa_nil))) pa_nil))))
      (pss_cons (ps_expr (pe_callS (ok_s2_need (P := P) T) (hr.mono (by decide)) (by rfl) T.g_s2_need T.F_s2_need.kp T.b_s2_need (fun σ => passAt takesD σ) (pa_cons pe_str (pa_cons (pe_or (pe_cmpR op_isN (pv 11) pe_non (nomark _)) (pe_one (pe_call (ok_s2_is_priority (P := P) T) (hr.mono (by decide)) (by rfl) T.g_s2_is_priority T.F_s2_is_priority.kp T.b_s2_is_priority .nil pass0 (pa_cons (pv 11) pa_nil)))) pa_nil))))
      (pss_one (kSFld (K := K) rfl (pv 0) (pe_tup (pa_cons (pv 1) (pa_cons (pv 2) (pa_cons (pv 3) (pa_cons (pv 4) (pa_cons (pv 5) (pa_cons (pv 6) (pa_cons (pv 7) (pa_cons (pv 8) (pa_cons (pv 9) (pa_cons (pv 10) (pa_cons (pv 11) pa_nil)))))))))))) rfl))))))))))))), ?_⟩
  obtain ⟨D, a⟩ := a
  obtain ⟨x1, x2, x3, x4, x5, x6, x7, x8, x9, x10, x11⟩ := a
  simp only [LineV.vs, List.mem_cons, List.mem_nil_iff, or_false, forall_eq_or_imp, forall_eq] at hp
  obtain ⟨p1, p2, p3, p4, p5, p6, p7, p8, p9, p10, p11⟩ := hp
  show GoSW _ _ [some (pt D), some (vl x1), some (vl x2), some (vl x3), some (vl x4), some (vl x5), some (vl x6), some (vl x7), some (vl x8), some (vl x9), some (vl x10), some (vl x11)] [(D, .oi true T.C_Line [])] _ _
  refine GoSW.need2 LitS.eq (nameB x1) ?_ (fun h1 => ⟨fName, D, firstBad_f h1, rfl, rfl, rfl⟩) (fun h1 => ?_)
  · refine Go.andVJ (p := keptB x1 [61, 59]) (q := nameB x1) ?_ (fun h => ?_) ⟨?_, rfl⟩
    · refine Go.callP2 (GoA.cons (Go.var rfl (GoA.cons (Go.cS (l := [61, 59]) ?_ (GoA.nil ⟨x1, [61, 59], rfl, p1, rfl, rfl⟩)))))
      exact LitS.eq
    · cases x1 with
      | s l =>
        have h : keptT l [61, 59] = true := h
        have p1 : l.length ≤ 70000 := p1
        have e : nameB (.s l) = decide ((l.length : Int) ≤ 4096) := by show (keptT l [61, 59] && _) = _; rw [h, Bool.true_and]
        rw [e]
        show Go [some (pt D), some (tx l), some (vl x2), some (vl x3), some (vl x4), some (vl x5), some (vl x6), some (vl x7), some (vl x8), some (vl x9), some (vl x10), some (vl x11)] [(D, .oi true T.C_Line [])] _ _
        walk_at "cj8"
      | _ => cases h
    · cases x1 with
      | s l => show bo (keptT l [61, 59] && (keptT l [61, 59] && _)) = bo (keptT l [61, 59] && _); rw [← Bool.and_assoc, Bool.and_self]
      | _ => rfl
  cases x1 with
  | n => cases h1
  | b x => cases h1
  | i x => cases h1
  | o A => cases h1
  | s l =>
  refine GoSW.need2 LitS.eq (valueB l x2) ?_ (fun h2 => ⟨fValue, D, (firstBad_t h1).trans (firstBad_f h2), rfl, rfl, rfl⟩) (fun h2 => ?_)
  · exact Go.callP2 (GoA.cons (Go.var rfl (GoA.cons (Go.var rfl (GoA.nil ⟨l, x2, rfl, ⟨p1, p2⟩, rfl, rfl⟩)))))
  refine GoSW.need2 LitS.eq (x3.isN || tickV x3) ?_ (fun h3 => ⟨fExpires, D, (firstBad_t h1).trans ((firstBad_t h2).trans (firstBad_f h3)), rfl, rfl, rfl⟩) (fun h3 => ?_)
  · exact orNone rfl p3 fun _ => Go.callP (GoA.cons (Go.var rfl (GoA.nil ⟨x3.toI, (vAV x3).symm, okVl.i p3, rfl, rfl⟩)))
  refine GoSW.need2 LitS.eq (x4.isN || ageB x4) ?_ (fun h4 => ⟨fAge, D, (firstBad_t h1).trans ((firstBad_t h2).trans ((firstBad_t h3).trans (firstBad_f h4))), rfl, rfl, rfl⟩) (fun h4 => ?_)
  · exact orNone rfl p4 fun _ => Go.callP (GoA.cons (Go.var rfl (GoA.nil ⟨x4, rfl, p4, rfl, rfl⟩)))
  refine GoSW.need2 LitS.eq (x5.isN || hostV x5) ?_ (fun h5 => ⟨fDomain, D, (firstBad_t h1).trans ((firstBad_t h2).trans ((firstBad_t h3).trans ((firstBad_t h4).trans (firstBad_f h5)))), rfl, rfl, rfl⟩) (fun h5 => ?_)
  · exact orNone rfl p5 fun _ => Go.callP (GoA.cons (Go.var rfl (GoA.nil ⟨x5.toT, (txoV x5).symm, okVl.t p5, by cases x5 <;> rfl, rfl⟩)))
  refine GoSW.need2 LitS.eq (x6.isN || pathV x6) ?_ (fun h6 => ⟨fPath, D, (firstBad_t h1).trans ((firstBad_t h2).trans ((firstBad_t h3).trans ((firstBad_t h4).trans ((firstBad_t h5).trans (firstBad_f h6))))), rfl, rfl, rfl⟩) (fun h6 => ?_)
  · exact orNone rfl p6 fun _ => Go.callP (GoA.cons (Go.var rfl (GoA.nil ⟨x6.toT, (txoV x6).symm, okVl.t p6, by cases x6 <;> rfl, rfl⟩)))
  refine GoSW.need2 LitS.eq x7.isB ?_ (fun h7 => ⟨fSecure, D, (firstBad_t h1).trans ((firstBad_t h2).trans ((firstBad_t h3).trans ((firstBad_t h4).trans ((firstBad_t h5).trans ((firstBad_t h6).trans (firstBad_f h7)))))), rfl, rfl, rfl⟩) (fun h7 => ?_)
  · exact Go.cb (GoA.cons (Go.var rfl (GoA.cons (Go.c (GoA.nil (v_bVl p7 ⟨rfl, rfl⟩))))))
  refine GoSW.need2 LitS.eq x8.isB ?_ (fun h8 => ⟨fHidden, D, (firstBad_t h1).trans ((firstBad_t h2).trans ((firstBad_t h3).trans ((firstBad_t h4).trans ((firstBad_t h5).trans ((firstBad_t h6).trans ((firstBad_t h7).trans (firstBad_f h8))))))), rfl, rfl, rfl⟩) (fun h8 => ?_)
  · exact Go.cb (GoA.cons (Go.var rfl (GoA.cons (Go.c (GoA.nil (v_bVl p8 ⟨rfl, rfl⟩))))))
  refine GoSW.need2 LitS.eq (x9.isN || sameB x9) ?_ (fun h9 => ⟨fSame, D, (firstBad_t h1).trans ((firstBad_t h2).trans ((firstBad_t h3).trans ((firstBad_t h4).trans ((firstBad_t h5).trans ((firstBad_t h6).trans ((firstBad_t h7).trans ((firstBad_t h8).trans (firstBad_f h9)))))))), rfl, rfl, rfl⟩) (fun h9 => ?_)
  · exact orNone rfl p9 fun _ => Go.callP (GoA.cons (Go.var rfl (GoA.nil ⟨x9, rfl, p9, rfl, rfl⟩)))
  refine GoSW.need2 LitS.eq x10.isB ?_ (fun h10 => ⟨fPart, D, (firstBad_t h1).trans ((firstBad_t h2).trans ((firstBad_t h3).trans ((firstBad_t h4).trans ((firstBad_t h5).trans ((firstBad_t h6).trans ((firstBad_t h7).trans ((firstBad_t h8).trans ((firstBad_t h9).trans (firstBad_f h10))))))))), rfl, rfl, rfl⟩) (fun h10 => ?_)
  · exact Go.cb (GoA.cons (Go.var rfl (GoA.cons (Go.c (GoA.nil (v_bVl p10 ⟨rfl, rfl⟩))))))
  refine GoSW.need2 LitS.eq (x11.isN || prioB x11) ?_ (fun h11 => ⟨fPrio, D, (firstBad_t h1).trans ((firstBad_t h2).trans ((firstBad_t h3).trans ((firstBad_t h4).trans ((firstBad_t h5).trans ((firstBad_t h6).trans ((firstBad_t h7).trans ((firstBad_t h8).trans ((firstBad_t h9).trans ((firstBad_t h10).trans (firstBad_f h11)))))))))), rfl, rfl, rfl⟩) (fun h11 => ?_)
  · exact orNone rfl p11 fun _ => Go.callP (GoA.cons (Go.var rfl (GoA.nil ⟨x11, rfl, p11, rfl, rfl⟩)))
  refine GoSW.up ?_
  walk_at "cj8"
  refine ⟨?_, rfl, rfl⟩
  exact (firstBad_t h1).trans ((firstBad_t h2).trans ((firstBad_t h3).trans ((firstBad_t h4).trans ((firstBad_t h5).trans ((firstBad_t h6).trans ((firstBad_t h7).trans ((firstBad_t h8).trans ((firstBad_t h9).trans ((firstBad_t h10).trans (firstBad_t h11))))))))))
/-- a line that was made -/
structure LineG where
  nm : List Nat
  va : List Nat
  ex : Option Int
  ag : Option Int
  dm : Option (List Nat)
  pa : Option (List Nat)
  se : Bool
  hi : Bool
  sm : Option (List Nat)
  pt : Bool
  pr : Option Int
  deriving DecidableEq
def vI : Option Int → Vl
  | none => .n
  | some i => .i i
def vT : Option (List Nat) → Vl
  | none => .n
  | some i => .s i
def LineG.v (g : LineG) : LineV := ⟨.s g.nm, .s g.va, vI g.ex, vI g.ag, vT g.dm, vT g.pa, .b g.se, .b g.hi, vT g.sm, .b g.pt, vI g.pr⟩
def LineG.as (g : LineG) : List As := [tx g.nm, tx g.va, oI g.ex, oI g.ag, oT g.dm, oT g.pa, bo g.se, bo g.hi, oT g.sm, bo g.pt, oI g.pr]
def lineA (K : PySem.W.Frag) (C : Addr) (g : LineG) : As := ins C [(("line_settings" : Str), tup K g.as)]
instance {K : PySem.W.Frag} {C : Addr} {g : LineG} : HasC (lineA K C g) C := ⟨fun O => InsC.ins⟩
instance {K : PySem.W.Frag} {C : Addr} {g : LineG} : HasF (lineA K C g) C "line_settings" (tup K g.as) := ⟨fun O => InsF.ins rfl⟩
/-! ### s1_is_rule -/
abbrev sp_s1_is_rule (K : PySem.W.Frag) : Sp := SpP (okText K) txo (fun a => bo (ruleB a))
theorem ok_s1_is_rule (T : Txt K mg w) : FnOk P w K mg base CX0 2 T.f_s1_is_rule T.d_s1_is_rule ["value"] (sp_s1_is_rule K) := by
  refine fn_sy T.F_s1_is_rule sc_s1_is_rule (fun a _ => txo_len a) fun a cdv A outer s H E hr hp => ⟨_, (pss_cons (ps_if (pt_not (pt_val (pe_callB (kIsi (K := K) rfl) (by rfl) T.n_isinstance (by decide +kernel) (pa_cons (pv 0) (pa_cons (pe_bltn (v := .ty "str") (by rfl) T.n_str (by decide +kernel) rfl) pa_nil)))))
      (pss_one (ps_ret pe_bl))
      pss_nil)
      (pss_cons (ps_set (i := 1) sc_s1_is_rule.nd rfl (.inl rfl) (pe_m1 PySem.F.slot_str_startswith PySem.F.type_str_startswith mt_startswith (pv 0) pe_str))
      (pss_cons (ps_set (i := 2) sc_s1_is_rule.nd rfl (.inl rfl) (pe_split (pe_slice sl_str (pv 0) (po_some (pe_callTy call_int1 (by rfl) T.n_int (by decide +kernel) (pa_cons (pv 1) pa_nil))) po_none) pe_str))
      (pss_cons (ps_if (pt_cmpR op_eq (pe_ix (kIxL (K := K) rfl) (pv 2) pe_int (fun _ _ => rfl)) pe_str (nomark _))
      (pss_one (ps_ret (pe_and (pe_not (pv 1)) (pe_and (pe_cmpR op_gt (pe_callB (kLen (K := K) rfl) (by rfl) T.n_len (by decide +kernel) (pa_cons (pv 2) pa_nil)) pe_int (nomark _)) (pe_one (pe_callB (kAll (K := K) rfl rfl) (by rfl) T.n_all (by decide +kernel) (pa_cons (pe_lc (own := [("word", 3)]) (g := gName 3) (tt := tYes) (by rfl) sc_s1_is_rule.nd (kpList (K := K) rfl (pe_slice (kSlL (K := K) rfl) (pv 2) (po_some pe_int) po_none)) (blkOk_by (own := [("word", 3)]) (N := N_s1_is_rule) (sc := defScope S_s1_is_rule) (by decide +kernel)) (fun _ _ _ _ _ => (pg_name (i := 3) sc_s1_is_rule.nd rfl (.inl rfl))) (fun _ _ _ _ _ => pts_nil) (fun _ _ _ _ _ => (pe_call (ok_s1_is_label (P := P) T) (hr.mono (by decide)) (by rfl) T.g_s1_is_label T.F_s1_is_label.kp T.b_s1_is_label .nil pass0 (pa_cons (pv 3) pa_nil)))) pa_nil)))))))
      pss_nil)
      (pss_one (ps_ret (pe_and (pe_callB (kAll (K := K) rfl rfl) (by rfl) T.n_all (by decide +kernel) (pa_cons (pe_lc (own := [("word", 3)]) (g := gName 3) (tt := tYes) (by rfl) sc_s1_is_rule.nd (kpList (K := K) rfl (pv 2)) (blkOk_by (own := [("word", 3)]) (N := N_s1_is_rule) (sc := defScope S_s1_is_rule) (by decide +kernel)) (fun _ _ _ _ _ => (pg_name (i := 3) sc_s1_is_rule.nd rfl (.inl rfl))) (fun _ _ _ _ _ => pts_nil) (fun _ _ _ _ _ => (pe_call (ok_s1_is_label (P := P) T) (hr.mono (by decide)) (by rfl) T.g_s1_is_label T.F_s1_is_label.kp T.b_s1_is_label .nil pass0 (pa_cons (pv 3) pa_nil)))) pa_nil)) (pe_one (pe_cmpR op_gt (pe_callB (kLen (K := K) rfl) (by rfl) T.n_len (by decide +kernel) (pa_cons (pv 2) pa_nil)) (pe_callTy call_int1 (by rfl) T.n_int (by decide +kernel) (pa_cons (pv 1) pa_nil)) (nomark _)))))))))), ?_⟩
  cases a with
  | inr B =>
    have hp : OddA K "str" B := hp
    show GoS [some B, none, none, none] [] _ _
    refine GoS.seq (GoS.ite (GoT.not (GoT.b (Go.cb (GoA.cons (Go.var rfl (GoA.cons (Go.c (GoA.nil (v_isiOdd hp ⟨false, rfl, ⟨fun _ => GoS.ret (Go.c ⟨rfl, rfl⟩), fun h => (by cases h)⟩⟩))))))))))
  | inl a =>
    have hp : a.length ≤ 70000 := hp
    show GoS [some (tx a), none, none, none] [] _ _
    have lw := rwords_len a
    have each : ∀ w ∈ rwords a, w.length ≤ 100000 := fun w h => Nat.le_trans (rwords_each h) (by omega)
    have eb : cut a (some (if [33].isPrefixOf a = true then (1 : Int) else 0)) none = rbody a := by
      have ei : (if [33].isPrefixOf a = true then (1 : Int) else 0) = ((if [33].isPrefixOf a = true then 1 else 0 : Nat) : Int) := by cases [33].isPrefixOf a <;> rfl
      rw [ei, cut_from]
      rfl
    obtain ⟨w0, r0, e0⟩ : ∃ w r, rwords a = w :: r := by
      cases e : rwords a with
      | nil => exact absurd e (rwords_ne a)
      | cons w r => exact ⟨w, r, rfl⟩
    have hd : (rwords a).head? = some w0 := by rw [e0]; rfl
    have at9 : atI ((rwords a).map tx) 0 = some (tx w0) := by rw [e0]; exact at0 _ _
    have ef : ruleB (.inl a) = isRule a := rfl
    unfold isRule at ef
    rw [hd] at ef
    walk_at "cj9"
    · rw [eb]; have := rlen a; omega
    rw [eb]
    show V2 [] (rIxL K) (lst K ((rwords a).map tx)) (it 0) _
    refine v_ixL at9 ?_
    have et : cut ((rwords a).map tx) (some 1) none = ((rwords a).tail).map tx := by rw [e0]; exact cut_from _ 1
    walk_at "cj9"
    · have e1 : w0 = [42] := of_decide_eq_true h
      rw [if_pos (by rw [e1])] at ef
      refine GoS.ret (Go.andVJ (p := !exc a) (q := decide ((rwords a).length > 1) && (rwords a).tail.all isLabel) ?_ (fun _ => ?_) ⟨(congrArg bo ef).symm, rfl⟩)
      · walk_at "cj9"
      · refine Go.andVJ (p := decide ((rwords a).length > 1)) (q := (rwords a).tail.all isLabel) ?_ (fun _ => ?_) ⟨rfl, rfl⟩
        · walk_at "cj9"
          show bo (decide ((1 : Int) < (((rwords a).map tx).length : Int))) = _
          rw [List.length_map]
          exact congrArg bo (decide_eq_decide.mpr (by omega))
        · refine Go.cb (GoA.cons ?_)
          walk_at "cj9"
          · exact each x (List.mem_of_mem_tail hx)
          · rw [List.length_tail]; omega
    · have e1 : ¬ w0 = [42] := of_decide_eq_false h
      rw [if_neg (fun z => e1 (Option.some.inj z))] at ef
      refine GoS.ret (Go.andVJ (p := (rwords a).all isLabel) (q := decide ((rwords a).length > if exc a = true then 1 else 0)) ?_ (fun _ => ?_) ⟨(congrArg bo ef).symm, rfl⟩)
      · walk_at "cj9"
        · exact each x hx
        · show (rwords a).length ≤ _; omega
      · walk_at "cj9"
        show bo (decide ((if exc a = true then (1 : Int) else 0) < (((rwords a).map tx).length : Int))) = _
        rw [List.length_map]
        have ei : (if exc a = true then (1 : Int) else 0) = ((if exc a = true then 1 else 0 : Nat) : Int) := by cases exc a <;> rfl
        rw [ei]
        exact congrArg bo (decide_eq_decide.mpr (by omega))
/-! ### need_rules -/
def rulesAns : List (List Nat ⊕ As) ⊕ As → Option As
  | .inl xs => (rulesBad xs).map fun i => it (i : Nat)
  | .inr _ => some no
abbrev rpRules (T : Txt K mg w) (a : List (List Nat ⊕ As) ⊕ As) (cls : Value) (fs : List (Str × As)) (O' : OO) : Prop := ∃ A, rulesAns a = some A ∧ cls = .ref T.C_BadRules ∧ fs = [(("index" : Str), A)] ∧ O' = []
abbrev sp_need_rules (T : Txt K mg w) : Sp := SpX (okTu K) (fun a => [tuA K a]) (fun _ => []) (fun a A O' => O' = [] ∧ rulesAns a = none ∧ A = no) (rpRules T)
def knA (kn : List (List Nat)) : List (Key × As) := kn.map fun r => (.inr (S r), bo true)
theorem knA_get : ∀ (kn : List (List Nat)) (l : List Nat), (getA (knA kn) (.inr (S l))).isSome = decide (l ∈ kn)
  | [], l => rfl
  | r :: kn, l => by
    have ih := knA_get kn l
    unfold getA at ih ⊢
    unfold knA at ih ⊢
    rw [List.map_cons, List.find?_cons]
    by_cases h : r = l
    · subst h
      simp
    · have h2 : ¬ ((Sum.inr (S r) : Key) = Sum.inr (S l)) := fun z => h (S_inj (Sum.inr.inj z))
      rw [decide_eq_false (by exact h2)]
      rw [show decide (l ∈ r :: kn) = decide (l ∈ kn) from decide_eq_decide.mpr ⟨fun m => (List.mem_cons.mp m).resolve_left fun z => h z.symm, List.mem_cons_of_mem _⟩]
      exact ih
theorem knA_put {kn : List (List Nat)} {l : List Nat} (h : l ∉ kn) : putA (knA kn) (.inr (S l)) (bo true) = knA (kn ++ [l]) := by
  have e : ((knA kn).any fun kv => decide (kv.1 = (Sum.inr (S l) : Key))) = false := by
    unfold knA
    rw [List.any_map, List.any_eq_false]
    intro r hr
    have h2 : ¬ ((Sum.inr (S r) : Key) = Sum.inr (S l)) := fun z => h (S_inj (Sum.inr.inj z) ▸ hr)
    simpa using h2
  unfold putA
  rw [if_neg (by rw [e]; exact Bool.false_ne_true)]
  unfold knA
  rw [List.map_append]
  rfl
theorem ok_need_rules (T : Txt K mg w) : FnOk P w K mg base (L2.CX P w) 3 T.f_need_rules T.d_need_rules ["rules"] (sp_need_rules T) := by
  refine fnx_sy T.F_need_rules sc_need_rules (fun _ _ => rfl) fun a cdv A outer s H E hr hp => ⟨_, (pss_cons (ps_if (pt_not (pt_val (pe_callB (kIsi (K := K) rfl) (by rfl) T.n_isinstance (by decide +kernel) (pa_cons (pv 0) (pa_cons (pe_bltn (v := .ty "tuple") (by rfl) T.n_tuple (by decide +kernel) rfl) pa_nil)))))
      (pss_one (ps_rz rfl takesD (ExS.pmk_ex (pn := "index") T.E_BadRules rfl rfl (IsP.eq (P := P)) (hr.mono (by decide)) rfl rfl rfl sci_BadRules (by decide +kernel) (by decide) (by decide) (by decide) (fun _ _ _ _ _ _ _ _ _ => rfl) (by rfl) (pa_cons pe_non pa_nil))))
      pss_nil)
      (pss_cons (ps_set (i := 1) sc_need_rules.nd rfl (.inl rfl) pe_dnewK)
      (pss_one (ps_for (passes_of rfl) rfl (ET.pi_en (K := K) rfl (by rfl) T.n_enumerate (pa_cons (pv 0) pa_nil)) (kgTup (K := K) (n := 2) rfl rfl (pgs_cons (pg_name (i := 2) sc_need_rules.nd rfl (.inl rfl)) (pgs_cons (pg_name (i := 3) sc_need_rules.nd rfl (.inl rfl)) pgs_nil)) rfl rfl)
      (pss_cons (ps_if (PW.pt (pw_or (pt_cmpR op_ge (pv 2) (pe_glob (v := .int (30)) (by rfl) T.c_MOST_RULES.choose_spec ⟨_, rfl⟩) (nomark _)) (pw_or (pt_not (pt_val (pe_call (ok_s1_is_rule (P := P) T) (hr.mono (by decide)) (by rfl) T.g_s1_is_rule T.F_s1_is_rule.kp T.b_s1_is_rule .nil pass0 (pa_cons (pv 3) pa_nil)))) (pw_or1 (pt_cmp (pc_din (hu_of hr) (pv 3) (pv 1)))))))
      (pss_one (ps_rz rfl takesD (ExS.pmk_ex (pn := "index") T.E_BadRules rfl rfl (IsP.eq (P := P)) (hr.mono (by decide)) rfl rfl rfl sci_BadRules (by decide +kernel) (by decide) (by decide) (by decide) (fun _ _ _ _ _ _ _ _ _ => rfl) (by rfl) (pa_cons (pv 2) pa_nil))))
      pss_nil)
      (pss_one (ps_dput (hu_of hr) (pv 1) (pv 3) pe_bl rfl))))))), ?_⟩
  cases a with
  | inr B =>
    have hp : OddA K "tuple" B := hp
    show GoSW _ _ [some B, none, none, none] [] _ _
    refine GoSW.seq (GoSW.ite (GoWT.up (GoT.not (GoT.b (Go.cb (GoA.cons (Go.var rfl (GoA.cons (Go.c (GoA.nil (v_isiOdd hp ⟨false, rfl, fun _ => ?_, fun h => (by cases h)⟩)))))))))))
    exact GoSW.raise (GoA.cons (Go.c (GoA.nil ⟨_, rfl, _, rfl, rfl, rfl, rfl⟩)))
  | inl xs =>
    obtain ⟨hl, hx⟩ := hp
    show GoSW _ _ [some (tup K (xs.map pA)), none, none, none] [] _ _
    refine GoSW.seq (GoSW.ite (GoWT.up (GoT.not (GoT.b (Go.cb (GoA.cons (Go.var rfl (GoA.cons (Go.c (GoA.nil (v_is_t_tuple ⟨true, rfl, fun h => (by cases h), fun _ => GoSW.up (GoS.nil ?_)⟩)))))))))))
    refine GoSW.seq (GoSW.setD 1 fun D => ?_)
    show GoSW _ _ [some (tup K (xs.map pA)), some (pt D), none, none] [(D, .od false [])] _ _
    refine GoSW.leX (GoSW.post (GoSW.for (GoI.enumT (GoA.cons (Go.var rfl (GoA.nil ⟨_, rfl, ?_⟩))))))
    refine ⟨fun i L' O' => ∃ B2 B3 kn, L' = [some (tup K (xs.map pA)), some (pt D), B2, B3] ∧ O' = [(D, .od false (knA kn))] ∧ kn.length = i ∧ rulesFrom kn i (xs.drop i) = rulesBad xs, ⟨_, _, [], rfl, rfl, rfl, rfl⟩, ?_, ?_⟩
    · rintro i A L' O' hA ⟨B2, B3, kn, rfl, rfl, hk, hJ⟩
      obtain ⟨x, ex, rfl⟩ : ∃ x, xs[i]? = some x ∧ A = tup K [it (i : Nat), pA x] := by
        obtain ⟨B, hB, rfl⟩ := enA_at hA
        rw [List.getElem?_map] at hB
        obtain ⟨x, h1, rfl⟩ := Option.map_eq_some_iff.mp hB
        exact ⟨x, h1, rfl⟩
      have hxm := hx x (List.mem_of_getElem? ex)
      have hi : i < xs.length := (List.getElem?_eq_some_iff.mp ex).1
      have ed : xs.drop i = x :: xs.drop (i + 1) := by
        rw [List.drop_eq_getElem_cons hi, (List.getElem?_eq_some_iff.mp ex).2]
      rw [ed] at hJ
      generalize hq : (match x with | Sum.inl l => decide (l ∈ kn) | Sum.inr _ => false) = q9
      refine GoG.tup rfl (GoGs.cons (GoG.name (GoGs.cons (GoG.name (GoGs.nil ?_)))))
      refine GoSW.seq (GoSW.ite (GoWT.up (GoT.orJ (p := decide (30 ≤ i)) (q := !ruleB x || q9) ?_ (fun _ => GoT.orJ (p := !ruleB x) (q := q9) ?_ (fun hr => ?_) ⟨rfl, rfl⟩) ⟨fun hb => ?_, fun hb => ?_⟩)))
      · walk_at "cj1"
        exact decide_eq_decide.mpr (by omega)
      · refine GoT.not (GoT.b (Go.callP (GoA.cons (Go.var rfl (GoA.nil ⟨x, ?_, hxm, ruleB x, rfl, rfl, rfl⟩)))))
        cases x <;> rfl
      · cases x with
        | inr B => cases hr
        | inl l =>
          subst hq
          walk_at "cj1"
          exact knA_get kn l
      · refine GoSW.raise (GoA.cons (Go.var rfl (GoA.nil ⟨_, rfl, [], FrLe.drop _, _, ?_, rfl, rfl, rfl⟩)))
        show (rulesBad xs).map _ = some (it (i : Nat))
        rw [← hJ]
        cases x with
        | inr B => rfl
        | inl l =>
          subst hq
          show ((if (decide (30 ≤ i) || (!isRule l || decide (l ∈ kn))) = true then some i else _ : Option Nat)).map _ = _
          rw [if_pos (show (decide (30 ≤ i) || (!isRule l || decide (l ∈ kn))) = true from hb)]
          rfl
      · cases x with
        | inr B => simp [ruleB] at hb
        | inl l =>
          subst hq
          have hJ2 : (if (decide (30 ≤ i) || (!isRule l || decide (l ∈ kn))) = true then some i else rulesFrom (kn ++ [l]) (i + 1) (xs.drop (i + 1))) = rulesBad xs := hJ
          have hb2 : (decide (30 ≤ i) || (!isRule l || decide (l ∈ kn))) = false := hb
          rw [if_neg (by rw [hb2]; exact Bool.false_ne_true)] at hJ2
          simp only [Bool.or_eq_false_iff, decide_eq_false_iff_not] at hb2
          refine GoSW.up (GoS.nil ?_)
          show GoSW _ _ [some (tup K (xs.map pA)), some (pt D), some (it (i : Nat)), some (tx l)] [(D, .od false (knA kn))] _ _
          refine GoSW.up (GoS.dput (Go.c (Go.var rfl (Go.var rfl ⟨false, D, knA kn, [], [], .inr (S l), rfl, rfl, rfl, ?_, ?_⟩))))
          · unfold knA
            rw [List.length_map]
            omega
          · exact ⟨_, _, kn ++ [l], rfl, by rw [← knA_put hb2.2.2]; rfl, by rw [List.length_append, hk]; rfl, hJ2⟩
    · rintro L' O' ⟨B2, B3, kn, rfl, rfl, hk, hJ⟩
      rw [List.drop_eq_nil_of_le (by rw [enA_len, List.length_map]; exact Nat.le_refl _)] at hJ
      refine ⟨[], FrLe.drop _, rfl, ?_, rfl⟩
      show (rulesBad xs).map _ = none
      rw [← hJ]
      rfl
theorem tuA_good {K : PySem.W.Frag} {r : List (List Nat ⊕ As) ⊕ As} (h : rulesAns r = none) (hk : okTu K r) : ∃ rs, r = .inl (rs.map Sum.inl) ∧ GoodR rs ∧ tuA K r = tup K (rs.map tx) := by
  cases r with
  | inr A => cases h
  | inl xs =>
    have h2 : rulesBad xs = none := Option.map_eq_none_iff.mp h
    obtain ⟨rs, rfl, G⟩ := rules_of h2 fun l hl => hk.2 _ hl
    refine ⟨rs, rfl, G, ?_⟩
    show tup K ((rs.map Sum.inl).map pA) = _
    rw [List.map_map]
    rfl
end
section
/-! good rules as written -/
theorem rules_as {K : PySem.W.Frag} {rs : List (List Nat)} : tuA K (.inl (rs.map Sum.inl)) = tup K (rs.map tx) := by
  show tup K ((rs.map Sum.inl).map pA) = _
  rw [List.map_map]
  rfl
theorem rules_okTu {K : PySem.W.Frag} {rs : List (List Nat)} (G : GoodR rs) : okTu K (.inl (rs.map Sum.inl)) := ⟨by rw [List.length_map]; have := G.len; omega, fun x hx => by
  obtain ⟨r, hr, rfl⟩ := List.mem_map.mp hx
  exact G.short r hr⟩
theorem rules_no {rs : List (List Nat)} (G : GoodR rs) : rulesAns (.inl (rs.map Sum.inl)) = none := by
  show (rulesBad (rs.map Sum.inl)).map _ = none
  rw [rules_good G]
  rfl
theorem inl_inj {rs rs' : List (List Nat)} (h : rs.map (Sum.inl : _ → List Nat ⊕ As) = rs'.map Sum.inl) : rs = rs' := by
  have := congrArg (List.map fun x : List Nat ⊕ As => match x with | .inl l => l | .inr _ => []) h
  rw [List.map_map, List.map_map] at this
  simpa [Function.comp_def] using this
end
section
variable {P : Program} {w : World} {K : PySem.W.Frag} {mg : Str → Option Value} {base : Heap} [IsP P]
/-! ### s1_matching -/
def nN (l : List Nat) : List As := l.map fun n => it (n : Nat)
theorem nN_snoc (l : List Nat) (n : Nat) : nN (l ++ [n]) = nN l ++ [it (n : Nat)] := by
  unfold nN
  rw [List.map_append]
  rfl
theorem okWord_in (w l : List Nat) : decide (w ∈ [[42], l]) = okWord w l := by
  unfold okWord
  rw [← Bool.decide_or]
  exact decide_eq_decide.mpr (by simp)
abbrev sp_s1_matching (K : PySem.W.Frag) : Sp := SpP (fun a : List (List Nat) × List (List Nat) => a.1.length ≤ 1000 ∧ a.2.length ≤ 1000 ∧ (∀ r ∈ a.1, r.length ≤ 70000) ∧ (∀ w ∈ a.2, w.length ≤ 70000) ∧ ∀ w ∈ a.2, Asc w) (fun a => [tup K (a.1.map tx), lst K (a.2.map tx)]) (fun a => tup K [lst K (nN (excs a.1 a.2)), lst K (nN (oths a.1 a.2))])
theorem ok_s1_matching (T : Txt K mg w) : FnOk P w K mg base CX0 1 T.f_s1_matching T.d_s1_matching ["rules", "labels"] (sp_s1_matching K) := by
  refine fn_sy T.F_s1_matching sc_s1_matching (fun _ _ => rfl) fun a cdv A outer s H E hr hp => ⟨_, (pss_cons (ps_par (by rfl) sc_s1_matching.nd (i := 2) (j := 3) rfl rfl (by decide) rfl rfl (pa_cons (pe_lst pa_nil) (pa_cons (pe_lst pa_nil) pa_nil)) (by rfl))
      (pss_cons (ps_for PassesOwn.never rfl (kpTup (K := K) rfl (pv 0)) (pg_name (i := 4) sc_s1_matching.nd rfl (.inl rfl))
      (pss_cons (ps_set (i := 5) sc_s1_matching.nd rfl (.inl rfl) (pe_m1 PySem.F.slot_str_startswith PySem.F.type_str_startswith mt_startswith (pv 4) pe_str))
      (pss_cons (ps_set (i := 6) sc_s1_matching.nd rfl (.inl rfl) (pe_split (pe_slice sl_str (pv 4) (po_some (pe_callTy call_int1 (by rfl) T.n_int (by decide +kernel) (pa_cons (pv 5) pa_nil))) po_none) pe_str))
      (pss_cons (ps_set (i := 7) sc_s1_matching.nd rfl (.inl rfl) (pe_ifExp (pt_cmpR op_le (pe_callB (kLen (K := K) rfl) (by rfl) T.n_len (by decide +kernel) (pa_cons (pv 6) pa_nil)) (pe_callB (kLen (K := K) rfl) (by rfl) T.n_len (by decide +kernel) (pa_cons (pv 1) pa_nil)) (nomark _)) (pe_slice (kSlL (K := K) rfl) (pv 1) (po_some (pe_op op_sub (pe_callB (kLen (K := K) rfl) (by rfl) T.n_len (by decide +kernel) (pa_cons (pv 1) pa_nil)) (pe_callB (kLen (K := K) rfl) (by rfl) T.n_len (by decide +kernel) (pa_cons (pv 6) pa_nil)))) po_none) (pe_lst pa_nil)))
      (pss_one (ps_if (PW.pt (pw_and (pt_cmpR (op_neE (K := K) rfl hr.units) (pv 7) (pe_lst pa_nil) (nomark _)) (pw_and1 (pt_val (pe_callB (kAll (K := K) rfl rfl) (by rfl) T.n_all (by decide +kernel) (pa_cons (pe_lc (own := [("word", 8), ("label", 9)]) (g := gTup K 2 (gCons (gName 8) (gCons (gName 9) gNil))) (tt := tYes) (by rfl) sc_s1_matching.nd (ZS.pi_zs (K := K) rfl (by rfl) T.n_zip (pa_cons (pv 6) (pa_cons (pv 7) pa_nil))) (blkOk_by (own := [("word", 8), ("label", 9)]) (N := N_s1_matching) (sc := defScope S_s1_matching) (by decide +kernel)) (fun _ _ _ _ _ => (kgTup (K := K) (n := 2) rfl rfl (pgs_cons (pg_name (i := 8) sc_s1_matching.nd rfl (.inl rfl)) (pgs_cons (pg_name (i := 9) sc_s1_matching.nd rfl (.inl rfl)) pgs_nil)) rfl rfl)) (fun _ _ _ _ _ => pts_nil) (fun _ _ _ _ _ => (pe_cmpR (kIn (K := K) rfl) (pv 8) (pe_tup (pa_cons pe_str (pa_cons (pv 9) pa_nil))) (by rfl)))) pa_nil))))))
      (pss_one (ps_expr (kBm (K := K) rfl PySem.F.plainAttrs_list PySem.F.slot_list_append PySem.F.type_list_append mt_append (pe_ifExp (pt_val (pv 5)) (pv 2) (pv 3)) (pa_cons (pe_callB (kLen (K := K) rfl) (by rfl) T.n_len (by decide +kernel) (pa_cons (pv 6) pa_nil)) pa_nil))))
      pss_nil))))))
      (pss_one (ps_ret (pe_tup (pa_cons (pv 2) (pa_cons (pv 3) pa_nil))))))), ?_⟩
  obtain ⟨rs, ws⟩ := a
  obtain ⟨h1, h2, h3, h5, h4⟩ := hp
  dsimp only at h1 h2 h3 h4 h5
  refine GoS.seq (GoS.par (GoA.cons (Go.lstO (GoA.nil ⟨Nat.zero_le _, fun e => GoA.cons (Go.lstO (GoA.nil ⟨Nat.zero_le _, fun o => GoA.nil ⟨_, _, rfl, ?_⟩⟩))⟩))))
  show GoS [some (tup K (rs.map tx)), some (lst K (ws.map tx)), some (pt e), some (pt o), none, none, none, none, none, none] [(e, .ol []), (o, .ol [])] _ _
  refine GoS.seq (GoS.forE [4, 5, 6, 7, 8, 9] (GoI.ofT (Go.var rfl ⟨_, rfl, ?_⟩)) fun L' O' h => GoS.weak [4, 5, 6, 7, 8, 9] rfl h)
  refine ⟨[some (tup K (rs.map tx)), some (lst K (ws.map tx)), some (pt e), some (pt o), none, none, none, none, none, none], fun i O' => O' = [(e, .ol (nN (excs (rs.take i) ws))), (o, .ol (nN (oths (rs.take i) ws)))], rfl, rfl, ?_, ?_⟩
  · rintro i A O' hA rfl
    rw [List.getElem?_map] at hA
    obtain ⟨r, er, rfl⟩ := Option.map_eq_some_iff.mp hA
    have mr := List.mem_of_getElem? er
    have lr := h3 r mr
    have e1 : rs.take (i + 1) = rs.take i ++ [r] := by rw [List.take_add_one, er]; rfl
    have skip : matchR r ws = false → excs (rs.take (i + 1)) ws = excs (rs.take i) ws ∧ oths (rs.take (i + 1)) ws = oths (rs.take i) ws := fun h => by
      rw [e1, excs_snoc, oths_snoc, h, Bool.and_false, Bool.and_false]
      exact ⟨List.append_nil _, List.append_nil _⟩
    have lw := rwords_len r
    have eb : cut r (some (if [33].isPrefixOf r = true then (1 : Int) else 0)) none = rbody r := by
      have ei : (if [33].isPrefixOf r = true then (1 : Int) else 0) = ((if [33].isPrefixOf r = true then 1 else 0 : Nat) : Int) := by cases [33].isPrefixOf r <;> rfl
      rw [ei, cut_from]
      rfl
    have lx := excs_len (rs.take i) ws
    have lo := oths_len (rs.take i) ws
    rw [List.length_take] at lx lo
    refine GoG.name ?_
    walk_at "cj5"
    · rw [eb]; have := rlen r; omega
    · have k1 : (rwords r).length ≤ ws.length := by
        have := of_decide_eq_true h
        rw [List.length_map, List.length_map, eb] at this
        have e : parts 46 (rbody r) = rwords r := rfl
        rw [e] at this
        omega
      rw [eb]
      have ek : cut (ws.map tx) (some ((((ws.map tx).length : Int)) - (((rwords r).map tx).length : Int))) none = (ws.drop (ws.length - (rwords r).length)).map tx := by
        rw [List.length_map, List.length_map, show (ws.length : Int) - ((rwords r).length : Int) = ((ws.length - (rwords r).length : Nat) : Int) by omega, cut_from, List.map_drop]
      have hm9 : matchR r ws = ((rwords r).zip (ws.drop (ws.length - (rwords r).length))).all fun p => okWord p.1 p.2 := by
        unfold matchR
        rw [decide_eq_true k1, Bool.true_and]
      have e9 : parts 46 (rbody r) = rwords r := rfl
      rw [e9, ek]
      have ld : (ws.drop (ws.length - (rwords r).length)).length = (rwords r).length := by rw [List.length_drop]; omega
      generalize ws.drop (ws.length - (rwords r).length) = tl at hm9 ld
      have npos : 1 ≤ (rwords r).length := List.length_pos_iff.mpr (rwords_ne r)
      show GoS [some (tup K (rs.map tx)), some (lst K (ws.map tx)), some (pt e), some (pt o), some (tx r), some (bo (exc r)), some (lst K ((rwords r).map tx)), some (lst K (tl.map tx)), none, none] _ _ _
      refine GoS.ite (GoT.andJ (p := true) (q := matchR r ws) ?_ (fun _ => ?_) ⟨fun hm => ?_, fun hm => GoS.nil ⟨rfl, ?_⟩⟩)
      · walk_at "cj5"
        cases tl with
        | nil => rw [← ld] at npos; cases npos
        | cons a b => rfl
      · refine GoT.b (Go.cb (GoA.cons (Go.lcM2 (K := K) (by decide) (l := (rwords r).zip tl) (f := fun p => tx p.1) (g := fun p => tx p.2) (B := fun p => bo (okWord p.1 p.2)) (GoI.zipS (GoA.cons (Go.var rfl (GoA.cons (Go.var rfl (GoA.nil ⟨_, _, rfl, ?_, rfl, ?_⟩)))))) (fun x hx R9 => ?_) ?_ (GoA.nil (v_all ⟨_, rfl, hm9.symm, rfl⟩)))))
        · rw [List.length_map, List.length_map, ld]
        · rw [List.zip_map, List.map_map]
          rfl
        · walk_at "cj5"
          exact congrArg bo (okWord_in x.1 x.2)
        · rw [List.length_zip]
          omega
      · have hm : matchR r ws = true := by rw [Bool.true_and] at hm; exact hm
        refine GoS.drop (Go.bm (Go.ite (GoT.b (Go.var rfl ⟨exc r, rfl, fun hx => ?_, fun hx => ?_⟩))))
        · refine Go.var rfl ⟨ty_o (pre := []), GoA.cons (Go.cb (GoA.cons (Go.var rfl (GoA.nil (v_lenL (GoA.nil ?_))))))⟩
          refine v_append (pre := []) ?_ ⟨rfl, ?_⟩
          · unfold nN; rw [List.length_map]; omega
          · dsimp only
            rw [e1, excs_snoc, oths_snoc, hm, hx]
            simp [nN_snoc]
        · refine Go.var rfl ⟨ty_o (pre := [_]), GoA.cons (Go.cb (GoA.cons (Go.var rfl (GoA.nil (v_lenL (GoA.nil ?_))))))⟩
          refine v_append (pre := [_]) ?_ ⟨rfl, ?_⟩
          · unfold nN; rw [List.length_map]; omega
          · dsimp only
            rw [e1, excs_snoc, oths_snoc, hm, hx]
            simp [nN_snoc]
      · rw [Bool.true_and] at hm
        dsimp only
        rw [(skip hm).1, (skip hm).2]
    · have k1 : ¬ (rwords r).length ≤ ws.length := by
        have := of_decide_eq_false h
        rw [List.length_map, List.length_map, eb] at this
        have e : parts 46 (rbody r) = rwords r := rfl
        rw [e] at this
        omega
      have hm : matchR r ws = false := by
        unfold matchR
        rw [decide_eq_false k1, Bool.false_and]
      refine GoS.ite (GoT.andJ (p := false) (q := false) ?_ (fun z => (by cases z)) ⟨fun z => (by cases z), fun _ => GoS.nil ⟨rfl, ?_⟩⟩)
      · walk_at "cj5"
      · dsimp only
        rw [(skip hm).1, (skip hm).2]
  · rintro O' rfl
    refine GoS.ret (Go.tup (K := K) (GoA.cons (Go.frz (K := K) (Go.var rfl ⟨e, _, [], _, rfl, rfl, GoA.cons (Go.frz (K := K) (Go.var rfl ⟨o, _, [], [], rfl, rfl, GoA.nil ⟨Nat.le_of_ble_eq_true rfl, ?_, rfl⟩⟩))⟩))))
    rw [List.length_map, List.take_length]
/-! ### s1_suffix -/
theorem label_asc0 {w : List Nat} (h : isLabel w = true) : Asc w := fun c hc => by
  unfold isLabel at h
  rw [Bool.and_eq_true] at h
  have h1 := List.all_eq_true.mp h.2 c hc
  have h2 : ∀ c ∈ lc_LABEL_SIGNS, c < 128 := by decide +kernel
  exact h2 c (of_decide_eq_true h1)
theorem host_asc0 {l : List Nat} (h : isHost l = true) : ∀ w ∈ parts 46 l, Asc w := fun w hw => label_asc0 (List.all_eq_true.mp (isHost_len h).2.2.1 w hw)
/-- what suffix_of tells of a host -/
def sufA (rs : List (List Nat)) (l : List Nat) : As := if isAddr l = true then no else tx (sufT rs l)
abbrev sp_s1_suffix (K : PySem.W.Frag) : Sp := SpP (fun a : List (List Nat) × List Nat => GoodR a.1 ∧ isHost a.2 = true) (fun a => [tup K (a.1.map tx), tx a.2]) (fun a => sufA a.1 a.2)
theorem ok_s1_suffix (T : Txt K mg w) : FnOk P w K mg base CX0 4 T.f_s1_suffix T.d_s1_suffix ["rules", "host"] (sp_s1_suffix K) := by
  refine fn_sy T.F_s1_suffix sc_s1_suffix (fun _ _ => rfl) fun a cdv A outer s H E hr hp => ⟨_, (pss_cons (ps_if (pt_val (pe_call (ok_is_address_host (P := P) T) (hr.mono (by decide)) (by rfl) T.g_is_address_host T.F_is_address_host.kp T.b_is_address_host .nil pass0 (pa_cons (pv 1) pa_nil)))
      (pss_one (ps_ret pe_non))
      pss_nil)
      (pss_cons (ps_set (i := 2) sc_s1_suffix.nd rfl (.inl rfl) (pe_split (pv 1) pe_str))
      (pss_cons (ps_asg (pe_call (ok_s1_matching (P := P) T) (hr.mono (by decide)) (by rfl) T.g_s1_matching T.F_s1_matching.kp T.b_s1_matching .nil pass0 (pa_cons (pv 0) (pa_cons (pv 2) pa_nil))) (kgTup (K := K) (n := 2) rfl rfl (pgs_cons (pg_name (i := 3) sc_s1_suffix.nd rfl (.inl rfl)) (pgs_cons (pg_name (i := 4) sc_s1_suffix.nd rfl (.inl rfl)) pgs_nil)) rfl rfl))
      (pss_cons (ps_set (i := 5) sc_s1_suffix.nd rfl (.inl rfl) (pe_ifExp (pt_cmpR (op_neE (K := K) rfl hr.units) (pv 3) (pe_lst pa_nil) (nomark _)) (pe_op op_sub (pe_callB (kMax (K := K) rfl rfl) (by rfl) T.n_max (by decide +kernel) (pa_cons (pv 3) pa_nil)) pe_int) (pe_callBK (MD.cr_md (K := K) rfl rfl) (by rfl) T.n_max (by decide +kernel) (pa_cons (pv 4) pa_nil) (pk_cons pe_int pk_nil))))
      (pss_one (ps_ret (pe_m1 PySem.F.slot_str_join PySem.F.type_str_join (kJoin (K := K) rfl) pe_str (pe_slice (kSlL (K := K) rfl) (pv 2) (po_some (pe_op op_sub (pe_callB (kLen (K := K) rfl) (by rfl) T.n_len (by decide +kernel) (pa_cons (pv 2) pa_nil)) (pv 5))) po_none)))))))), ?_⟩
  obtain ⟨rs, l⟩ := a
  obtain ⟨G, hl⟩ := hp
  dsimp only at G hl
  have hh := isHost_len hl
  have lpos := parts_pos 46 l
  have lm := many_le (rs := rs) lpos
  have mp := many_pos (ws := parts 46 l) G
  show GoS [some (tup K (rs.map tx)), some (tx l), none, none, none, none] [] _ _
  refine GoS.seq (GoS.ite (GoT.b (Go.callP (GoA.cons (Go.var rfl (GoA.nil ⟨.inl l, rfl, by show l.length ≤ 70000; omega, isAddr l, rfl, fun h => ?_, fun h => ?_⟩))))))
  · refine GoS.ret (Go.c ⟨?_, rfl⟩)
    show no = sufA rs l
    unfold sufA
    rw [if_pos h]
  · have ea : sufA rs l = tx (sufT rs l) := by
      unfold sufA
      rw [if_neg (by rw [h]; exact Bool.false_ne_true)]
    have e46 : ∀ w ∈ parts 46 l, w.length ≤ 70000 := fun w hw => by have := parts_each 46 w hw; omega
    refine GoS.nil ?_
    show GoS [some (tup K (rs.map tx)), some (tx l), none, none, none, none] [] _ _
    refine GoS.seq (GoS.set (Go.m1 (Go.var rfl ⟨⟨_, rfl⟩, Go.cS lith_2e (v_split (K := K) (by decide) (Nat.le_trans hh.1 (by decide)) ?_)⟩)))
    show GoS [some (tup K (rs.map tx)), some (tx l), some (lst K ((parts 46 l).map tx)), none, none, none] [] _ _
    refine GoS.seq ?_
    refine GoS.asg (Go.callP (GoA.cons (Go.var rfl (GoA.cons (Go.var rfl (GoA.nil ⟨(rs, parts 46 l), rfl, ⟨by have := G.len; show rs.length ≤ 1000; omega, by show (parts 46 l).length ≤ 1000; omega, G.short, e46, host_asc0 hl⟩, ?_⟩))))))
    refine GoG.tup rfl (GoGs.cons (GoG.name (GoGs.cons (GoG.name (GoGs.nil ?_)))))
    show GoS [some (tup K (rs.map tx)), some (tx l), some (lst K ((parts 46 l).map tx)), some (lst K (nN (excs rs (parts 46 l)))), some (lst K (nN (oths rs (parts 46 l)))), none] [] _ _
    refine GoS.seq (GoS.mid (fun L' O' => L' = [some (tup K (rs.map tx)), some (tx l), some (lst K ((parts 46 l).map tx)), some (lst K (nN (excs rs (parts 46 l)))), some (lst K (nN (oths rs (parts 46 l)))), some (it (many rs (parts 46 l) : Nat))] ∧ O' = []) (GoS.set (Go.ite (GoT.test (Go.op (Go.var rfl (Go.lst (K := K) (GoA.nil ⟨Nat.zero_le _, v_neE ⟨_, rfl, fun h => ?_, fun h => ?_⟩⟩))))))) ?_)
    · have hne : excs rs (parts 46 l) ≠ [] := fun z => by rw [z] at h; cases h
      refine Go.op (Go.cb (GoA.cons (Go.var rfl (GoA.nil ?_))))
      rw [show nN (excs rs (parts 46 l)) = (zs (excs rs (parts 46 l))).map it by unfold nN zs; rw [List.map_map]; rfl]
      refine v_maxN (fun z => hne (List.map_eq_nil_iff.mp z)) fun m hm1 hm2 => Go.c (v_subI ⟨?_, rfl⟩)
      have em : m = (maxL (excs rs (parts 46 l)) : Nat) := maxL_is hm1 hm2
      have h4 : 1 ≤ maxL (excs rs (parts 46 l)) := by
        have h3 := maxL_mem hne
        unfold excs at h3
        obtain ⟨r, hr, e⟩ := List.mem_map.mp h3
        have := parts_pos 46 (rbody r)
        have e5 : (parts 46 (rbody r)).length = maxL (excs rs (parts 46 l)) := e
        omega
      have e2 : m - 1 = ((many rs (parts 46 l) : Nat) : Int) := by
        unfold many
        rw [if_neg hne, em]
        omega
      rw [e2]
      rfl
    · have hnil : excs rs (parts 46 l) = [] := by
        cases e : excs rs (parts 46 l) with
        | nil => rfl
        | cons a b => rw [e] at h; cases h
      refine Go.maxD (K := K) (GoA.cons (Go.var rfl (GoA.nil ⟨zs (oths rs (parts 46 l)), ?_, GoA.cons (Go.c (GoA.nil ⟨1, rfl, fun m hm => ⟨?_, rfl⟩⟩))⟩)))
      · unfold nN zs
        rw [List.map_map]
        rfl
      have em : m = ((many rs (parts 46 l) : Nat) : Int) := by
        unfold many
        rw [if_pos hnil]
        rcases hm with ⟨h3, rfl⟩ | ⟨h3, h4⟩
        · have h5 : oths rs (parts 46 l) = [] := List.map_eq_nil_iff.mp h3
          rw [if_pos h5]
          rfl
        · rw [if_neg (fun z => by rw [z] at h3; cases h3)]
          exact maxL_is h3 h4
      rw [em]
      rfl
    · rintro _ _ ⟨rfl, rfl⟩
      have ek : cut ((parts 46 l).map tx) (some ((((parts 46 l).map tx).length : Int) - ((many rs (parts 46 l) : Nat) : Int))) none = ((parts 46 l).drop ((parts 46 l).length - many rs (parts 46 l))).map tx := by
        rw [List.length_map, show ((parts 46 l).length : Int) - ((many rs (parts 46 l) : Nat) : Int) = (((parts 46 l).length - many rs (parts 46 l) : Nat) : Int) by omega, cut_from, List.map_drop]
      have lj := join_drop_len 46 (parts 46 l) ((parts 46 l).length - many rs (parts 46 l))
      rw [join_parts] at lj
      refine GoS.ret (Go.m1 (Go.cS lith_2e ⟨⟨_, rfl⟩, Go.sl (Go.var rfl (GoO.part (Go.op (Go.cb (GoA.cons (Go.var rfl (GoA.nil (v_lenL (Go.var rfl (v_subI ⟨_, rfl, GoO.none ?_⟩))))))))))⟩))
      refine v_slL ?_
      rw [ek]
      refine v_join ?_ ⟨ea.symm, rfl⟩
      have := sumR_le (c := 100) (ws := (parts 46 l).drop ((parts 46 l).length - many rs (parts 46 l))) fun w hw => Nat.le_trans (parts_each 46 w (List.mem_of_mem_drop hw)) hh.1
      rw [List.length_drop] at this ⊢
      simp only [List.length_singleton]
      omega
/-! ### s1_family -/
abbrev sp_s1_family (K : PySem.W.Frag) : Sp := SpP (fun a : List (List Nat) × List Nat => GoodR a.1 ∧ isHost a.2 = true) (fun a => [tup K (a.1.map tx), tx a.2]) (fun a => tx (famT a.1 a.2))
theorem ok_s1_family (T : Txt K mg w) : FnOk P w K mg base CX0 5 T.f_s1_family T.d_s1_family ["rules", "host"] (sp_s1_family K) := by
  refine fn_sy T.F_s1_family sc_s1_family (fun _ _ => rfl) fun a cdv A outer s H E hr hp => ⟨_, (pss_cons (ps_set (i := 2) sc_s1_family.nd rfl (.inl rfl) (pe_call (ok_s1_suffix (P := P) T) (hr.mono (by decide)) (by rfl) T.g_s1_suffix T.F_s1_suffix.kp T.b_s1_suffix .nil pass0 (pa_cons (pv 0) (pa_cons (pv 1) pa_nil))))
      (pss_cons (ps_if (PW.pt (pw_or (pt_cmpR op_isN (pv 2) pe_non (nomark _)) (pw_or1 (pt_cmpR op_eq (pv 2) (pv 1) (nomark _)))))
      (pss_one (ps_ret (pv 1)))
      pss_nil)
      (pss_one (ps_ret (pe_m1 PySem.F.slot_str_join PySem.F.type_str_join (kJoin (K := K) rfl) pe_str (pe_slice (kSlL (K := K) rfl) (pe_split (pv 1) pe_str) (po_some (pe_op op_sub (pe_un un_neg (pe_m1 PySem.F.slot_str_count PySem.F.type_str_count mt_count (pv 2) pe_str)) pe_int)) po_none)))))), ?_⟩
  obtain ⟨rs, l⟩ := a
  obtain ⟨G, hl⟩ := hp
  dsimp only at G hl
  have hh := isHost_len hl
  have lpos := parts_pos 46 l
  have lm := many_le (rs := rs) lpos
  have mp := many_pos (ws := parts 46 l) G
  show GoS [some (tup K (rs.map tx)), some (tx l), none] [] _ _
  refine GoS.seq (GoS.set (Go.callP (GoA.cons (Go.var rfl (GoA.cons (Go.var rfl (GoA.nil ⟨(rs, l), rfl, ⟨G, hl⟩, ?_⟩)))))))
  show GoS [some (tup K (rs.map tx)), some (tx l), some (sufA rs l)] [] _ _
  by_cases h1 : isAddr l = true
  · have es : sufA rs l = no := by unfold sufA; rw [if_pos h1]
    have ef : famT rs l = l := by unfold famT; rw [if_pos h1]
    rw [es]
    refine GoS.seq (GoS.ite (GoT.or (GoT.test (Go.op (Go.var rfl (Go.c (v_isN ⟨true, rfl, ⟨fun _ => ⟨fun _ => ?_, fun h => (by cases h)⟩, fun h => (by cases h)⟩⟩)))))))
    exact GoS.ret (Go.var rfl ⟨congrArg tx ef.symm, rfl⟩)
  · have es : sufA rs l = tx (sufT rs l) := by unfold sufA; rw [if_neg h1]
    have ef : famT rs l = TL.joinL [46] ((parts 46 l).drop ((parts 46 l).length - famN rs (parts 46 l))) := by unfold famT; rw [if_neg h1]
    have eq9 : (sufT rs l = l) ↔ many rs (parts 46 l) = (parts 46 l).length := by
      constructor
      · intro z
        have z2 := congrArg (parts 46) z
        unfold sufT at z2
        rw [parts_drop hl (by omega)] at z2
        have z3 := congrArg List.length z2
        rw [List.length_drop] at z3
        omega
      · intro z
        unfold sufT
        rw [z, Nat.sub_self, List.drop_zero, join_parts]
    rw [es]
    refine GoS.seq (GoS.ite (GoT.orJ (p := false) (q := decide (sufT rs l = l)) (GoT.test (Go.op (Go.var rfl (Go.c (v_isNN (fun G v h z => by rw [show v = V.str (S (sufT rs l)) from h] at z; cases z) ⟨_, rfl, rfl, rfl⟩))))) (fun _ => GoT.test (Go.op (Go.var rfl (Go.var rfl (v_eqS ⟨_, rfl, rfl, rfl⟩))))) ⟨fun h => ?_, fun h => GoS.nil ?_⟩))
    · have e2 : sufT rs l = l := of_decide_eq_true h
      have e3 := eq9.mp e2
      refine GoS.ret (Go.var rfl ⟨?_, rfl⟩)
      show tx l = tx (famT rs l)
      rw [ef]
      unfold famN
      rw [if_pos e3, Nat.sub_self, List.drop_zero, join_parts]
    · have e2 : ¬ sufT rs l = l := of_decide_eq_false h
      have e3 : ¬ many rs (parts 46 l) = (parts 46 l).length := fun z => e2 (eq9.mpr z)
      have e4 : famN rs (parts 46 l) = many rs (parts 46 l) + 1 := by
        unfold famN
        rw [if_neg e3]
      have ps : (parts 46 (sufT rs l)).length = many rs (parts 46 l) := by
        unfold sufT
        rw [parts_drop hl (by omega), List.length_drop]
        omega
      have ek : cut ((parts 46 l).map tx) (some (-(((parts 46 (sufT rs l)).length : Int) - 1) - 2)) none = ((parts 46 l).drop ((parts 46 l).length - (many rs (parts 46 l) + 1))).map tx := by
        rw [ps, show -(((many rs (parts 46 l) : Nat) : Int) - 1) - 2 = -((many rs (parts 46 l) + 1 : Nat) : Int) by omega, cut_neg _ (by omega) (by rw [List.length_map]; omega), List.length_map, List.map_drop]
      show GoS _ _ _ _
      refine GoS.ret (Go.m1 (Go.cS lith_2e ⟨⟨_, rfl⟩, Go.sl (Go.m1 (Go.var rfl ⟨⟨_, rfl⟩, Go.cS lith_2e (v_split (K := K) (by decide) (Nat.le_trans hh.1 (by decide)) (GoO.part (Go.op (Go.un (Go.m1 (Go.var rfl ⟨⟨_, rfl⟩, Go.cS lith_2e (v_count1 (v_rU (Go.c (v_subI ⟨_, rfl, GoO.none ?_⟩))))⟩))))))⟩))⟩))
      refine v_slL ?_
      rw [ek]
      refine v_join ?_ ⟨?_, rfl⟩
      · have := sumR_le (c := 100) (ws := (parts 46 l).drop ((parts 46 l).length - (many rs (parts 46 l) + 1))) fun w hw => Nat.le_trans (parts_each 46 w (List.mem_of_mem_drop hw)) hh.1
        rw [List.length_drop] at this ⊢
        simp only [List.length_singleton]
        omega
      · rw [← e4]
        exact congrArg tx ef.symm
/-! ### need_both -/
/-- rules, then a host: what is wrong first -/
def rpBoth (T : Txt K mg w) (a : (List (List Nat ⊕ As) ⊕ As) × (List Nat ⊕ As)) (cls : Value) (fs : List (Str × As)) (O' : OO) : Prop := rpRules T a.1 cls fs O' ∨ rulesAns a.1 = none ∧ rpHostB T a.2 cls fs O'
def txA : List Nat ⊕ As → As
  | .inl l => tx l
  | .inr A => A
theorem txA_eq (a : List Nat ⊕ As) : txo a = [txA a] := by cases a <;> rfl
abbrev okBoth (K : PySem.W.Frag) (a : (List (List Nat ⊕ As) ⊕ As) × (List Nat ⊕ As)) : Prop := okTu K a.1 ∧ okText K a.2
abbrev sp_need_both (T : Txt K mg w) : Sp := SpX (okBoth K) (fun a => [tuA K a.1, txA a.2]) (fun _ => []) (fun a A O' => O' = [] ∧ rulesAns a.1 = none ∧ hostB a.2 = true ∧ A = no) (rpBoth T)
theorem ok_need_both (T : Txt K mg w) : FnOk P w K mg base (L2.CX P w) 7 T.f_need_both T.d_need_both ["rules", "host"] (sp_need_both T) := by
  refine fnx_sy T.F_need_both sc_need_both (fun _ _ => rfl) fun a cdv A outer s H E hr hp => ⟨_, (pss_cons (ps_expr (pe_callS (ok_need_rules (P := P) T) (hr.mono (by decide)) (by rfl) T.g_need_rules T.F_need_rules.kp T.b_need_rules (fun σ => passAt takesD σ) (pa_cons (pv 0) pa_nil)))
      (pss_one (ps_expr (pe_callS (ok_need_host (P := P) T) (hr.mono (by decide)) (by rfl) T.g_need_host T.F_need_host.kp T.b_need_host (fun σ => passAt takesD σ) (pa_cons (pv 1) pa_nil))))), ?_⟩
  obtain ⟨r, h⟩ := a
  obtain ⟨h1, h2⟩ := hp
  dsimp only at h1 h2
  show GoSW _ _ [some (tuA K r), some (txA h)] [] _ _
  refine GoSW.seq (GoSW.drop (GoW.call (fun _ _ h => nomatch h) (GoWA.up (GoA.cons (Go.var rfl (GoA.nil ⟨r, [], rfl, rfl, h1, fun cls fs O' q => ?_, fun A O' q => ?_⟩))))))
  · rw [List.append_nil]; exact .inl q
  obtain ⟨rfl, e1, rfl⟩ := q
  refine GoSW.drop (GoW.call (fun _ _ h => nomatch h) (GoWA.up (GoA.cons (Go.var rfl (GoA.nil ⟨h, [], (txA_eq h).symm, rfl, h2, fun cls fs O' q => ?_, fun A O' q => ?_⟩)))))
  · rw [List.append_nil]; exact .inr ⟨e1, q⟩
  · obtain ⟨rfl, e2, rfl⟩ := q
    exact ⟨rfl, e1, e2, rfl⟩
/-! ### family_of -/
abbrev sp_family_of (T : Txt K mg w) : Sp := SpX (okBoth K) (fun a => [tuA K a.1, txA a.2]) (fun _ => []) (fun a A O' => O' = [] ∧ ∃ rs l, a = (.inl (rs.map Sum.inl), .inl l) ∧ GoodR rs ∧ isHost l = true ∧ A = tx (famT rs l)) (rpBoth T)
theorem ok_family_of (T : Txt K mg w) : FnOk P w K mg base (L2.CX P w) 8 T.f_family_of T.d_family_of ["rules", "host"] (sp_family_of T) := by
  refine fnx_sy T.F_family_of sc_family_of (fun _ _ => rfl) fun a cdv A outer s H E hr hp => ⟨_, (pss_cons (ps_expr (pe_callS (ok_need_both (P := P) T) (hr.mono (by decide)) (by rfl) T.g_need_both T.F_need_both.kp T.b_need_both (fun σ => passAt takesD σ) (pa_cons (pv 0) (pa_cons (pv 1) pa_nil))))
      (pss_one (ps_ret (pe_call (ok_s1_family (P := P) T) (hr.mono (by decide)) (by rfl) T.g_s1_family T.F_s1_family.kp T.b_s1_family .nil pass0 (pa_cons (pv 0) (pa_cons (pv 1) pa_nil)))))), ?_⟩
  obtain ⟨r, h⟩ := a
  show GoSW _ _ [some (tuA K r), some (txA h)] [] _ _
  refine GoSW.seq (GoSW.drop (GoW.call (fun _ _ h => nomatch h) (GoWA.up (GoA.cons (Go.var rfl (GoA.cons (Go.var rfl (GoA.nil ⟨(r, h), [], rfl, rfl, hp, fun cls fs O' q => ?_, fun A O' q => ?_⟩))))))))
  · rw [List.append_nil]; exact q
  obtain ⟨rfl, e1, e2, rfl⟩ := q
  obtain ⟨rs, rfl, G, et⟩ := tuA_good e1 hp.1
  obtain ⟨l, rfl, hl⟩ := txA_host e2
  refine GoSW.up (GoS.ret (Go.callP (GoA.cons (Go.var rfl (GoA.cons (Go.var rfl (GoA.nil ⟨(rs, l), ?_, ⟨G, hl⟩, rfl, rs, l, rfl, G, hl, rfl⟩)))))))
  rw [et]
  rfl
/-! ### s3_prefix -/
abbrev pSecure : List Nat := [95, 95, 115, 101, 99, 117, 114, 101, 45]
abbrev pHost : List Nat := [95, 95, 104, 111, 115, 116, 45]
/-- the prefix of a name, or of the value of a crumb without a name -/
def prefT (n v : List Nat) : List Nat := if pSecure.isPrefixOf (small (if n = [] then v else n)) = true then pSecure else if pHost.isPrefixOf (small (if n = [] then v else n)) = true then pHost else []
theorem pref_head (m : List Nat) : (([pSecure, pHost].filter fun p => p.isPrefixOf m) = [] ∧ pSecure.isPrefixOf m = false ∧ pHost.isPrefixOf m = false) ∨ ∃ p r, ([pSecure, pHost].filter fun p => p.isPrefixOf m) = p :: r ∧ p = if pSecure.isPrefixOf m = true then pSecure else if pHost.isPrefixOf m = true then pHost else [] := by
  cases h1 : pSecure.isPrefixOf m <;> cases h2 : pHost.isPrefixOf m <;> simp [List.filter_cons, h1, h2]
theorem prefT_in (n v : List Nat) : prefT n v = pSecure ∨ prefT n v = pHost ∨ prefT n v = [] := by
  unfold prefT
  generalize small (if n = [] then v else n) = m
  cases pSecure.isPrefixOf m
  · cases pHost.isPrefixOf m
    · exact .inr (.inr rfl)
    · exact .inr (.inl rfl)
  · exact .inl rfl
abbrev sp_s3_prefix (K : PySem.W.Frag) : Sp := SpP (fun a : List Nat × List Nat => a.1.length ≤ 70000 ∧ a.2.length ≤ 70000) (fun a => [tx a.1, tx a.2]) (fun a => tx (prefT a.1 a.2))
theorem ok_s3_prefix (T : Txt K mg w) : FnOk P w K mg base CX0 2 T.f_s3_prefix T.d_s3_prefix ["name", "value"] (sp_s3_prefix K) := by
  refine fn_sy T.F_s3_prefix sc_s3_prefix (fun _ _ => rfl) fun a cdv A outer s H E hr hp => ⟨_, (pss_cons (ps_set (i := 2) sc_s3_prefix.nd rfl (.inr rfl) (pe_call (ok_small_text (P := P) T) (hr.mono (by decide)) (by rfl) T.g_small_text T.F_small_text.kp T.b_small_text .nil pass0 (pa_cons (pe_ifExp (pt_cmpR op_eq (pv 0) pe_str (nomark _)) (pv 1) (pv 0)) pa_nil)))
      (pss_cons (ps_setLc (i := 3) (own := [("prefix", 4)]) (g := gName 4) (by rfl) sc_s3_prefix.nd rfl rfl (sw_true rfl rfl rfl (by decide +kernel)) (kpTup (K := K) rfl (pe_glob (v := .ref T.a_PREFIXES) (by rfl) T.q_PREFIXES rfl)) (blkOk_by (own := [("prefix", 4)]) (N := N_s3_prefix) (sc := defScope S_s3_prefix) (by decide +kernel)) (fun _ _ _ _ _ => (pg_name (i := 4) sc_s3_prefix.nd rfl (.inl rfl))) (fun _ _ _ _ _ => (pts_one (pt_val (pe_m1 PySem.F.slot_str_startswith PySem.F.type_str_startswith mt_startswith (pv 2) (pv 4))))) (fun _ _ _ _ _ => (pv 4)))
      (pss_one (ps_ret (pe_ifExp (pt_cmpR (op_neE (K := K) rfl hr.units) (pv 3) (pe_lst pa_nil) (nomark _)) (pe_ix (kIxL (K := K) rfl) (pv 3) pe_int (fun _ _ => rfl)) pe_str))))), ?_⟩
  obtain ⟨n, v⟩ := a
  obtain ⟨h1, h2⟩ := hp
  dsimp only at h1 h2 ⊢
  show GoS [some (tx n), some (tx v), none, none, none] [] _ _
  have hm : (if n = [] then v else n).length ≤ 70000 := by split <;> assumption
  refine GoS.seq (GoS.set (Go.callP (GoA.cons (Go.join (A := tx (if n = [] then v else n)) ?_ (GoA.nil ⟨if n = [] then v else n, rfl, by omega, ?_⟩)))))
  · refine Go.ite (GoT.test (Go.op (Go.var rfl (Go.c (v_eqS (b := []) ⟨_, rfl, fun hb => Go.var rfl ⟨?_, rfl⟩, fun hb => Go.var rfl ⟨?_, rfl⟩⟩)))))
    · rw [if_pos (by simpa using hb)]
    · rw [if_neg (by simpa using hb)]
  have ep : prefT n v = if pSecure.isPrefixOf (small (if n = [] then v else n)) = true then pSecure else if pHost.isPrefixOf (small (if n = [] then v else n)) = true then pHost else [] := rfl
  generalize small (if n = [] then v else n) = m at ep
  show GoS [some (tx n), some (tx v), some (tx m), none, none] [] _ _
  refine GoS.seq (GoS.set (Go.lcF1 (K := K) (O9 := []) (l := [pSecure, pHost]) (f := tx) (B := tx) (p := fun p => p.isPrefixOf m) ?_ (fun x hx T => ?_) (fun x hx hp T => Go.var rfl ⟨rfl, rfl⟩) (by decide) ?_))
  · walk_at "cj10"
  · walk_at "cj10"
  rcases pref_head m with ⟨e, e1, e2⟩ | ⟨p, r, e, e1⟩
  · rw [e]
    have e9 : prefT n v = [] := by rw [ep, e1, e2]; rfl
    walk_at "cj10"
    rw [e9]
  · rw [e]
    have e9 : prefT n v = p := by rw [ep, e1]
    walk_at "cj10"
    rw [e9]
/-! ### s3_wrong_text -/
/-- the settings of a line that has a name and a value alone -/
def lineNV (n v : Vl) : LineV := ⟨n, v, .n, .n, .n, .n, .b false, .b false, .n, .b false, .n⟩
def textF (n v : Vl) : List Nat := (lineBad (lineNV n v)).getD []
abbrev sp_s3_wrong_text (T : Txt K mg w) : Sp := SpP (fun a : Vl × Vl => okVl K a.1 ∧ okVl K a.2) (fun a => [vl a.1, vl a.2]) (fun a => tx (textF a.1 a.2))
theorem ok_s3_wrong_text (T : Txt K mg w) : FnOk P w K mg base CX0 7 T.f_s3_wrong_text T.d_s3_wrong_text ["name", "value"] (sp_s3_wrong_text T) := by
  refine fn_sy T.F_s3_wrong_text sc_s3_wrong_text (fun _ _ => rfl) fun a cdv A outer s H E hr hp => ⟨_, (pss_cons (ps_tryV (K := K) rfl rfl rfl rfl sc_s3_wrong_text.nd takes0
      (fun W pn xe tk po => (pss_one (ps_expr (pe_makeS T.M_Line (ok_Line_init (P := P) T) (hr.mono (by decide)) (by rfl) T.K_Line.g T.bd_Line_init.choose_spec.2 T.bd_Line_init.choose_spec.1 (fun σ => passAt tk σ) (pa_cons (pv 0) (pa_cons (pv 1) pa_nil))))))
      (ExS.HdV.cons (i := 2) ⟨by rfl, by decide, Or.inl T.E_BadLine.g⟩ rfl rfl (fun ea pn => (pss_one (ps_ret (ExS.pe_xv (K := K) rfl (pv 2))))) ExS.HdV.nil))
      (pss_one (ps_ret pe_str))), ?_⟩
  obtain ⟨n, v⟩ := a
  obtain ⟨h1, h2⟩ := hp
  dsimp only at h1 h2 ⊢
  show GoS [some (vl n), some (vl v), none] [] _ _
  refine GoS.seq (GoS.tryV fun W' => GoSW.drop (GoW.makeDX [no, no, no, no, bo false, bo false, no, bo false, no] (fun G => All2.csts [.non, .non, .non, .non, .bl false, .bl false, .non, .bl false, .non]) (GoA.cons (Go.var rfl (GoA.cons (Go.var rfl (GoA.nil ⟨lineNV n v, rfl, ?_, fun cls fs O' h => ?_, fun ho => ?_⟩)))))))
  · intro x hx
    simp only [lineNV, LineV.vs, List.mem_cons, List.not_mem_nil, or_false] at hx
    rcases hx with rfl | rfl | rfl | rfl | rfl | rfl | rfl | rfl | rfl | rfl | rfl
    · exact h1
    · exact h2
    all_goals exact True.intro
  · obtain ⟨f, D, hb, rfl, rfl, rfl⟩ := h
    refine ⟨_, rfl, true, T.E_BadLine.me, fun _ => ?_, fun z => (by cases z)⟩
    refine GoS.ret (Go.xv T.E_BadLine.xf T.E_BadLine.no (Go.var rfl ⟨rfl, rfl, ?_, rfl⟩))
    unfold textF
    rw [hb]
    rfl
  · show GoS _ _ _ _
    refine GoS.ret (Go.cS (l := []) LitS.eq ⟨?_, rfl⟩)
    have ho : lineBad (lineNV n v) = none := ho
    unfold textF
    rw [ho]
    rfl
/-! ### s3_is_born -/
/-- a pair, a tuple of another size, or a value of another kind -/
inductive BrnV where
  | two (a b : Vl)
  | tup (xs : List As)
  | val (v : Vl)
def brnA (K : PySem.W.Frag) : BrnV → As
  | .two a b => tup K [vl a, vl b]
  | .tup xs => tup K xs
  | .val v => vl v
def okBrn (K : PySem.W.Frag) : BrnV → Prop
  | .two a b => okVl K a ∧ okVl K b
  | .tup xs => xs.length ≠ 2 ∧ xs.length ≤ 1000
  | .val v => okVl K v ∧ OddA K "tuple" (vl v)
def bornB : BrnV → Bool
  | .two a (.i j) => tickV a && decide (0 ≤ j)
  | _ => false
abbrev sp_s3_is_born (K : PySem.W.Frag) : Sp := SpP (okBrn K) (fun a => [brnA K a]) (fun a => bo (bornB a))
theorem ok_s3_is_born (T : Txt K mg w) : FnOk P w K mg base CX0 3 T.f_s3_is_born T.d_s3_is_born ["value"] (sp_s3_is_born K) := by
  refine fn_sy T.F_s3_is_born sc_s3_is_born (fun _ _ => rfl) fun a cdv A outer s H E hr hp => ⟨_, (pss_cons (ps_if (PW.pt (pw_or (pt_not (pt_val (pe_callB (kIsi (K := K) rfl) (by rfl) T.n_isinstance (by decide +kernel) (pa_cons (pv 0) (pa_cons (pe_bltn (v := .ty "tuple") (by rfl) T.n_tuple (by decide +kernel) rfl) pa_nil))))) (pw_or1 (pt_cmpR op_ne (pe_callB (kLen (K := K) rfl) (by rfl) T.n_len (by decide +kernel) (pa_cons (pv 0) pa_nil)) pe_int (nomark _)))))
      (pss_one (ps_ret pe_bl))
      pss_nil)
      (pss_one (ps_ret (pe_and (pe_call (ok_is_tick (P := P) T) (hr.mono (by decide)) (by rfl) T.g_is_tick T.F_is_tick.kp T.b_is_tick .nil pass0 (pa_cons (pe_ix (kIxT (K := K) rfl) (pv 0) pe_int (fun _ _ => rfl)) pa_nil)) (pe_and (pe_call (ok_is_integer (P := P) T) (hr.mono (by decide)) (by rfl) T.g_is_integer T.F_is_integer.kp T.b_is_integer .nil pass0 (pa_cons (pe_ix (kIxT (K := K) rfl) (pv 0) pe_int (fun _ _ => rfl)) pa_nil)) (pe_one (pe_cmpR op_ge (pe_ix (kIxT (K := K) rfl) (pv 0) pe_int (fun _ _ => rfl)) pe_int (nomark _)))))))), ?_⟩
  cases a with
  | val v =>
    show GoS [some (vl v)] [] _ _
    refine GoS.seq (GoS.ite (GoT.or (GoT.not (GoT.b (Go.cb (GoA.cons (Go.var rfl (GoA.cons (Go.c (GoA.nil (v_isiOdd hp.2 ⟨false, rfl, ?_⟩)))))))))))
    walk_at "cj5"
  | tup xs =>
    obtain ⟨h2, hl⟩ := hp
    show GoS [some (tup K xs)] [] _ _
    refine GoS.seq (GoS.ite (GoT.orJ (p := false) (q := true) ?_ (fun _ => ?_) ⟨fun _ => ?_, fun h => (by cases h)⟩))
    · walk_at "cj5"
    · walk_at "cj5"
      simp only [Bool.not_eq_true', decide_eq_false_iff_not]
      omega
    · walk_at "cj5"
  | two x y =>
    obtain ⟨h1, h2⟩ := hp
    show GoS [some (tup K [vl x, vl y])] [] _ _
    refine GoS.seq (GoS.ite (GoT.orJ (p := false) (q := false) ?_ (fun _ => ?_) ⟨fun h => (by cases h), fun _ => GoS.nil ?_⟩))
    · walk_at "cj5"
    · walk_at "cj5"
    · refine GoS.ret (Go.andVJ (p := tickV x) (q := y.toI.isLeft && bornB (.two (.i 0) y)) ?_ (fun _ => Go.andVJ (p := y.toI.isLeft) (q := bornB (.two (.i 0) y)) ?_ (fun h => ?_) ⟨rfl, rfl⟩) ⟨?_, rfl⟩)
      · exact Go.callP (GoA.cons (Go.op (Go.var rfl (Go.c (v_ixT (A := vl x) rfl (GoA.nil ⟨x.toI, (vAV x).symm, okVl.i h1, rfl, rfl⟩))))))
      · exact Go.callP (GoA.cons (Go.op (Go.var rfl (Go.c (v_ixT (A := vl y) rfl (GoA.nil ⟨y.toI, (vAV y).symm, okVl.i h2, rfl, rfl⟩))))))
      · cases y with
        | i j =>
          show Go [some (tup K [vl x, it j])] [] _ _
          walk_at "cj5"
        | _ => cases h
      · cases y <;> simp [bornB, Vl.toI, tickV, tickB]
/-! ### s3_is_space -/
inductive SpcV where
  | two (o : List (List Nat ⊕ As) ⊕ As) (f : Vl)
  | tup (xs : List As)
  | val (v : Vl)
def spcA (K : PySem.W.Frag) : SpcV → As
  | .two o f => tup K [tuA K o, vl f]
  | .tup xs => tup K xs
  | .val v => vl v
def okSpc (K : PySem.W.Frag) : SpcV → Prop
  | .two o f => okTu K o ∧ okVl K f
  | .tup xs => xs.length ≠ 2 ∧ xs.length ≤ 1000
  | .val v => okVl K v ∧ OddA K "tuple" (vl v)
def spaceB : SpcV → Bool
  | .two o f => origB o && f.isB
  | _ => false
abbrev sp_s3_is_space (K : PySem.W.Frag) : Sp := SpP (okSpc K) (fun a => [spcA K a]) (fun a => bo (spaceB a))
theorem ok_s3_is_space (T : Txt K mg w) : FnOk P w K mg base CX0 6 T.f_s3_is_space T.d_s3_is_space ["value"] (sp_s3_is_space K) := by
  refine fn_sy T.F_s3_is_space sc_s3_is_space (fun _ _ => rfl) fun a cdv A outer s H E hr hp => ⟨_, (pss_cons (ps_if (PW.pt (pw_or (pt_not (pt_val (pe_callB (kIsi (K := K) rfl) (by rfl) T.n_isinstance (by decide +kernel) (pa_cons (pv 0) (pa_cons (pe_bltn (v := .ty "tuple") (by rfl) T.n_tuple (by decide +kernel) rfl) pa_nil))))) (pw_or1 (pt_cmpR op_ne (pe_callB (kLen (K := K) rfl) (by rfl) T.n_len (by decide +kernel) (pa_cons (pv 0) pa_nil)) pe_int (nomark _)))))
      (pss_one (ps_ret pe_bl))
      pss_nil)
      (pss_one (ps_ret (pe_and (pe_call (ok_is_origin (P := P) T) (hr.mono (by decide)) (by rfl) T.g_is_origin T.F_is_origin.kp T.b_is_origin .nil pass0 (pa_cons (pe_ix (kIxT (K := K) rfl) (pv 0) pe_int (fun _ _ => rfl)) pa_nil)) (pe_one (pe_callB (kIsi (K := K) rfl) (by rfl) T.n_isinstance (by decide +kernel) (pa_cons (pe_ix (kIxT (K := K) rfl) (pv 0) pe_int (fun _ _ => rfl)) (pa_cons (pe_bltn (v := .ty "bool") (by rfl) T.n_bool (by decide +kernel) rfl) pa_nil)))))))), ?_⟩
  cases a with
  | val v =>
    show GoS [some (vl v)] [] _ _
    refine GoS.seq (GoS.ite (GoT.or (GoT.not (GoT.b (Go.cb (GoA.cons (Go.var rfl (GoA.cons (Go.c (GoA.nil (v_isiOdd hp.2 ⟨false, rfl, ?_⟩)))))))))))
    walk_at "cj5"
  | tup xs =>
    obtain ⟨h2, hl⟩ := hp
    show GoS [some (tup K xs)] [] _ _
    refine GoS.seq (GoS.ite (GoT.orJ (p := false) (q := true) ?_ (fun _ => ?_) ⟨fun _ => ?_, fun h => (by cases h)⟩))
    · walk_at "cj5"
    · walk_at "cj5"
      simp only [Bool.not_eq_true', decide_eq_false_iff_not]
      omega
    · walk_at "cj5"
  | two x y =>
    obtain ⟨h1, h2⟩ := hp
    show GoS [some (tup K [tuA K x, vl y])] [] _ _
    refine GoS.seq (GoS.ite (GoT.orJ (p := false) (q := false) ?_ (fun _ => ?_) ⟨fun h => (by cases h), fun _ => GoS.nil ?_⟩))
    · walk_at "cj5"
    · walk_at "cj5"
    · refine GoS.ret (Go.andVJ (p := origB x) (q := y.isB) ?_ (fun _ => ?_) ⟨rfl, rfl⟩)
      · exact Go.callP (GoA.cons (Go.op (Go.var rfl (Go.c (v_ixT (A := tuA K x) rfl (GoA.nil ⟨x, rfl, h1, rfl, rfl⟩))))))
      · exact Go.cb (GoA.cons (Go.op (Go.var rfl (Go.c (v_ixT (A := vl y) rfl (GoA.cons (Go.c (GoA.nil (v_bVl h2 ⟨rfl, rfl⟩)))))))))
/-! ### s3_can_live -/
abbrev wNone : List Nat := [110, 111, 110, 101]
/-- whether a crumb of a host can live in a space -/
def liveB (h sm : List Nat) (sec : Bool) : SpcV → Bool
  | .val .n => true
  | .two (.inl [.inl s, .inl x]) (.b f) => sec && (origL [.inl s, .inl x] && (if f = true then decide (sm = wNone) else fitsB h x && safeB s h))
  | _ => false
structure LiveV where
  h : List Nat
  sm : List Nat
  sec : Bool
  sp : SpcV
abbrev sp_s3_can_live (K : PySem.W.Frag) : Sp := SpP (fun a : LiveV => a.h.length ≤ 70000 ∧ a.sm.length ≤ 70000 ∧ okSpc K a.sp) (fun a => [tx a.h, tx a.sm, bo a.sec, spcA K a.sp]) (fun a => bo (liveB a.h a.sm a.sec a.sp))
theorem live_odd {h sm : List Nat} {sec : Bool} {sp : SpcV} (hn : sp ≠ .val .n) (e : (!sec || !spaceB sp) = true) : liveB h sm sec sp = false := by
  unfold liveB
  split
  · exact absurd rfl hn
  · rename_i s x f
    have e : (!sec || !(origL [.inl s, .inl x] && true)) = true := e
    rw [Bool.and_true] at e
    cases sec
    · rfl
    · have h9 := (Bool.not_eq_true' _).mp ((Bool.or_eq_true _ _).mp e |>.resolve_left (by simp))
      rw [h9]
      rfl
  · rfl
theorem space_parts {sp : SpcV} (e : spaceB sp = true) : ∃ s x f, sp = .two (.inl [.inl s, .inl x]) (.b f) ∧ schemeB s = true ∧ isHost x = true := by
  match sp, e with
  | .two (.inl [.inl s, .inl x]) (.b f), e =>
    have e : (origL [.inl s, .inl x] && true) = true := e
    rw [Bool.and_true] at e
    have e : (schemeB s && isHost x) = true := e
    rw [Bool.and_eq_true] at e
    exact ⟨s, x, f, rfl, e.1, e.2⟩
  | .two (.inl [.inl s, .inr x]) f, e => simp [spaceB, origB, origL, hostB] at e
  | .two (.inl [.inr s, x]) f, e => simp [spaceB, origB, origL] at e
  | .two (.inr _) _, e => simp [spaceB, origB] at e
  | .two (.inl []) _, e => simp [spaceB, origB, origL] at e
  | .two (.inl [_]) _, e => simp [spaceB, origB, origL] at e
  | .two (.inl (_ :: _ :: _ :: _)) _, e => simp [spaceB, origB, origL] at e
  | .two (.inl [.inl s, .inl x]) .n, e => simp [spaceB, Vl.isB] at e
  | .two (.inl [.inl s, .inl x]) (.i _), e => simp [spaceB, Vl.isB] at e
  | .two (.inl [.inl s, .inl x]) (.s _), e => simp [spaceB, Vl.isB] at e
  | .two (.inl [.inl s, .inl x]) (.o _), e => simp [spaceB, Vl.isB] at e
theorem spc_isN {K : PySem.W.Frag} {L : LL} {O : OO} {i : Nat} {sp : SpcV} (hL : L[i]? = some (some (spcA K sp))) (hp : okSpc K sp) {kb : Bool → OO → Prop} (h1 : sp = .val .n → kb true O) (h2 : sp ≠ .val .n → kb false O) :
    GoT L O (tTest (tOp (fun x y H Q => y = V.non ∧ Q (V.bl (decide (x = V.non))) H) (tVar i) (tC .non))) kb := by
  cases sp with
  | two o f => exact GoT.test (Go.op (Go.var hL (Go.c (v_isNN nn_tup ⟨_, rfl, h2 (fun z => by cases z)⟩))))
  | tup xs => exact GoT.test (Go.op (Go.var hL (Go.c (v_isNN nn_tup ⟨_, rfl, h2 (fun z => by cases z)⟩))))
  | val v =>
    refine GoT.test (Go.op (Go.var hL (Go.c (v_isVl hp.1 ⟨_, rfl, ?_⟩))))
    cases v with
    | n => exact h1 rfl
    | _ => exact h2 (fun z => by cases z)
theorem ok_s3_can_live (T : Txt K mg w) : FnOk P w K mg base CX0 7 T.f_s3_can_live T.d_s3_can_live ["host", "same", "is_secure", "space"] (sp_s3_can_live K) := by
  refine fn_sy T.F_s3_can_live sc_s3_can_live (fun _ _ => rfl) fun a cdv A outer s H E hr hp => ⟨_, (pss_cons (ps_if (pt_cmpR op_isN (pv 3) pe_non (nomark _))
      (pss_one (ps_ret pe_bl))
      pss_nil)
      (pss_cons (ps_if (PW.pt (pw_or (pt_not (pt_val (pv 2))) (pw_or1 (pt_not (pt_val (pe_call (ok_s3_is_space (P := P) T) (hr.mono (by decide)) (by rfl) T.g_s3_is_space T.F_s3_is_space.kp T.b_s3_is_space .nil pass0 (pa_cons (pv 3) pa_nil)))))))
      (pss_one (ps_ret pe_bl))
      pss_nil)
      (pss_cons (ps_asg (pv 3) (kgTup (K := K) (n := 2) rfl rfl (pgs_cons (pg_name (i := 4) sc_s3_can_live.nd rfl (.inl rfl)) (pgs_cons (pg_name (i := 5) sc_s3_can_live.nd rfl (.inl rfl)) pgs_nil)) rfl rfl))
      (pss_cons (ps_if (pt_val (pv 5))
      (pss_one (ps_ret (pe_cmpR op_eq (pv 1) pe_str (nomark _))))
      pss_nil)
      (pss_one (ps_ret (pe_and (pe_call (ok_s1_fits (P := P) T) (hr.mono (by decide)) (by rfl) T.g_s1_fits T.F_s1_fits.kp T.b_s1_fits .nil pass0 (pa_cons (pv 0) (pa_cons (pe_ix (kIxT (K := K) rfl) (pv 4) pe_int (fun _ _ => rfl)) pa_nil))) (pe_one (pe_call (ok_s1_is_safe (P := P) T) (hr.mono (by decide)) (by rfl) T.g_s1_is_safe T.F_s1_is_safe.kp T.b_s1_is_safe .nil pass0 (pa_cons (pe_tup (pa_cons (pe_ix (kIxT (K := K) rfl) (pv 4) pe_int (fun _ _ => rfl)) (pa_cons (pv 0) pa_nil))) pa_nil)))))))))), ?_⟩
  obtain ⟨h, sm, sec, sp⟩ := a
  obtain ⟨h1, h2, h3⟩ := hp
  dsimp only at h1 h2 h3 ⊢
  show GoS [some (tx h), some (tx sm), some (bo sec), some (spcA K sp), none, none] [] _ _
  refine GoS.seq (GoS.ite (spc_isN rfl h3 (fun e => ⟨fun _ => ?_, fun z => (by cases z)⟩) (fun hn => ⟨fun z => (by cases z), fun _ => GoS.nil ?_⟩)))
  · subst e
    exact GoS.ret (Go.c ⟨rfl, rfl⟩)
  show GoS [some (tx h), some (tx sm), some (bo sec), some (spcA K sp), none, none] [] _ _
  refine GoS.seq (GoS.ite (GoT.join (!sec || !spaceB sp) (GoT.orJ (p := !sec) (q := !spaceB sp) (GoT.not (GoT.b (Go.var rfl ⟨sec, rfl, rfl, rfl⟩))) (fun _ => GoT.not (GoT.b (Go.callP (GoA.cons (Go.var rfl (GoA.nil ⟨sp, rfl, h3, _, rfl, rfl, rfl⟩)))))) ⟨rfl, rfl⟩) ⟨fun e => ?_, fun e => GoS.nil ?_⟩))
  · refine GoS.ret (Go.c ⟨?_, rfl⟩)
    show bo false = bo (liveB h sm sec sp)
    rw [live_odd hn e]
  obtain ⟨e1, e2⟩ : sec = true ∧ spaceB sp = true := by simpa using e
  subst e1
  obtain ⟨s, x, f, rfl, hs, hx⟩ := space_parts e2
  have hs5 : s.length ≤ 70000 := by
    have := of_decide_eq_true hs
    simp only [List.mem_cons, List.not_mem_nil, or_false] at this
    rcases this with rfl | rfl <;> decide
  have hx5 : x.length ≤ 70000 := Nat.le_trans (isHost_len hx).1 (by decide)
  have ho : origL [.inl s, .inl x] = true := by show (schemeB s && isHost x) = true; rw [hs, hx]; rfl
  show GoS [some (tx h), some (tx sm), some (bo true), some (tup K [tup K [tx s, tx x], bo f]), none, none] [] _ _
  refine GoS.seq (GoS.asg (Go.var rfl (GoG.tup rfl (GoGs.cons (GoG.name (GoGs.cons (GoG.name (GoGs.nil ?_))))))))
  show GoS [some (tx h), some (tx sm), some (bo true), some (tup K [tup K [tx s, tx x], bo f]), some (tup K [tx s, tx x]), some (bo f)] [] _ _
  have el : liveB h sm true (.two (.inl [.inl s, .inl x]) (.b f)) = if f = true then decide (sm = wNone) else fitsB h x && safeB s h := by
    show (true && (origL [.inl s, .inl x] && _)) = _
    rw [ho]
    rfl
  rw [el]
  refine GoS.seq (GoS.ite (GoT.b (Go.var rfl ⟨f, rfl, fun hf => ?_, fun hf => GoS.nil ?_⟩)))
  · subst hf
    refine GoS.ret (Go.op (Go.var rfl (Go.cS (l := wNone) LitS.eq (v_eqS ⟨rfl, rfl⟩))))
  · subst hf
    refine GoS.ret (Go.andVJ (p := fitsB h x) (q := safeB s h) ?_ (fun _ => ?_) ⟨rfl, rfl⟩)
    · exact Go.callP (GoA.cons (Go.var rfl (GoA.cons (Go.op (Go.var rfl (Go.c (v_ixT (A := tx x) rfl (GoA.nil ⟨(h, x), rfl, ⟨h1, hx5⟩, rfl, rfl⟩))))))))
    · exact Go.callP (GoA.cons (Go.tup (K := K) (GoA.cons (Go.op (Go.var rfl (Go.c (v_ixT (A := tx s) rfl (GoA.cons (Go.var rfl (GoA.nil ⟨Nat.le_of_ble_eq_true rfl, GoA.nil ⟨(s, h), rfl, ⟨hs5, h1⟩, rfl, rfl⟩⟩))))))))))
/-! ### s3_wrong_place -/
structure PlaceV where
  ho : Vl
  ex : Vl
  pa : Vl
  se : Vl
  hi : Vl
def qHost : List Nat := [104, 111, 115, 116]
def qExact : List Nat := [105, 115, 95, 101, 120, 97, 99, 116]
def isAd : Vl → Bool
  | .s l => isAddr l
  | _ => false
def Vl.tru : Vl → Bool
  | .b x => x
  | _ => false
def Vl.isT : List Nat → Vl → Bool
  | l, .s m => decide (m = l)
  | _, _ => false
def placeTests (a : PlaceV) (p : List Nat) : List (List Nat × Bool) := [(qHost, hostV a.ho), (qExact, a.ex.isB && (a.ex.tru || !(isAd a.ho || decide (p = pHost)))), (fPath, pathV a.pa && (Vl.isT [47] a.pa || !decide (p = pHost))),
  (fSecure, a.se.isB && (a.se.tru || decide (p = []))), (fHidden, a.hi.isB)]
def placeF (a : PlaceV) (p : List Nat) : List Nat := (firstBad (placeTests a p)).getD []
def PlaceV.Ok (K : PySem.W.Frag) (a : PlaceV) : Prop := okVl K a.ho ∧ okVl K a.ex ∧ okVl K a.pa ∧ okVl K a.se ∧ okVl K a.hi
abbrev sp_s3_wrong_place (K : PySem.W.Frag) : Sp := SpP (fun a : PlaceV × List Nat => a.1.Ok K ∧ a.2.length ≤ 70000) (fun a => [vl a.1.ho, vl a.1.ex, vl a.1.pa, vl a.1.se, vl a.1.hi, tx a.2]) (fun a => tx (placeF a.1 a.2))
theorem ok_s3_wrong_place (T : Txt K mg w) : FnOk P w K mg base CX0 5 T.f_s3_wrong_place T.d_s3_wrong_place ["host", "is_exact", "path", "is_secure", "is_hidden", "prefix"] (sp_s3_wrong_place K) := by
  refine fn_sy T.F_s3_wrong_place sc_s3_wrong_place (fun _ _ => rfl) fun a cdv A outer s H E hr hp => ⟨_, (pss_cons (ps_if (pt_not (pt_val (pe_call (ok_is_host (P := P) T) (hr.mono (by decide)) (by rfl) T.g_is_host T.F_is_host.kp T.b_is_host .nil pass0 (pa_cons (pv 0) pa_nil))))
      (pss_one (ps_ret pe_str))
      pss_nil)
      (pss_cons (ps_if (PW.pt (pw_or (pt_not (pt_val (pe_callB (kIsi (K := K) rfl) (by rfl) T.n_isinstance (by decide +kernel) (pa_cons (pv 1) (pa_cons (pe_bltn (v := .ty "bool") (by rfl) T.n_bool (by decide +kernel) rfl) pa_nil))))) (pw_or1 (PW.pt (pw_and (pt_not (pt_val (pv 1))) (pw_and1 (PW.pt (pw_or (pt_val (pe_call (ok_is_address_host (P := P) T) (hr.mono (by decide)) (by rfl) T.g_is_address_host T.F_is_address_host.kp T.b_is_address_host .nil pass0 (pa_cons (pv 0) pa_nil))) (pw_or1 (pt_cmpR op_eq (pv 5) pe_str (nomark _)))))))))))
      (pss_one (ps_ret pe_str))
      pss_nil)
      (pss_cons (ps_if (PW.pt (pw_or (pt_not (pt_val (pe_call (ok_is_path (P := P) T) (hr.mono (by decide)) (by rfl) T.g_is_path T.F_is_path.kp T.b_is_path .nil pass0 (pa_cons (pv 2) pa_nil)))) (pw_or1 (PW.pt (pw_and (pt_cmpR op_ne (pv 2) pe_str (nomark _)) (pw_and1 (pt_cmpR op_eq (pv 5) pe_str (nomark _))))))))
      (pss_one (ps_ret pe_str))
      pss_nil)
      (pss_cons (ps_if (PW.pt (pw_or (pt_not (pt_val (pe_callB (kIsi (K := K) rfl) (by rfl) T.n_isinstance (by decide +kernel) (pa_cons (pv 3) (pa_cons (pe_bltn (v := .ty "bool") (by rfl) T.n_bool (by decide +kernel) rfl) pa_nil))))) (pw_or1 (PW.pt (pw_and (pt_not (pt_val (pv 3))) (pw_and1 (pt_cmpR op_ne (pv 5) pe_str (nomark _))))))))
      (pss_one (ps_ret pe_str))
      pss_nil)
      (pss_one (ps_ret (pe_ifExp (pt_val (pe_callB (kIsi (K := K) rfl) (by rfl) T.n_isinstance (by decide +kernel) (pa_cons (pv 4) (pa_cons (pe_bltn (v := .ty "bool") (by rfl) T.n_bool (by decide +kernel) rfl) pa_nil)))) pe_str pe_str))))))), ?_⟩
  obtain ⟨⟨ho, ex, pa, se, hi⟩, p⟩ := a
  obtain ⟨⟨h1, h2, h3, h4, h5⟩, h6⟩ := hp
  dsimp only at h1 h2 h3 h4 h5 h6 ⊢
  show GoS [some (vl ho), some (vl ex), some (vl pa), some (vl se), some (vl hi), some (tx p)] [] _ _
  have ef : placeF ⟨ho, ex, pa, se, hi⟩ p = (firstBad [(qHost, hostV ho), (qExact, ex.isB && (ex.tru || !(isAd ho || decide (p = pHost)))), (fPath, pathV pa && (Vl.isT [47] pa || !decide (p = pHost))), (fSecure, se.isB && (se.tru || decide (p = []))), (fHidden, hi.isB)]).getD [] := rfl
  have kt : ∀ a t q : Bool, (!a || (!t && q)) = !(a && (t || !q)) := by decide
  refine GoS.seq (GoS.ite (GoT.not (GoT.b (Go.callP (GoA.cons (Go.var rfl (GoA.nil ⟨ho.toT, (txoV ho).symm, okVl.t h1, hostV ho, by cases ho <;> rfl, fun b1 => ?_, fun b1 => GoS.nil ?_⟩)))))))
  · rw [show hostV ho = false by simpa using b1] at ef
    refine GoS.ret (Go.cS (l := qHost) LitS.eq ?_)
    rw [ef]
    exact ⟨rfl, rfl⟩
  rw [show hostV ho = true by simpa using b1, firstBad_t rfl] at ef
  show GoS [some (vl ho), some (vl ex), some (vl pa), some (vl se), some (vl hi), some (tx p)] [] _ _
  refine GoS.seq (GoS.ite (GoT.join (!(ex.isB && (ex.tru || !(isAd ho || decide (p = pHost))))) (GoT.orJ (p := !ex.isB) (q := !ex.tru && (isAd ho || decide (p = pHost))) (GoT.not (GoT.b (Go.cb (GoA.cons (Go.var rfl (GoA.cons (Go.c (GoA.nil (v_bVl h2 ⟨_, rfl, rfl, rfl⟩))))))))) (fun hb => ?_) ⟨kt _ _ _, rfl⟩) ⟨fun b2 => ?_, fun b2 => GoS.nil ?_⟩))
  · cases ex with
    | b x =>
      show GoT [some (vl ho), some (bo x), some (vl pa), some (vl se), some (vl hi), some (tx p)] [] _ _
      refine GoT.andJ (p := !x) (q := isAd ho || decide (p = pHost)) (GoT.not (GoT.b (Go.var rfl ⟨x, rfl, rfl, rfl⟩))) (fun _ => GoT.orJ (p := isAd ho) (q := decide (p = pHost)) ?_ (fun _ => ?_) ⟨rfl, rfl⟩) ⟨rfl, rfl⟩
      · exact GoT.b (Go.callP (GoA.cons (Go.var rfl (GoA.nil ⟨ho.toT, (txoV ho).symm, okVl.t h1, isAd ho, by cases ho <;> rfl, rfl, rfl⟩))))
      · exact GoT.test (Go.op (Go.var rfl (Go.cS (l := pHost) LitS.eq (v_eqS ⟨_, rfl, rfl, rfl⟩))))
    | n => cases hb
    | i x => cases hb
    | s l => cases hb
    | o A => cases hb
  · rw [show (ex.isB && (ex.tru || !(isAd ho || decide (p = pHost)))) = false by simpa only [Bool.not_eq_true'] using b2] at ef
    refine GoS.ret (Go.cS (l := qExact) LitS.eq ?_)
    rw [ef]
    exact ⟨rfl, rfl⟩
  rw [show (ex.isB && (ex.tru || !(isAd ho || decide (p = pHost)))) = true by simpa only [Bool.not_eq_false'] using b2, firstBad_t rfl] at ef
  show GoS [some (vl ho), some (vl ex), some (vl pa), some (vl se), some (vl hi), some (tx p)] [] _ _
  refine GoS.seq (GoS.ite (GoT.join (!(pathV pa && (Vl.isT [47] pa || !decide (p = pHost)))) (GoT.orJ (p := !pathV pa) (q := !Vl.isT [47] pa && decide (p = pHost)) (GoT.not (GoT.b (Go.callP (GoA.cons (Go.var rfl (GoA.nil ⟨pa.toT, (txoV pa).symm, okVl.t h3, pathV pa, by cases pa <;> rfl, rfl, rfl⟩)))))) (fun hb => ?_) ⟨kt _ _ _, rfl⟩) ⟨fun b3 => ?_, fun b3 => GoS.nil ?_⟩))
  · cases pa with
    | s l =>
      show GoT [some (vl ho), some (vl ex), some (tx l), some (vl se), some (vl hi), some (tx p)] [] _ _
      refine GoT.andJ (p := !decide (l = [47])) (q := decide (p = pHost)) (GoT.test (Go.op (Go.var rfl (Go.cS (l := [47]) LitS.eq (v_neS ⟨_, rfl, rfl, rfl⟩))))) (fun _ => ?_) ⟨rfl, rfl⟩
      exact GoT.test (Go.op (Go.var rfl (Go.cS (l := pHost) LitS.eq (v_eqS ⟨_, rfl, rfl, rfl⟩))))
    | n => cases hb
    | i x => cases hb
    | b l => cases hb
    | o A => cases hb
  · rw [show (pathV pa && (Vl.isT [47] pa || !decide (p = pHost))) = false by simpa only [Bool.not_eq_true'] using b3] at ef
    refine GoS.ret (Go.cS (l := fPath) LitS.eq ?_)
    rw [ef]
    exact ⟨rfl, rfl⟩
  rw [show (pathV pa && (Vl.isT [47] pa || !decide (p = pHost))) = true by simpa only [Bool.not_eq_false'] using b3, firstBad_t rfl] at ef
  show GoS [some (vl ho), some (vl ex), some (vl pa), some (vl se), some (vl hi), some (tx p)] [] _ _
  have kt2 : ∀ a t q : Bool, (!a || (!t && !q)) = !(a && (t || q)) := by decide
  refine GoS.seq (GoS.ite (GoT.join (!(se.isB && (se.tru || decide (p = [])))) (GoT.orJ (p := !se.isB) (q := !se.tru && !decide (p = [])) (GoT.not (GoT.b (Go.cb (GoA.cons (Go.var rfl (GoA.cons (Go.c (GoA.nil (v_bVl h4 ⟨_, rfl, rfl, rfl⟩))))))))) (fun hb => ?_) ⟨kt2 _ _ _, rfl⟩) ⟨fun b4 => ?_, fun b4 => GoS.nil ?_⟩))
  · cases se with
    | b x =>
      show GoT [some (vl ho), some (vl ex), some (vl pa), some (bo x), some (vl hi), some (tx p)] [] _ _
      refine GoT.andJ (p := !x) (q := !decide (p = [])) (GoT.not (GoT.b (Go.var rfl ⟨x, rfl, rfl, rfl⟩))) (fun _ => ?_) ⟨rfl, rfl⟩
      exact GoT.test (Go.op (Go.var rfl (Go.cS (l := []) LitS.eq (v_neS ⟨_, rfl, rfl, rfl⟩))))
    | n => cases hb
    | i x => cases hb
    | s l => cases hb
    | o A => cases hb
  · rw [show (se.isB && (se.tru || decide (p = []))) = false by simpa only [Bool.not_eq_true'] using b4] at ef
    refine GoS.ret (Go.cS (l := fSecure) LitS.eq ?_)
    rw [ef]
    exact ⟨rfl, rfl⟩
  rw [show (se.isB && (se.tru || decide (p = []))) = true by simpa only [Bool.not_eq_false'] using b4, firstBad_t rfl] at ef
  show GoS [some (vl ho), some (vl ex), some (vl pa), some (vl se), some (vl hi), some (tx p)] [] _ _
  refine GoS.ret (Go.ite (GoT.b (Go.cb (GoA.cons (Go.var rfl (GoA.cons (Go.c (GoA.nil (v_bVl h5 ⟨_, rfl, fun b5 => Go.cS (l := []) LitS.eq ?_, fun b5 => Go.cS (l := fHidden) LitS.eq ?_⟩)))))))))
  · rw [ef, b5]
    exact ⟨rfl, rfl⟩
  · rw [ef, b5]
    exact ⟨rfl, rfl⟩
/-! ### s3_wrong_time -/
def Vl.int : Vl → Int
  | .i x => x
  | _ => 0
def bornI : BrnV → Int
  | .two a _ => a.int
  | _ => 0
def qBorn : List Nat := [98, 111, 114, 110]
def qSeen : List Nat := [115, 101, 101, 110]
def qEnds : List Nat := [101, 110, 100, 115]
def seenB (b : BrnV) (s : Vl) : Bool := tickV s && !decide (s.int < bornI b)
def endsB (s e : Vl) : Bool := e.isN || (tickV e && (decide (s.int < e.int) && decide (e.int ≤ s.int + 34560000)))
def timeTests (b : BrnV) (s e : Vl) : List (List Nat × Bool) := [(qBorn, bornB b), (qSeen, seenB b s), (qEnds, endsB s e)]
def timeF (b : BrnV) (s e : Vl) : List Nat := (firstBad (timeTests b s e)).getD []
theorem tick_i {v : Vl} (h : tickV v = true) : ∃ i, v = .i i ∧ 0 ≤ i ∧ i ≤ 253402300799 := by
  cases v with
  | i x =>
    have h : (decide (0 ≤ x) && decide (x ≤ 253402300799)) = true := h
    rw [Bool.and_eq_true, decide_eq_true_eq, decide_eq_true_eq] at h
    exact ⟨x, rfl, h⟩
  | n => cases h
  | b x => cases h
  | s l => cases h
  | o A => cases h
theorem born_two {b : BrnV} (h : bornB b = true) : ∃ i j, b = .two (.i i) (.i j) ∧ 0 ≤ i ∧ i ≤ 253402300799 ∧ 0 ≤ j := by
  cases b with
  | two x y =>
    cases y with
    | i j =>
      have h : (tickV x && decide (0 ≤ j)) = true := h
      rw [Bool.and_eq_true, decide_eq_true_eq] at h
      obtain ⟨i, rfl, h1, h2⟩ := tick_i h.1
      exact ⟨i, j, rfl, h1, h2, h.2⟩
    | n => cases h
    | b x => cases h
    | s l => cases h
    | o A => cases h
  | tup xs => cases h
  | val v => cases h
theorem bool_nan (a b : Bool) : (!a || b) = !(a && !b) := by cases a <;> cases b <;> rfl
theorem bool_nn (a b : Bool) : (!a || !b) = !(a && b) := by cases a <;> cases b <;> rfl
theorem bool_no (a b : Bool) : (!a && !b) = !(a || b) := by cases a <;> cases b <;> rfl
theorem v_notVl {K : PySem.W.Frag} {O : OO} {k : As → OO → Prop} {v : Vl} (h : okVl K v) (q : k (bo (!v.isN)) O) : V2 O (fun x y H Q => y = V.non ∧ Q (V.bl (!decide (x = V.non))) H) (vl v) (cst .non) k := by
  cases v with
  | n => exact v_notN (x := .non) q
  | b x => exact v_notN (x := .bl x) q
  | i x => exact v_notN (x := .int x) q
  | s l => exact v_notN (x := .str _) q
  | o A => exact v_noNN (OddO.n h) q
abbrev sp_s3_wrong_time (K : PySem.W.Frag) : Sp := SpP (fun a : BrnV × Vl × Vl => okBrn K a.1 ∧ okVl K a.2.1 ∧ okVl K a.2.2) (fun a => [brnA K a.1, vl a.2.1, vl a.2.2]) (fun a => tx (timeF a.1 a.2.1 a.2.2))
theorem ok_s3_wrong_time (T : Txt K mg w) : FnOk P w K mg base CX0 4 T.f_s3_wrong_time T.d_s3_wrong_time ["born", "seen", "ends"] (sp_s3_wrong_time K) := by
  refine fn_sy T.F_s3_wrong_time sc_s3_wrong_time (fun _ _ => rfl) fun a cdv A outer s H E hr hp => ⟨_, (pss_cons (ps_if (pt_not (pt_val (pe_call (ok_s3_is_born (P := P) T) (hr.mono (by decide)) (by rfl) T.g_s3_is_born T.F_s3_is_born.kp T.b_s3_is_born .nil pass0 (pa_cons (pv 0) pa_nil))))
      (pss_one (ps_ret pe_str))
      pss_nil)
      (pss_cons (ps_if (PW.pt (pw_or (pt_not (pt_val (pe_call (ok_is_tick (P := P) T) (hr.mono (by decide)) (by rfl) T.g_is_tick T.F_is_tick.kp T.b_is_tick .nil pass0 (pa_cons (pv 1) pa_nil)))) (pw_or1 (pt_cmpR op_lt (pv 1) (pe_ix (kIxT (K := K) rfl) (pv 0) pe_int (fun _ _ => rfl)) (nomark _)))))
      (pss_one (ps_ret pe_str))
      pss_nil)
      (pss_cons (ps_if (PW.pt (pw_and (pt_cmpR op_notN (pv 2) pe_non (nomark _)) (pw_and1 (PW.pt (pw_or (pt_not (pt_val (pe_call (ok_is_tick (P := P) T) (hr.mono (by decide)) (by rfl) T.g_is_tick T.F_is_tick.kp T.b_is_tick .nil pass0 (pa_cons (pv 2) pa_nil)))) (pw_or1 (pt_not (pt_chain op_lt op_le (pv 1) (pv 2) (pe_op op_add (pv 1) (pe_glob (v := .int (34560000)) (by rfl) T.c_MOST_AGE_crumbs.choose_spec ⟨_, rfl⟩))))))))))
      (pss_one (ps_ret pe_str))
      pss_nil)
      (pss_one (ps_ret pe_str))))), ?_⟩
  obtain ⟨b, s, e⟩ := a
  obtain ⟨h1, h2, h3⟩ := hp
  dsimp only at h1 h2 h3 ⊢
  have ef : timeF b s e = (firstBad [(qBorn, bornB b), (qSeen, seenB b s), (qEnds, endsB s e)]).getD [] := rfl
  show GoS [some (brnA K b), some (vl s), some (vl e)] [] _ _
  refine GoS.seq (GoS.ite (GoT.not (GoT.b (Go.callP (GoA.cons (Go.var rfl (GoA.nil ⟨b, rfl, h1, bornB b, rfl, fun b1 => ?_, fun b1 => GoS.nil ?_⟩)))))))
  · rw [show bornB b = false by simpa using b1] at ef
    refine GoS.ret (Go.cS (l := qBorn) LitS.eq ?_)
    rw [ef]
    exact ⟨rfl, rfl⟩
  have b1 : bornB b = true := by simpa using b1
  obtain ⟨i, j, rfl, i0, i1, j0⟩ := born_two b1
  rw [b1, firstBad_t rfl] at ef
  show GoS [some (tup K [it i, it j]), some (vl s), some (vl e)] [] _ _
  refine GoS.seq (GoS.ite (GoT.join (!seenB (.two (.i i) (.i j)) s) (GoT.orJ (p := !tickV s) (q := decide (s.int < i)) (GoT.not (GoT.b (Go.callP (GoA.cons (Go.var rfl (GoA.nil ⟨s.toI, (vAV s).symm, okVl.i h2, _, rfl, rfl, rfl⟩)))))) (fun hs => ?_) ⟨?_, rfl⟩) ⟨fun b2 => ?_, fun b2 => GoS.nil ?_⟩))
  · obtain ⟨x, rfl, _⟩ := tick_i (v := s) (by simpa using hs)
    show GoT [some (tup K [it i, it j]), some (it x), some (vl e)] [] _ _
    walk_at "cj5"
  · exact bool_nan (tickV s) (decide (s.int < i))
  · rw [show seenB (.two (.i i) (.i j)) s = false by simpa using b2] at ef
    refine GoS.ret (Go.cS (l := qSeen) LitS.eq ?_)
    rw [ef]
    exact ⟨rfl, rfl⟩
  have b2 : seenB (.two (.i i) (.i j)) s = true := by simpa using b2
  rw [b2, firstBad_t rfl] at ef
  have hs : tickV s = true := by
    unfold seenB at b2
    rw [Bool.and_eq_true] at b2
    exact b2.1
  obtain ⟨x, rfl, x0, x1⟩ := tick_i hs
  show GoS [some (tup K [it i, it j]), some (it x), some (vl e)] [] _ _
  refine GoS.seq (GoS.ite (GoT.join (!endsB (.i x) e) (GoT.andJ (p := !e.isN) (q := !(tickV e && (decide (x < e.int) && decide (e.int ≤ x + 34560000)))) (GoT.test (Go.op (Go.var rfl (Go.c (v_notVl h3 ⟨_, rfl, rfl, rfl⟩))))) (fun he => GoT.orJ (p := !tickV e) (q := !(decide (x < e.int) && decide (e.int ≤ x + 34560000))) (GoT.not (GoT.b (Go.callP (GoA.cons (Go.var rfl (GoA.nil ⟨e.toI, (vAV e).symm, okVl.i h3, _, rfl, rfl, rfl⟩)))))) (fun hs => ?_) ⟨?_, rfl⟩) ⟨?_, rfl⟩) ⟨fun b3 => ?_, fun b3 => GoS.nil ?_⟩))
  · obtain ⟨z, rfl, _⟩ := tick_i (v := e) (by simpa using hs)
    show GoT [some (tup K [it i, it j]), some (it x), some (it z)] [] _ _
    walk_at "cj5"
  · exact bool_nn (tickV e) _
  · exact bool_no e.isN _
  · rw [show endsB (.i x) e = false by simpa using b3] at ef
    refine GoS.ret (Go.cS (l := qEnds) LitS.eq ?_)
    rw [ef]
    exact ⟨rfl, rfl⟩
  · rw [show endsB (.i x) e = true by simpa using b3, firstBad_t rfl] at ef
    refine GoS.ret (Go.cS (l := []) LitS.eq ?_)
    rw [ef]
    exact ⟨rfl, rfl⟩
/-! ### s3_wrong_field -/
structure CrumbV where
  nm : Vl
  va : Vl
  ho : Vl
  ex : Vl
  pa : Vl
  se : Vl
  hi : Vl
  sm : Vl
  pr : Vl
  sp : SpcV
  bn : BrnV
  sn : Vl
  en : Vl
def CrumbV.vs (K : PySem.W.Frag) (c : CrumbV) : List As := [vl c.nm, vl c.va, vl c.ho, vl c.ex, vl c.pa, vl c.se, vl c.hi, vl c.sm, vl c.pr, spcA K c.sp, brnA K c.bn, vl c.sn, vl c.en]
structure CrumbV.Ok (K : PySem.W.Frag) (c : CrumbV) : Prop where
  nm : okVl K c.nm
  va : okVl K c.va
  ho : okVl K c.ho
  ex : okVl K c.ex
  pa : okVl K c.pa
  se : okVl K c.se
  hi : okVl K c.hi
  sm : okVl K c.sm
  pr : okVl K c.pr
  sp : okSpc K c.sp
  bn : okBrn K c.bn
  sn : okVl K c.sn
  en : okVl K c.en
def Vl.txt : Vl → List Nat
  | .s l => l
  | _ => []
def csameB (sec : Bool) : Vl → Bool
  | .s l => decide (l ∈ lcv_SAMES_crumbs) && !(decide (l = wNone) && !sec)
  | _ => false
def qSpace : List Nat := [115, 112, 97, 99, 101]
def CrumbV.place (c : CrumbV) : PlaceV := ⟨c.ho, c.ex, c.pa, c.se, c.hi⟩
def crumbTests (c : CrumbV) : List (List Nat × Bool) := [(fName, nameB c.nm), (fValue, valB c.nm c.va)] ++ (placeTests c.place (prefT c.nm.txt c.va.txt) ++ ([(fSame, csameB c.se.tru c.sm), (fPrio, prioB c.pr), (qSpace, liveB c.ho.txt c.sm.txt c.se.tru c.sp)] ++ timeTests c.bn c.sn c.en))
/-- the first part that is wrong -/
def crumbBad (c : CrumbV) : Option (List Nat) := firstBad (crumbTests c)
theorem firstBad_app : ∀ (a b : List (List Nat × Bool)), firstBad (a ++ b) = (match firstBad a with | none => firstBad b | some f => some f)
  | [], b => rfl
  | (f, true) :: r, b => firstBad_app r b
  | (f, false) :: r, b => rfl
theorem firstBad_in : ∀ {a : List (List Nat × Bool)} {f : List Nat}, firstBad a = some f → f ∈ a.map (·.1)
  | (g, true) :: r, f, h => List.mem_cons_of_mem _ (firstBad_in (a := r) h)
  | (g, false) :: r, f, h => by
    have h : some g = some f := h
    rw [← Option.some.inj h]
    exact List.mem_cons_self
theorem name_s {v : Vl} (h : nameB v = true) : ∃ l, v = .s l := by
  cases v with
  | s l => exact ⟨l, rfl⟩
  | _ => cases h
theorem val_s {n v : Vl} (h : valB n v = true) : ∃ l, v = .s l := by
  cases n with
  | s n =>
    have h : (keptB v [59] && sizeB n v) = true := h
    rw [Bool.and_eq_true] at h
    cases v with
    | s l => exact ⟨l, rfl⟩
    | n => cases h.2
    | b x => cases h.2
    | i x => cases h.2
    | o A => cases h.2
  | _ => cases h
theorem host_s {v : Vl} (h : hostV v = true) : ∃ l, v = .s l := by
  cases v with
  | s l => exact ⟨l, rfl⟩
  | _ => cases h
theorem bool_b {v : Vl} (h : v.isB = true) : ∃ x, v = .b x := by
  cases v with
  | b x => exact ⟨x, rfl⟩
  | _ => cases h
theorem first_no {f : List Nat} {b : Bool} {r : List (List Nat × Bool)} (h : firstBad ((f, b) :: r) = none) : b = true ∧ firstBad r = none := by
  cases b with
  | true => exact ⟨rfl, h⟩
  | false => cases h
theorem getD_nil {ts : List (List Nat × Bool)} (hn : ∀ f ∈ ts.map (·.1), f ≠ []) (h : (firstBad ts).getD [] = []) : firstBad ts = none := by
  cases e : firstBad ts with
  | none => rfl
  | some f =>
    rw [e] at h
    exact absurd h (hn f (firstBad_in e))
theorem textF_eq (n v : Vl) : textF n v = (firstBad [(fName, nameB n), (fValue, valB n v)]).getD [] := by
  have e : lineBad (lineNV n v) = firstBad ([(fName, nameB n), (fValue, valB n v)] ++ [(fExpires, true), (fAge, true), (fDomain, true), (fPath, true), (fSecure, true), (fHidden, true), (fSame, true), (fPart, true), (fPrio, true)]) := rfl
  unfold textF
  rw [e, firstBad_app]
  cases firstBad [(fName, nameB n), (fValue, valB n v)] <;> rfl
abbrev sp_s3_wrong_field (T : Txt K mg w) : Sp := SpP (CrumbV.Ok K) (fun c => [tup K (c.vs K)]) (fun c => tx ((crumbBad c).getD []))
theorem ok_s3_wrong_field (T : Txt K mg w) : FnOk P w K mg base CX0 8 T.f_s3_wrong_field T.d_s3_wrong_field ["crumb"] (sp_s3_wrong_field T) := by
  refine fn_sy T.F_s3_wrong_field sc_s3_wrong_field (fun _ _ => rfl) fun a cdv A outer s H E hr hp => ⟨_, (pss_cons (ps_asg (pv 0) (kgTup (K := K) (n := 13) rfl rfl (pgs_cons (pg_name (i := 1) sc_s3_wrong_field.nd rfl (.inl rfl)) (pgs_cons (pg_name (i := 2) sc_s3_wrong_field.nd rfl (.inl rfl)) (pgs_cons (pg_name (i := 3) sc_s3_wrong_field.nd rfl (.inl rfl)) (pgs_cons (pg_name (i := 4) sc_s3_wrong_field.nd rfl (.inl rfl)) (pgs_cons (pg_name (i := 5) sc_s3_wrong_field.nd rfl (.inl rfl)) (pgs_cons (pg_name (i := 6) sc_s3_wrong_field.nd rfl (.inl rfl)) (pgs_cons (pg_name (i := 7) sc_s3_wrong_field.nd rfl (.inl rfl)) (pgs_cons (pg_name (i := 8) sc_s3_wrong_field.nd rfl (.inl rfl)) (pgs_cons (pg_name (i := 9) sc_s3_wrong_field.nd rfl (.inl rfl)) (pgs_cons (pg_name (i := 10) sc_s3_wrong_field.nd rfl (.inl rfl)) (pgs_cons (pg_name (i := 11) sc_s3_wrong_field.nd rfl (.inl rfl)) (pgs_cons (pg_name (i := 12) sc_s3_wrong_field.nd rfl (.inl rfl)) (pgs_cons (pg_name (i := 13) sc_s3_wrong_field.nd rfl (.inl rfl)) pgs_nil))))))))))))) rfl rfl))
      (pss_cons (ps_set (i := 14) sc_s3_wrong_field.nd rfl (.inl rfl) (pe_call (ok_s3_wrong_text (P := P) T) (hr.mono (by decide)) (by rfl) T.g_s3_wrong_text T.F_s3_wrong_text.kp T.b_s3_wrong_text .nil pass0 (pa_cons (pv 1) (pa_cons (pv 2) pa_nil))))
      (C8.pss_cut (ps_if (pt_cmpR op_eq (pv 14) pe_str (nomark _))
      (pss_one (ps_set (i := 14) sc_s3_wrong_field.nd rfl (.inl rfl) (pe_call (ok_s3_wrong_place (P := P) T) (hr.mono (by decide)) (by rfl) T.g_s3_wrong_place T.F_s3_wrong_place.kp T.b_s3_wrong_place .nil pass0 (pa_cons (pv 3) (pa_cons (pv 4) (pa_cons (pv 5) (pa_cons (pv 6) (pa_cons (pv 7) (pa_cons (pe_call (ok_s3_prefix (P := P) T) (hr.mono (by decide)) (by rfl) T.g_s3_prefix T.F_s3_prefix.kp T.b_s3_prefix .nil pass0 (pa_cons (pv 1) (pa_cons (pv 2) pa_nil))) pa_nil)))))))))
      pss_nil)
      (pss_cons (ps_if (pt_cmpR op_ne (pv 14) pe_str (nomark _))
      (pss_one (ps_ret (pv 14)))
      pss_nil)
      (pss_cons (ps_if (PW.pt (pw_or (pt_not (pt_val (pe_callB (kIsi (K := K) rfl) (by rfl) T.n_isinstance (by decide +kernel) (pa_cons (pv 8) (pa_cons (pe_bltn (v := .ty "str") (by rfl) T.n_str (by decide +kernel) rfl) pa_nil))))) (pw_or (pt_cmpR (kNi (K := K) rfl) (pv 8) (pe_glob (v := .ref T.a_SAMES_crumbs) (by rfl) T.q_SAMES_crumbs rfl) (by rfl)) (pw_or1 (PW.pt (pw_and (pt_cmpR op_eq (pv 8) pe_str (nomark _)) (pw_and1 (pt_not (pt_val (pv 6))))))))))
      (pss_one (ps_ret pe_str))
      pss_nil)
      (pss_cons (ps_if (PW.pt (pw_or (pt_not (pt_val (pe_call (ok_is_integer (P := P) T) (hr.mono (by decide)) (by rfl) T.g_is_integer T.F_is_integer.kp T.b_is_integer .nil pass0 (pa_cons (pv 9) pa_nil)))) (pw_or1 (pt_not (pt_chain op_le op_le pe_int (pv 9) pe_int)))))
      (pss_one (ps_ret pe_str))
      pss_nil)
      (pss_cons (ps_if (pt_not (pt_val (pe_call (ok_s3_can_live (P := P) T) (hr.mono (by decide)) (by rfl) T.g_s3_can_live T.F_s3_can_live.kp T.b_s3_can_live .nil pass0 (pa_cons (pv 3) (pa_cons (pv 8) (pa_cons (pv 6) (pa_cons (pv 10) pa_nil)))))))
      (pss_one (ps_ret pe_str))
      pss_nil)
      (pss_one (ps_ret (pe_call (ok_s3_wrong_time (P := P) T) (hr.mono (by decide)) (by rfl) T.g_s3_wrong_time T.F_s3_wrong_time.kp T.b_s3_wrong_time .nil pass0 (pa_cons (pv 11) (pa_cons (pv 12) (pa_cons (pv 13) pa_nil))))))))))))), ?_⟩
  obtain ⟨nm, va, ho, ex, pa, se, hi, sm, pr, sp, bn, sn, en⟩ := a
  obtain ⟨h1, h2, h3, h4, h5, h6, h7, h8, h9, h10, h11, h12, h13⟩ := hp
  dsimp only at h1 h2 h3 h4 h5 h6 h7 h8 h9 h10 h11 h12 h13 ⊢
  show GoS [some (tup K [vl nm, vl va, vl ho, vl ex, vl pa, vl se, vl hi, vl sm, vl pr, spcA K sp, brnA K bn, vl sn, vl en]), none, none, none, none, none, none, none, none, none, none, none, none, none, none] [] _ _
  refine GoS.seq (GoS.asg (Go.var rfl ?_))
  refine GoG.tup rfl (GoGs.cons (GoG.name (GoGs.cons (GoG.name (GoGs.cons (GoG.name (GoGs.cons (GoG.name (GoGs.cons (GoG.name (GoGs.cons (GoG.name (GoGs.cons (GoG.name (GoGs.cons (GoG.name (GoGs.cons (GoG.name (GoGs.cons (GoG.name (GoGs.cons (GoG.name (GoGs.cons (GoG.name (GoGs.cons (GoG.name (GoGs.nil ?_)))))))))))))))))))))))))))
  have ec : crumbBad ⟨nm, va, ho, ex, pa, se, hi, sm, pr, sp, bn, sn, en⟩ = firstBad ([(fName, nameB nm), (fValue, valB nm va)] ++ (placeTests ⟨ho, ex, pa, se, hi⟩ (prefT nm.txt va.txt) ++ ([(fSame, csameB se.tru sm), (fPrio, prioB pr), (qSpace, liveB ho.txt sm.txt se.tru sp)] ++ timeTests bn sn en))) := rfl
  rw [firstBad_app, firstBad_app] at ec
  have et := textF_eq nm va
  have ep : placeF ⟨ho, ex, pa, se, hi⟩ (prefT nm.txt va.txt) = (firstBad (placeTests ⟨ho, ex, pa, se, hi⟩ (prefT nm.txt va.txt))).getD [] := rfl
  have nt : ∀ f ∈ [(fName, nameB nm), (fValue, valB nm va)].map (·.1), f ≠ [] := by
    show ∀ f ∈ [fName, fValue], f ≠ []
    decide
  have np : ∀ f ∈ (placeTests ⟨ho, ex, pa, se, hi⟩ (prefT nm.txt va.txt)).map (·.1), f ≠ [] := by
    show ∀ f ∈ [qHost, qExact, fPath, fSecure, fHidden], f ≠ []
    decide
  show GoS [some (tup K [vl nm, vl va, vl ho, vl ex, vl pa, vl se, vl hi, vl sm, vl pr, spcA K sp, brnA K bn, vl sn, vl en]), some (vl nm), some (vl va), some (vl ho), some (vl ex), some (vl pa), some (vl se), some (vl hi), some (vl sm), some (vl pr), some (spcA K sp), some (brnA K bn), some (vl sn), some (vl en), none] [] _ _
  refine GoS.seq (GoS.set (Go.callP (GoA.cons (Go.var rfl (GoA.cons (Go.var rfl (GoA.nil ⟨(nm, va), rfl, ⟨h1, h2⟩, ?_⟩)))))))
  show GoS [some (tup K [vl nm, vl va, vl ho, vl ex, vl pa, vl se, vl hi, vl sm, vl pr, spcA K sp, brnA K bn, vl sn, vl en]), some (vl nm), some (vl va), some (vl ho), some (vl ex), some (vl pa), some (vl se), some (vl hi), some (vl sm), some (vl pr), some (spcA K sp), some (brnA K bn), some (vl sn), some (vl en), some (tx (textF nm va))] [] _ _
  refine GoS.cut (GoS.mid (fun L' O' => L' = [some (tup K [vl nm, vl va, vl ho, vl ex, vl pa, vl se, vl hi, vl sm, vl pr, spcA K sp, brnA K bn, vl sn, vl en]), some (vl nm), some (vl va), some (vl ho), some (vl ex), some (vl pa), some (vl se), some (vl hi), some (vl sm), some (vl pr), some (spcA K sp), some (brnA K bn), some (vl sn), some (vl en), some (tx (if textF nm va = [] then placeF ⟨ho, ex, pa, se, hi⟩ (prefT nm.txt va.txt) else textF nm va))] ∧ O' = []) (GoS.ite (GoT.test (Go.op (Go.var rfl (Go.cS (l := []) LitS.eq (v_eqS ⟨_, rfl, fun hb => ?_, fun hb => GoS.nil ?_⟩)))))) ?_)
  · have hb : textF nm va = [] := by simpa using hb
    have e0 := getD_nil nt (et.symm.trans hb)
    obtain ⟨a1, e1⟩ := first_no e0
    obtain ⟨a2, _⟩ := first_no e1
    obtain ⟨l, rfl⟩ := name_s a1
    obtain ⟨m, rfl⟩ := val_s a2
    have h1 : l.length ≤ 70000 := h1
    have h2 : m.length ≤ 70000 := h2
    have hpl : (prefT l m).length ≤ 70000 := by rcases prefT_in l m with e | e | e <;> rw [e] <;> decide
    refine GoS.set (Go.callP (GoA.cons (Go.var rfl (GoA.cons (Go.var rfl (GoA.cons (Go.var rfl (GoA.cons (Go.var rfl (GoA.cons (Go.var rfl (GoA.cons (Go.callP (GoA.cons (Go.var rfl (GoA.cons (Go.var rfl (GoA.nil ⟨(l, m), rfl, ⟨h1, h2⟩, GoA.nil ⟨(⟨ho, ex, pa, se, hi⟩, prefT l m), rfl, ⟨⟨h3, h4, h5, h6, h7⟩, hpl⟩, ?_, rfl⟩⟩))))))))))))))))))
    rw [if_pos hb]
    rfl
  · rw [if_neg (by simpa using hb)]
    exact ⟨rfl, rfl⟩
  rintro L' O' ⟨rfl, rfl⟩
  refine GoS.seq (GoS.ite (GoT.test (Go.op (Go.var rfl (Go.cS (l := []) LitS.eq (v_neS ⟨_, rfl, fun hb => ?_, fun hb => GoS.nil ?_⟩))))))
  · refine GoS.ret (Go.var rfl ⟨?_, rfl⟩)
    have hb : (if textF nm va = [] then placeF ⟨ho, ex, pa, se, hi⟩ (prefT nm.txt va.txt) else textF nm va) ≠ [] := by simpa using hb
    refine congrArg tx ?_
    by_cases z : textF nm va = []
    · rw [if_pos z] at hb ⊢
      have e0 := getD_nil nt (et.symm.trans z)
      rw [e0] at ec
      rw [ec, ep]
      rw [ep] at hb
      cases e1 : firstBad (placeTests ⟨ho, ex, pa, se, hi⟩ (prefT nm.txt va.txt)) with
      | none => rw [e1] at hb; exact absurd rfl hb
      | some f => rfl
    · rw [if_neg z] at hb ⊢
      rw [ec, et]
      rw [et] at z
      cases e1 : firstBad [(fName, nameB nm), (fValue, valB nm va)] with
      | none => rw [e1] at z; exact absurd rfl z
      | some f => rfl
  have z : textF nm va = [] := by
    by_cases z : textF nm va = []
    · exact z
    · rw [if_neg z] at hb
      simp [z] at hb
  rw [if_pos z] at hb ⊢
  have e0 := getD_nil nt (et.symm.trans z)
  have e1 := getD_nil np (ep.symm.trans (by simpa using hb))
  rw [e0, e1] at ec
  dsimp only at ec
  obtain ⟨g1, e1⟩ := first_no e1
  obtain ⟨g2, e1⟩ := first_no e1
  obtain ⟨g3, e1⟩ := first_no e1
  obtain ⟨g4, e1⟩ := first_no e1
  obtain ⟨hl, rfl⟩ := host_s g1
  rw [Bool.and_eq_true] at g4
  obtain ⟨x, rfl⟩ := bool_b g4.1
  clear g1 g2 g3 g4 e1 hb et ep nt np e0
  have h3 : hl.length ≤ 70000 := h3
  generalize placeF ⟨.s hl, ex, pa, .b x, hi⟩ (prefT nm.txt va.txt) = F0
  generalize hT : tup K [vl nm, vl va, vl (.s hl), vl ex, vl pa, vl (.b x), vl hi, vl sm, vl pr, spcA K sp, brnA K bn, vl sn, vl en] = T0
  show GoS [some T0, some (vl nm), some (vl va), some (tx hl), some (vl ex), some (vl pa), some (bo x), some (vl hi), some (vl sm), some (vl pr), some (spcA K sp), some (brnA K bn), some (vl sn), some (vl en), some (tx F0)] [] _ _
  have ec : crumbBad ⟨nm, va, .s hl, ex, pa, .b x, hi, sm, pr, sp, bn, sn, en⟩ = firstBad ((fSame, csameB x sm) :: (fPrio, prioB pr) :: (qSpace, liveB hl sm.txt x sp) :: timeTests bn sn en) := ec
  have ks : ∀ i e b : Bool, (!i || (e && !b)) = !(i && !(e && !b)) := by decide
  refine GoS.seq (GoS.ite (GoT.join (!csameB x sm) (GoT.orJ (p := !sm.toT.isLeft) (q := !csameB x sm) ?_ (fun hb => ?_) ⟨?_, rfl⟩) ⟨fun hb => ?_, fun hb => GoS.nil ?_⟩))
  · rcases Vl.text h8 with ⟨l, rfl⟩ | ⟨hB, hv⟩
    · exact GoT.not (GoT.b (Go.cb (GoA.cons (Go.var rfl (GoA.cons (Go.c (GoA.nil (v_is_s_str ⟨true, rfl, rfl, rfl⟩))))))))
    · have hk : sm.toT.isLeft = false := by cases sm <;> first | rfl | exact absurd rfl (hv _)
      rw [hk]
      exact GoT.not (GoT.b (Go.cb (GoA.cons (Go.var rfl (GoA.cons (Go.c (GoA.nil (v_isiOdd hB ⟨false, rfl, rfl, rfl⟩))))))))
  · cases sm with
    | s l =>
      show GoT [some T0, some (vl nm), some (vl va), some (tx hl), some (vl ex), some (vl pa), some (bo x), some (vl hi), some (tx l), some (vl pr), some (spcA K sp), some (brnA K bn), some (vl sn), some (vl en), some (tx F0)] [] _ _
      refine GoT.orJ (p := !decide (l ∈ lcv_SAMES_crumbs)) (q := decide (l = wNone) && !x) ?_ (fun _ => GoT.andJ (p := decide (l = wNone)) (q := !x) (GoT.test (Go.op (Go.var rfl (Go.cS (l := wNone) LitS.eq (v_eqS ⟨_, rfl, rfl, rfl⟩))))) (fun _ => GoT.not (GoT.b (Go.var rfl ⟨x, rfl, rfl, rfl⟩))) ⟨rfl, rfl⟩) ⟨ks _ _ _, rfl⟩
      walk_at "cj11"
    | n => cases hb
    | i x => cases hb
    | b l => cases hb
    | o A => cases hb
  · cases sm <;> simp [Vl.toT, csameB]
  · rw [show csameB x sm = false by simpa only [Bool.not_eq_true'] using hb] at ec
    refine GoS.ret (Go.cS (l := fSame) LitS.eq ?_)
    rw [ec]
    exact ⟨rfl, rfl⟩
  have hb : csameB x sm = true := by simpa only [Bool.not_eq_false'] using hb
  rw [hb, firstBad_t rfl] at ec
  obtain ⟨sl, rfl⟩ : ∃ l, sm = .s l := by
    cases sm with
    | s l => exact ⟨l, rfl⟩
    | _ => cases hb
  clear hb
  have h8 : sl.length ≤ 70000 := h8
  show GoS [some T0, some (vl nm), some (vl va), some (tx hl), some (vl ex), some (vl pa), some (bo x), some (vl hi), some (tx sl), some (vl pr), some (spcA K sp), some (brnA K bn), some (vl sn), some (vl en), some (tx F0)] [] _ _
  refine GoS.seq (GoS.ite (GoT.join (!prioB pr) (GoT.orJ (p := !pr.toI.isLeft) (q := !prioB pr) (GoT.not (GoT.b (Go.callP (GoA.cons (Go.var rfl (GoA.nil ⟨pr.toI, (vAV pr).symm, okVl.i h9, _, rfl, rfl, rfl⟩)))))) (fun hb => ?_) ⟨?_, rfl⟩) ⟨fun hb => ?_, fun hb => GoS.nil ?_⟩))
  · cases pr with
    | i y =>
      show GoT [some T0, some (vl nm), some (vl va), some (tx hl), some (vl ex), some (vl pa), some (bo x), some (vl hi), some (tx sl), some (it y), some (spcA K sp), some (brnA K bn), some (vl sn), some (vl en), some (tx F0)] [] _ _
      walk_at "cj11"
    | n => cases hb
    | b x => cases hb
    | s l => cases hb
    | o A => cases hb
  · cases pr <;> simp [Vl.toI, prioB]
  · rw [show prioB pr = false by simpa only [Bool.not_eq_true'] using hb] at ec
    refine GoS.ret (Go.cS (l := fPrio) LitS.eq ?_)
    rw [ec]
    exact ⟨rfl, rfl⟩
  rw [show prioB pr = true by simpa only [Bool.not_eq_false'] using hb, firstBad_t rfl] at ec
  show GoS [some T0, some (vl nm), some (vl va), some (tx hl), some (vl ex), some (vl pa), some (bo x), some (vl hi), some (tx sl), some (vl pr), some (spcA K sp), some (brnA K bn), some (vl sn), some (vl en), some (tx F0)] [] _ _
  refine GoS.seq (GoS.ite (GoT.not (GoT.b (Go.callP (GoA.cons (Go.var rfl (GoA.cons (Go.var rfl (GoA.cons (Go.var rfl (GoA.cons (Go.var rfl (GoA.nil ⟨⟨hl, sl, x, sp⟩, rfl, ⟨h3, h8, h10⟩, liveB hl sl x sp, rfl, fun hb => ?_, fun hb => GoS.nil ?_⟩)))))))))))))
  · rw [show liveB hl (Vl.s sl).txt x sp = false from by show liveB hl sl x sp = false; simpa only [Bool.not_eq_true'] using hb] at ec
    refine GoS.ret (Go.cS (l := qSpace) LitS.eq ?_)
    rw [ec]
    exact ⟨rfl, rfl⟩
  rw [show liveB hl (Vl.s sl).txt x sp = true from by show liveB hl sl x sp = true; simpa only [Bool.not_eq_false'] using hb, firstBad_t rfl] at ec
  show GoS [some T0, some (vl nm), some (vl va), some (tx hl), some (vl ex), some (vl pa), some (bo x), some (vl hi), some (tx sl), some (vl pr), some (spcA K sp), some (brnA K bn), some (vl sn), some (vl en), some (tx F0)] [] _ _
  refine GoS.ret (Go.callP (GoA.cons (Go.var rfl (GoA.cons (Go.var rfl (GoA.cons (Go.var rfl (GoA.nil ⟨(bn, sn, en), rfl, ⟨h11, h12, h13⟩, ?_, rfl⟩))))))))
  rw [ec]
  rfl
/-! ### Crumb_init -/
def rpCrumb (C B : Addr) (bad : Option (List Nat)) (cls : Value) (fs : List (Str × As)) (O' : OO) : Prop := ∃ f D, bad = some f ∧ cls = .ref B ∧ fs = [(("field" : Str), tx f)] ∧ O' = [(D, .oi true C [])]
def crumbFs (K : PySem.W.Frag) (c : CrumbV) : List (Str × As) := [(("own_parts" : Str), tup K (c.vs K))]
abbrev sp_Crumb_init (T : Txt K mg w) : Sp := SpIX T.C_Crumb (CrumbV.Ok K) (CrumbV.vs K) (crumbFs K) (fun c => crumbBad c = none) (fun c => rpCrumb T.C_Crumb T.C_BadCrumb (crumbBad c))
theorem ok_Crumb_init (T : Txt K mg w) : FnOk P w K mg base (L2.CX P w) 9 T.f_Crumb_init T.d_Crumb_init ["self", "name", "value", "host", "is_exact", "path", "is_secure", "is_hidden", "same", "priority", "space", "born", "seen", "ends"] (sp_Crumb_init T) := by
  refine fnx_sy T.F_Crumb_init sc_Crumb_init (fun _ _ => rfl) fun a cdv A outer s H E hr hp => ⟨_, (pss_cons (ps_set (i := 14) sc_Crumb_init.nd rfl (.inl rfl) (pe_tup (pa_cons (pv 1) (pa_cons (pv 2) (pa_cons (pv 3) (pa_cons (pv 4) (pa_cons (pv 5) (pa_cons (pv 6) (pa_cons (pv 7) (pa_cons (pv 8) (pa_cons (pv 9) (pa_cons (pv 10) (pa_cons (pv 11) (pa_cons (pv 12) (pa_cons (pv 13) pa_nil)))))))))))))))
      (pss_cons (ps_set (i := 15) sc_Crumb_init.nd rfl (.inl rfl) (pe_call (ok_s3_wrong_field (P := P) T) (hr.mono (by decide)) (by rfl) T.g_s3_wrong_field T.F_s3_wrong_field.kp T.b_s3_wrong_field .nil pass0 (pa_cons (pv 14) pa_nil)))
      (pss_cons (ps_if (pt_cmpR op_ne (pv 15) pe_str (nomark _))
      (pss_one (ps_rz rfl takesD (ExS.pmk_ex (pn := "field") T.E_BadCrumb rfl rfl (IsP.eq (P := P)) (hr.mono (by decide)) rfl rfl rfl sci_BadCrumb (by decide +kernel) (by decide) (by decide) (by decide) (fun _ _ _ _ _ _ _ _ _ => rfl) (by rfl) (pa_cons (pv 15) pa_nil))))
      pss_nil)
      (pss_one (kSFld (K := K) rfl (pv 0) (pv 14) rfl))))), ?_⟩
  obtain ⟨D, c⟩ := a
  have hp : c.Ok K := hp
  obtain ⟨nm, va, ho, ex, pa, se, hi, sm, pr, sp, bn, sn, en⟩ := c
  show GoSW _ _ [some (pt D), some (vl nm), some (vl va), some (vl ho), some (vl ex), some (vl pa), some (vl se), some (vl hi), some (vl sm), some (vl pr), some (spcA K sp), some (brnA K bn), some (vl sn), some (vl en), none, none] [(D, .oi true T.C_Crumb [])] _ _
  refine GoSW.seq (GoSW.set (GoW.up (Go.tup (K := K) (GoA.cons (Go.var rfl (GoA.cons (Go.var rfl (GoA.cons (Go.var rfl (GoA.cons (Go.var rfl (GoA.cons (Go.var rfl (GoA.cons (Go.var rfl (GoA.cons (Go.var rfl (GoA.cons (Go.var rfl (GoA.cons (Go.var rfl (GoA.cons (Go.var rfl (GoA.cons (Go.var rfl (GoA.cons (Go.var rfl (GoA.cons (Go.var rfl (GoA.nil ⟨Nat.le_of_ble_eq_true rfl, ?_⟩))))))))))))))))))))))))))))))
  generalize hc : (⟨nm, va, ho, ex, pa, se, hi, sm, pr, sp, bn, sn, en⟩ : CrumbV) = c at hp
  have et : tup K [vl nm, vl va, vl ho, vl ex, vl pa, vl se, vl hi, vl sm, vl pr, spcA K sp, brnA K bn, vl sn, vl en] = tup K (c.vs K) := by rw [← hc]; rfl
  show GoSW _ _ [some (pt D), some (vl nm), some (vl va), some (vl ho), some (vl ex), some (vl pa), some (vl se), some (vl hi), some (vl sm), some (vl pr), some (spcA K sp), some (brnA K bn), some (vl sn), some (vl en), some (tup K [vl nm, vl va, vl ho, vl ex, vl pa, vl se, vl hi, vl sm, vl pr, spcA K sp, brnA K bn, vl sn, vl en]), none] [(D, .oi true T.C_Crumb [])] _ _
  rw [et]
  refine GoSW.seq (GoSW.set (GoW.up (Go.callP (GoA.cons (Go.var rfl (GoA.nil ⟨c, rfl, hp, ?_⟩))))))
  refine GoSW.seq (GoSW.ite (GoWT.up (GoT.test (Go.op (Go.var rfl (Go.cS (l := []) LitS.eq (v_neS ⟨_, rfl, fun hb => ?_, fun hb => GoSW.up (GoS.nil ?_)⟩)))))))
  · have hb : (crumbBad c).getD [] ≠ [] := by simpa using hb
    cases e : crumbBad c with
    | none => rw [e] at hb; exact absurd rfl hb
    | some f =>
      refine GoSW.raise (GoA.cons (Go.var rfl (GoA.nil ⟨_, rfl, f, D, ?_, rfl, rfl, rfl⟩)))
      first | exact e | (rw [hc]; exact e) | rfl
  · have hb : (crumbBad c).getD [] = [] := by simpa using hb
    have ok : crumbBad c = none := getD_nil (ts := crumbTests c) (by
      show ∀ f ∈ [fName, fValue, qHost, qExact, fPath, fSecure, fHidden, fSame, fPrio, qSpace, qBorn, qSeen, qEnds], f ≠ []
      decide) hb
    show GoSW _ _ _ _ _ _
    refine GoSW.up ?_
    walk_at "cj12"
    refine ⟨?_, rfl, ?_⟩
    · first | exact ok | (rw [hc]; exact ok)
    · first | rfl | (rw [hc]; rfl) | (rw [← hc]; rfl)
/-- a crumb that was made -/
def crA (K : PySem.W.Frag) (C : Addr) (c : CrumbV) : As := ins C (crumbFs K c)
instance {K : PySem.W.Frag} {C : Addr} {c : CrumbV} : HasC (crA K C c) C := ⟨fun O => InsC.ins⟩
instance {K : PySem.W.Frag} {C : Addr} {c : CrumbV} : HasF (crA K C c) C "own_parts" (tup K [vl c.nm, vl c.va, vl c.ho, vl c.ex, vl c.pa, vl c.se, vl c.hi, vl c.sm, vl c.pr, spcA K c.sp, brnA K c.bn, vl c.sn, vl c.en]) := ⟨fun O => InsF.ins rfl⟩
/-! ### Crumb_name -/
abbrev sp_Crumb_name (T : Txt K mg w) : Sp := SpP (fun _ : CrumbV => True) (fun c => [crA K T.C_Crumb c]) (fun c => vl c.nm)
theorem ok_Crumb_name (T : Txt K mg w) : FnOk P w K mg base CX0 1 T.f_Crumb_name T.d_Crumb_name ["self"] (sp_Crumb_name T) := by
  refine fn_sy T.F_Crumb_name sc_Crumb_name (fun _ _ => rfl) fun a cdv A outer s H E hr hp => ⟨_, (pss_one (ps_ret (pe_ix (kIxT (K := K) rfl) (kFld (K := K) rfl (pv 0) rfl) pe_int (fun _ _ => rfl)))), ?_⟩
  walk_at "cj12"
/-! ### Crumb_host -/
abbrev sp_Crumb_host (T : Txt K mg w) : Sp := SpP (fun _ : CrumbV => True) (fun c => [crA K T.C_Crumb c]) (fun c => vl c.ho)
theorem ok_Crumb_host (T : Txt K mg w) : FnOk P w K mg base CX0 1 T.f_Crumb_host T.d_Crumb_host ["self"] (sp_Crumb_host T) := by
  refine fn_sy T.F_Crumb_host sc_Crumb_host (fun _ _ => rfl) fun a cdv A outer s H E hr hp => ⟨_, (pss_one (ps_ret (pe_ix (kIxT (K := K) rfl) (kFld (K := K) rfl (pv 0) rfl) pe_int (fun _ _ => rfl)))), ?_⟩
  walk_at "cj12"
/-! ### Crumb_is_exact -/
abbrev sp_Crumb_is_exact (T : Txt K mg w) : Sp := SpP (fun _ : CrumbV => True) (fun c => [crA K T.C_Crumb c]) (fun c => vl c.ex)
theorem ok_Crumb_is_exact (T : Txt K mg w) : FnOk P w K mg base CX0 1 T.f_Crumb_is_exact T.d_Crumb_is_exact ["self"] (sp_Crumb_is_exact T) := by
  refine fn_sy T.F_Crumb_is_exact sc_Crumb_is_exact (fun _ _ => rfl) fun a cdv A outer s H E hr hp => ⟨_, (pss_one (ps_ret (pe_ix (kIxT (K := K) rfl) (kFld (K := K) rfl (pv 0) rfl) pe_int (fun _ _ => rfl)))), ?_⟩
  walk_at "cj12"
/-! ### Crumb_path -/
abbrev sp_Crumb_path (T : Txt K mg w) : Sp := SpP (fun _ : CrumbV => True) (fun c => [crA K T.C_Crumb c]) (fun c => vl c.pa)
theorem ok_Crumb_path (T : Txt K mg w) : FnOk P w K mg base CX0 1 T.f_Crumb_path T.d_Crumb_path ["self"] (sp_Crumb_path T) := by
  refine fn_sy T.F_Crumb_path sc_Crumb_path (fun _ _ => rfl) fun a cdv A outer s H E hr hp => ⟨_, (pss_one (ps_ret (pe_ix (kIxT (K := K) rfl) (kFld (K := K) rfl (pv 0) rfl) pe_int (fun _ _ => rfl)))), ?_⟩
  walk_at "cj12"
/-! ### Crumb_is_secure -/
abbrev sp_Crumb_is_secure (T : Txt K mg w) : Sp := SpP (fun _ : CrumbV => True) (fun c => [crA K T.C_Crumb c]) (fun c => vl c.se)
theorem ok_Crumb_is_secure (T : Txt K mg w) : FnOk P w K mg base CX0 1 T.f_Crumb_is_secure T.d_Crumb_is_secure ["self"] (sp_Crumb_is_secure T) := by
  refine fn_sy T.F_Crumb_is_secure sc_Crumb_is_secure (fun _ _ => rfl) fun a cdv A outer s H E hr hp => ⟨_, (pss_one (ps_ret (pe_ix (kIxT (K := K) rfl) (kFld (K := K) rfl (pv 0) rfl) pe_int (fun _ _ => rfl)))), ?_⟩
  walk_at "cj12"
/-! ### Crumb_priority -/
abbrev sp_Crumb_priority (T : Txt K mg w) : Sp := SpP (fun _ : CrumbV => True) (fun c => [crA K T.C_Crumb c]) (fun c => vl c.pr)
theorem ok_Crumb_priority (T : Txt K mg w) : FnOk P w K mg base CX0 1 T.f_Crumb_priority T.d_Crumb_priority ["self"] (sp_Crumb_priority T) := by
  refine fn_sy T.F_Crumb_priority sc_Crumb_priority (fun _ _ => rfl) fun a cdv A outer s H E hr hp => ⟨_, (pss_one (ps_ret (pe_ix (kIxT (K := K) rfl) (kFld (K := K) rfl (pv 0) rfl) pe_int (fun _ _ => rfl)))), ?_⟩
  walk_at "cj12"
/-! ### Crumb_space -/
abbrev sp_Crumb_space (T : Txt K mg w) : Sp := SpP (fun _ : CrumbV => True) (fun c => [crA K T.C_Crumb c]) (fun c => spcA K c.sp)
theorem ok_Crumb_space (T : Txt K mg w) : FnOk P w K mg base CX0 1 T.f_Crumb_space T.d_Crumb_space ["self"] (sp_Crumb_space T) := by
  refine fn_sy T.F_Crumb_space sc_Crumb_space (fun _ _ => rfl) fun a cdv A outer s H E hr hp => ⟨_, (pss_one (ps_ret (pe_ix (kIxT (K := K) rfl) (kFld (K := K) rfl (pv 0) rfl) pe_int (fun _ _ => rfl)))), ?_⟩
  walk_at "cj12"
/-! ### Crumb_seen -/
abbrev sp_Crumb_seen (T : Txt K mg w) : Sp := SpP (fun _ : CrumbV => True) (fun c => [crA K T.C_Crumb c]) (fun c => vl c.sn)
theorem ok_Crumb_seen (T : Txt K mg w) : FnOk P w K mg base CX0 1 T.f_Crumb_seen T.d_Crumb_seen ["self"] (sp_Crumb_seen T) := by
  refine fn_sy T.F_Crumb_seen sc_Crumb_seen (fun _ _ => rfl) fun a cdv A outer s H E hr hp => ⟨_, (pss_one (ps_ret (pe_ix (kIxT (K := K) rfl) (kFld (K := K) rfl (pv 0) rfl) pe_int (fun _ _ => rfl)))), ?_⟩
  walk_at "cj12"
/-! ### Crumb_ends -/
abbrev sp_Crumb_ends (T : Txt K mg w) : Sp := SpP (fun _ : CrumbV => True) (fun c => [crA K T.C_Crumb c]) (fun c => vl c.en)
theorem ok_Crumb_ends (T : Txt K mg w) : FnOk P w K mg base CX0 1 T.f_Crumb_ends T.d_Crumb_ends ["self"] (sp_Crumb_ends T) := by
  refine fn_sy T.F_Crumb_ends sc_Crumb_ends (fun _ _ => rfl) fun a cdv A outer s H E hr hp => ⟨_, (pss_one (ps_ret (pe_ix (kIxT (K := K) rfl) (kFld (K := K) rfl (pv 0) rfl) pe_int (fun _ _ => rfl)))), ?_⟩
  walk_at "cj12"
end
section
/-! crumbs as data -/
structure CrumbG where
  nm : List Nat
  va : List Nat
  ho : List Nat
  ex : Bool
  pa : List Nat
  se : Bool
  hi : Bool
  sm : List Nat
  pr : Int
  sp : Option ((List Nat × List Nat) × Bool)
  bn : Int × Int
  sn : Int
  en : Option Int
  deriving DecidableEq
def spG : Option ((List Nat × List Nat) × Bool) → SpcV
  | none => .val .n
  | some ((s, h), f) => .two (.inl [.inl s, .inl h]) (.b f)
def enG : Option Int → Vl
  | none => .n
  | some i => .i i
def CrumbG.v (g : CrumbG) : CrumbV := ⟨.s g.nm, .s g.va, .s g.ho, .b g.ex, .s g.pa, .b g.se, .b g.hi, .s g.sm, .i g.pr, spG g.sp, .two (.i g.bn.1) (.i g.bn.2), .i g.sn, enG g.en⟩
/-- the crumb is right -/
def CrumbG.Good (g : CrumbG) : Prop := crumbBad g.v = none
theorem firstBad_none : ∀ {l : List (List Nat × Bool)}, firstBad l = none → ∀ p ∈ l, p.2 = true
  | [], _, p, h => by cases h
  | (f, b) :: r, e, p, h => by
    cases b with
    | false => cases e
    | true =>
      rcases List.mem_cons.mp h with rfl | h
      · rfl
      · exact firstBad_none (l := r) e p h
structure CrumbG.Is (g : CrumbG) : Prop where
  nm : nameB (.s g.nm) = true
  va : valB (.s g.nm) (.s g.va) = true
  ho : isHost g.ho = true
  ex : (g.ex || !(isAddr g.ho || decide (prefT g.nm g.va = pHost))) = true
  pa : isPath g.pa = true
  pf : (decide (g.pa = [47]) || !decide (prefT g.nm g.va = pHost)) = true
  se : (g.se || decide (prefT g.nm g.va = [])) = true
  sm : csameB g.se (.s g.sm) = true
  pr : 0 ≤ g.pr ∧ g.pr ≤ 2
  sp : liveB g.ho g.sm g.se (spG g.sp) = true
  bn : (0 ≤ g.bn.1 ∧ g.bn.1 ≤ 253402300799) ∧ 0 ≤ g.bn.2
  sn : (0 ≤ g.sn ∧ g.sn ≤ 253402300799) ∧ g.bn.1 ≤ g.sn
  en : ∀ i, g.en = some i → (0 ≤ i ∧ i ≤ 253402300799) ∧ g.sn < i ∧ i ≤ g.sn + 34560000
theorem CrumbG.Good.is {g : CrumbG} (h : g.Good) : g.Is := by
  have h := firstBad_none h
  have ht : ∀ {f : List Nat} {b : Bool}, (f, b) ∈ crumbTests g.v → b = true := fun m => h _ m
  have m1 := ht (f := fName) (b := nameB (.s g.nm)) List.mem_cons_self
  have m2 := ht (f := fValue) (b := valB (.s g.nm) (.s g.va)) (List.mem_cons_of_mem _ List.mem_cons_self)
  have h2 : ∀ p ∈ placeTests g.v.place (prefT g.nm g.va), p.2 = true := fun p hp => h p (List.mem_append_right _ (List.mem_append_left _ hp))
  have h3 : ∀ p ∈ [(fSame, csameB g.se (.s g.sm)), (fPrio, prioB (.i g.pr)), (qSpace, liveB g.ho g.sm g.se (spG g.sp))], p.2 = true := fun p hp => h p (List.mem_append_right _ (List.mem_append_right _ (List.mem_append_left _ hp)))
  have h4 : ∀ p ∈ timeTests (.two (.i g.bn.1) (.i g.bn.2)) (.i g.sn) (enG g.en), p.2 = true := fun p hp => h p (List.mem_append_right _ (List.mem_append_right _ (List.mem_append_right _ hp)))
  have p1 := h2 (qHost, isHost g.ho) (List.mem_cons_self)
  have p2 := h2 (qExact, true && (g.ex || !(isAddr g.ho || decide (prefT g.nm g.va = pHost)))) (List.mem_cons_of_mem _ List.mem_cons_self)
  have p3 := h2 (fPath, isPath g.pa && (decide (g.pa = [47]) || !decide (prefT g.nm g.va = pHost))) (List.mem_cons_of_mem _ (List.mem_cons_of_mem _ List.mem_cons_self))
  have p4 := h2 (fSecure, true && (g.se || decide (prefT g.nm g.va = []))) (List.mem_cons_of_mem _ (List.mem_cons_of_mem _ (List.mem_cons_of_mem _ List.mem_cons_self)))
  have q1 := h3 (fSame, csameB g.se (.s g.sm)) List.mem_cons_self
  have q2 := h3 (fPrio, prioB (.i g.pr)) (List.mem_cons_of_mem _ List.mem_cons_self)
  have q3 := h3 (qSpace, liveB g.ho g.sm g.se (spG g.sp)) (List.mem_cons_of_mem _ (List.mem_cons_of_mem _ List.mem_cons_self))
  have t1 := h4 (qBorn, tickV (.i g.bn.1) && decide (0 ≤ g.bn.2)) List.mem_cons_self
  have t2 := h4 (qSeen, tickV (.i g.sn) && !decide (g.sn < g.bn.1)) (List.mem_cons_of_mem _ List.mem_cons_self)
  have t3 := h4 (qEnds, endsB (.i g.sn) (enG g.en)) (List.mem_cons_of_mem _ (List.mem_cons_of_mem _ List.mem_cons_self))
  dsimp only at p1 p2 p3 p4 q1 q2 q3 t1 t2 t3
  have tk : ∀ i : Int, tickV (.i i) = true → 0 ≤ i ∧ i ≤ 253402300799 := fun i h => by
    have h : (decide (0 ≤ i) && decide (i ≤ 253402300799)) = true := h
    rw [Bool.and_eq_true, decide_eq_true_eq, decide_eq_true_eq] at h
    exact h
  rw [Bool.true_and] at p2 p4
  rw [Bool.and_eq_true] at p3 t1 t2
  have q2 : (decide (0 ≤ g.pr) && decide (g.pr ≤ 2)) = true := q2
  rw [Bool.and_eq_true, decide_eq_true_eq, decide_eq_true_eq] at q2
  refine ⟨m1, m2, p1, p2, p3.1, p3.2, p4, q1, q2, q3, ⟨tk _ t1.1, of_decide_eq_true t1.2⟩, ⟨tk _ t2.1, ?_⟩, fun i e => ?_⟩
  · have := t2.2
    simp only [Bool.not_eq_true', decide_eq_false_iff_not] at this
    omega
  · rw [e] at t3
    have t3 : (false || (tickV (.i i) && (decide (g.sn < i) && decide (i ≤ g.sn + 34560000)))) = true := t3
    rw [Bool.false_or, Bool.and_eq_true, Bool.and_eq_true, decide_eq_true_eq, decide_eq_true_eq] at t3
    exact ⟨tk _ t3.1, t3.2.1, t3.2.2⟩
theorem space_is {g : CrumbG} (h : g.Is) {s x : List Nat} {f : Bool} (e : g.sp = some ((s, x), f)) : g.se = true ∧ schemeB s = true ∧ isHost x = true ∧ (if f = true then decide (g.sm = wNone) else fitsB g.ho x && safeB s g.ho) = true := by
  have h1 := h.sp
  rw [e] at h1
  have h1 : (g.se && ((schemeB s && isHost x) && (if f = true then decide (g.sm = wNone) else fitsB g.ho x && safeB s g.ho))) = true := h1
  rw [Bool.and_eq_true, Bool.and_eq_true, Bool.and_eq_true] at h1
  exact ⟨h1.1, h1.2.1.1, h1.2.1.2, h1.2.2⟩
/-- a crumb, or a value of another kind -/
def cr1 (K : PySem.W.Frag) (C : Addr) : CrumbG ⊕ As → As
  | .inl g => crA K C g.v
  | .inr A => A
def okCr (K : PySem.W.Frag) (C : Addr) : CrumbG ⊕ As → Prop
  | .inl g => g.Good
  | .inr A => okNot K C A
def spT (K : PySem.W.Frag) : Option ((List Nat × List Nat) × Bool) → As
  | none => no
  | some ((s, h), f) => tup K [tup K [tx s, tx h], bo f]
theorem spc_T {K : PySem.W.Frag} (o : Option ((List Nat × List Nat) × Bool)) : spcA K (spG o) = spT K o := by
  rcases o with _ | ⟨⟨s, h⟩, f⟩ <;> rfl
theorem en_T (o : Option Int) : vl (enG o) = oI o := by cases o <;> rfl
theorem v_isSpc {K : PySem.W.Frag} {O : OO} {k : As → OO → Prop} {o : Option ((List Nat × List Nat) × Bool)} (q : k (bo o.isNone) O) : V2 O (fun x y H Q => y = V.non ∧ Q (V.bl (decide (x = V.non))) H) (spcA K (spG o)) (cst .non) k := by
  rcases o with _ | ⟨⟨s, h⟩, f⟩
  · exact v_isN (x := .non) q
  · exact v_isNN nn_tup q
theorem v_notEn {O : OO} {k : As → OO → Prop} {o : Option Int} (q : k (bo o.isSome) O) : V2 O (fun x y H Q => y = V.non ∧ Q (V.bl (!decide (x = V.non))) H) (vl (enG o)) (cst .non) k := by
  cases o with
  | none => exact v_notN (x := .non) q
  | some i => exact v_notN (x := .int i) q
end
section
variable {P : Program} {w : World} {K : PySem.W.Frag} {mg : Str → Option Value} {base : Heap} [IsP P]
/-! ### Crumb_key -/
def keyS (K : PySem.W.Frag) : Option ((List Nat × List Nat) × Bool) → As
  | none => tup K []
  | some ((s, h), f) => tup K [tup K [tx s, tx h], bo f]
def keyA (K : PySem.W.Frag) (g : CrumbG) : As := tup K [keyS K g.sp, tx g.ho, bo g.ex, tx g.pa, tx g.nm]
abbrev sp_Crumb_key (T : Txt K mg w) : Sp := SpP (fun _ : CrumbG => True) (fun g => [crA K T.C_Crumb g.v]) (fun g => keyA K g)
theorem ok_Crumb_key (T : Txt K mg w) : FnOk P w K mg base CX0 3 T.f_Crumb_key T.d_Crumb_key ["self"] (sp_Crumb_key T) := by
  refine fn_sy T.F_Crumb_key sc_Crumb_key (fun _ _ => rfl) fun a cdv A outer s H E hr hp => ⟨_, (pss_cons (ps_set (i := 1) sc_Crumb_key.nd rfl (.inl rfl) (pe_ifExp (pt_cmpR op_isN (pe_prop (pv 0) T.K_Crumb.c T.P_Crumb_space (ok_Crumb_space (P := P) T) (hr.mono (by decide)) T.b_Crumb_space .nil pass0 rfl) pe_non (nomark _)) (pe_tup pa_nil) (pe_prop (pv 0) T.K_Crumb.c T.P_Crumb_space (ok_Crumb_space (P := P) T) (hr.mono (by decide)) T.b_Crumb_space .nil pass0 rfl)))
      (pss_one (ps_ret (pe_tup (pa_cons (pv 1) (pa_cons (pe_prop (pv 0) T.K_Crumb.c T.P_Crumb_host (ok_Crumb_host (P := P) T) (hr.mono (by decide)) T.b_Crumb_host .nil pass0 rfl) (pa_cons (pe_prop (pv 0) T.K_Crumb.c T.P_Crumb_is_exact (ok_Crumb_is_exact (P := P) T) (hr.mono (by decide)) T.b_Crumb_is_exact .nil pass0 rfl) (pa_cons (pe_prop (pv 0) T.K_Crumb.c T.P_Crumb_path (ok_Crumb_path (P := P) T) (hr.mono (by decide)) T.b_Crumb_path .nil pass0 rfl) (pa_cons (pe_prop (pv 0) T.K_Crumb.c T.P_Crumb_name (ok_Crumb_name (P := P) T) (hr.mono (by decide)) T.b_Crumb_name .nil pass0 rfl) pa_nil))))))))), ?_⟩
  show GoS [some (crA K T.C_Crumb a.v), none] [] _ _
  refine GoS.seq (GoS.set (Go.join (A := keyS K a.sp) ?_ ?_))
  · refine Go.ite (GoT.test (Go.op (Go.prop (Go.var rfl ⟨InsC.ins, a.v, rfl, trivial, Go.c (v_isSpc ⟨_, rfl, fun hb => ?_, fun hb => Go.prop (Go.var rfl ⟨InsC.ins, a.v, rfl, trivial, ?_, rfl⟩)⟩)⟩))))
    · cases e : a.sp with
      | none => exact Go.tup (K := K) (GoA.nil ⟨Nat.le_of_ble_eq_true rfl, rfl, rfl⟩)
      | some p => rw [e] at hb; cases hb
    · show spcA K (spG a.sp) = _
      cases e : a.sp with
      | none => rw [e] at hb; cases hb
      | some p => obtain ⟨⟨s, h⟩, f⟩ := p; rfl
  show GoS [some (crA K T.C_Crumb a.v), some (keyS K a.sp)] [] _ _
  exact GoS.ret (Go.tup (K := K) (GoA.cons (Go.var rfl (GoA.cons (Go.prop (Go.var rfl ⟨InsC.ins, a.v, rfl, trivial, GoA.cons (Go.prop (Go.var rfl ⟨InsC.ins, a.v, rfl, trivial, GoA.cons (Go.prop (Go.var rfl ⟨InsC.ins, a.v, rfl, trivial, GoA.cons (Go.prop (Go.var rfl ⟨InsC.ins, a.v, rfl, trivial, GoA.nil ⟨Nat.le_of_ble_eq_true rfl, rfl, rfl⟩⟩))⟩))⟩))⟩))))))
/-! ### need_crumb -/
def rpCr (T : Txt K mg w) (a : CrumbG ⊕ As) (cls : Value) (fs : List (Str × As)) (O' : OO) : Prop := a.isRight = true ∧ cls = .ref T.C_BadCrumb ∧ fs = [(("field" : Str), tx [99, 114, 117, 109, 98])] ∧ O' = []
abbrev sp_need_crumb (T : Txt K mg w) : Sp := SpX (okCr K T.C_Crumb) (fun a => [cr1 K T.C_Crumb a]) (fun _ => []) (fun a A O' => O' = [] ∧ a.isLeft = true ∧ A = no) (rpCr T)
theorem ok_need_crumb (T : Txt K mg w) : FnOk P w K mg base (L2.CX P w) 3 T.f_need_crumb T.d_need_crumb ["value"] (sp_need_crumb T) := by
  refine fnx_sy T.F_need_crumb sc_need_crumb (fun _ _ => rfl) fun a cdv A outer s H E hr hp => ⟨_, (pss_one (ps_if (pt_not (pt_val (pe_callB (kIsi (K := K) rfl) (by rfl) T.n_isinstance (by decide +kernel) (pa_cons (pv 0) (pa_cons (pe_glob (v := .ref T.C_Crumb) (by rfl) T.K_Crumb.g rfl) pa_nil)))))
      (pss_one (ps_rz rfl takesD (ExS.pmk_ex (pn := "field") T.E_BadCrumb rfl rfl (IsP.eq (P := P)) (hr.mono (by decide)) rfl rfl rfl sci_BadCrumb (by decide +kernel) (by decide) (by decide) (by decide) (fun _ _ _ _ _ _ _ _ _ => rfl) (by rfl) (pa_cons pe_str pa_nil))))
      pss_nil)), ?_⟩
  cases a with
  | inl v =>
    show GoSW _ _ [some (crA K T.C_Crumb v.v)] [] _ _
    exact GoSW.ite (GoWT.up (GoT.not (GoT.b (Go.cb (GoA.cons (Go.var rfl (GoA.cons (Go.c (GoA.nil (v_isOwn T.K_Crumb InsC.ins ⟨true, rfl, fun z => (by cases z), fun _ => GoSW.up (GoS.nil ⟨rfl, rfl, rfl⟩)⟩))))))))))
  | inr A =>
    obtain ⟨t, h1, h2, h3⟩ := hp
    show GoSW _ _ [some A] [] _ _
    exact GoSW.ite (GoWT.up (GoT.not (GoT.b (Go.cb (GoA.cons (Go.var rfl (GoA.cons (Go.c (GoA.nil (v_isNot T.K_Crumb (h1 _) h2 h3 ⟨false, rfl, fun _ => GoSW.raise (GoA.cons (Go.cS (l := [99, 114, 117, 109, 98]) LitS.eq (GoA.nil ⟨_, rfl, rfl, rfl, rfl, rfl⟩))), fun z => (by cases z)⟩))))))))))
/-! ### s3_has_ended -/
def endedB (g : CrumbG) (t : Int) : Bool := match g.en with
  | none => false
  | some e => decide (e ≤ t)
abbrev sp_s3_has_ended (T : Txt K mg w) : Sp := SpP (fun _ : CrumbG × Int => True) (fun a => [crA K T.C_Crumb a.1.v, it a.2]) (fun a => bo (endedB a.1 a.2))
theorem ok_s3_has_ended (T : Txt K mg w) : FnOk P w K mg base CX0 3 T.f_s3_has_ended T.d_s3_has_ended ["crumb", "tick"] (sp_s3_has_ended T) := by
  refine fn_sy T.F_s3_has_ended sc_s3_has_ended (fun _ _ => rfl) fun a cdv A outer s H E hr hp => ⟨_, (pss_one (ps_ret (pe_and (pe_cmpR op_notN (pe_prop (pv 0) T.K_Crumb.c T.P_Crumb_ends (ok_Crumb_ends (P := P) T) (hr.mono (by decide)) T.b_Crumb_ends .nil pass0 rfl) pe_non (nomark _)) (pe_one (pe_cmpR op_le (pe_prop (pv 0) T.K_Crumb.c T.P_Crumb_ends (ok_Crumb_ends (P := P) T) (hr.mono (by decide)) T.b_Crumb_ends .nil pass0 rfl) (pv 1) (nomark _)))))), ?_⟩
  obtain ⟨g, t⟩ := a
  show GoS [some (crA K T.C_Crumb g.v), some (it t)] [] _ _
  refine GoS.ret (Go.andVJ (p := g.en.isSome) (q := endedB g t) (Go.op (Go.prop (Go.var rfl ⟨InsC.ins, g.v, rfl, trivial, Go.c (v_notEn ⟨rfl, rfl⟩)⟩))) (fun hb => ?_) ⟨?_, rfl⟩)
  · refine Go.op (Go.prop (Go.var rfl ⟨InsC.ins, g.v, rfl, trivial, Go.var rfl ?_⟩))
    show V2 _ _ (vl (enG g.en)) _ _
    cases e : g.en with
    | none => rw [e] at hb; cases hb
    | some i =>
      refine v_le ⟨?_, rfl⟩
      unfold endedB
      rw [e]
  · show bo (g.en.isSome && endedB g t) = bo (endedB g t)
    unfold endedB
    cases g.en <;> simp
/-! ### has_ended -/
def rpEnded (T : Txt K mg w) (a : (CrumbG ⊕ As) × (Int ⊕ As)) (cls : Value) (fs : List (Str × As)) (O' : OO) : Prop := rpCr T a.1 cls fs O' ∨ a.1.isLeft = true ∧ rpTick T a.2 cls fs O'
abbrev sp_has_ended (T : Txt K mg w) : Sp := SpX (fun a : (CrumbG ⊕ As) × (Int ⊕ As) => okCr K T.C_Crumb a.1 ∧ okI K a.2) (fun a => [cr1 K T.C_Crumb a.1, vX a.2]) (fun _ => []) (fun a A O' => O' = [] ∧ ∃ g t, a = (.inl g, .inl t) ∧ tickB (.inl t) = true ∧ A = bo (endedB g t)) (rpEnded T)
theorem ok_has_ended (T : Txt K mg w) : FnOk P w K mg base (L2.CX P w) 4 T.f_has_ended T.d_has_ended ["crumb", "tick"] (sp_has_ended T) := by
  refine fnx_sy T.F_has_ended sc_has_ended (fun _ _ => rfl) fun a cdv A outer s H E hr hp => ⟨_, (pss_cons (ps_expr (pe_callS (ok_need_crumb (P := P) T) (hr.mono (by decide)) (by rfl) T.g_need_crumb T.F_need_crumb.kp T.b_need_crumb (fun σ => passAt takesD σ) (pa_cons (pv 0) pa_nil)))
      (pss_cons (ps_expr (pe_callS (ok_need_tick (P := P) T) (hr.mono (by decide)) (by rfl) T.g_need_tick T.F_need_tick.kp T.b_need_tick (fun σ => passAt takesD σ) (pa_cons (pv 1) pa_nil)))
      (pss_one (ps_ret (pe_call (ok_s3_has_ended (P := P) T) (hr.mono (by decide)) (by rfl) T.g_s3_has_ended T.F_s3_has_ended.kp T.b_s3_has_ended .nil pass0 (pa_cons (pv 0) (pa_cons (pv 1) pa_nil))))))), ?_⟩
  obtain ⟨r, h⟩ := a
  obtain ⟨h1, h2⟩ := hp
  dsimp only at h1 h2
  show GoSW _ _ [some (cr1 K T.C_Crumb r), some (vX h)] [] _ _
  refine GoSW.seq (GoSW.drop (GoW.call (fun _ _ h => nomatch h) (GoWA.up (GoA.cons (Go.var rfl (GoA.nil ⟨r, [], rfl, rfl, h1, fun cls fs O' q => ?_, fun A O' q => ?_⟩))))))
  · rw [List.append_nil]; exact .inl q
  obtain ⟨rfl, e1, rfl⟩ := q
  refine GoSW.seq (GoSW.drop (GoW.call (fun _ _ h => nomatch h) (GoWA.up (GoA.cons (Go.var rfl (GoA.nil ⟨h, [], rfl, rfl, h2, fun cls fs O' q => ?_, fun A O' q => ?_⟩))))))
  · rw [List.append_nil]; exact .inr ⟨e1, q⟩
  obtain ⟨e2, rfl, rfl⟩ := q
  cases r with
  | inr A => cases e1
  | inl g =>
    cases h with
    | inr A => cases e2
    | inl t => exact GoSW.up (GoS.ret (Go.callP (GoA.cons (Go.var rfl (GoA.cons (Go.var rfl (GoA.nil ⟨(g, t), rfl, trivial, rfl, g, t, rfl, e2, rfl⟩)))))))
end
section
/-! the law's own suffixes and families, over a few rules and hosts -/
theorem cut_map {α β : Type} (l : List α) (f : α → β) (lo hi : Option Int) : cut (l.map f) lo hi = (cut l lo hi).map f := by
  unfold cut
  rw [List.length_map, ← List.map_drop, ← List.map_take]
theorem sum_len {b : Nat} : ∀ {ws : List (List Nat)}, (∀ x ∈ ws, x.length ≤ b) → (ws.map (·.length)).sum ≤ ws.length * b
  | [], _ => by simp
  | w :: ws, h => by
    have h1 := h w List.mem_cons_self
    have h2 := sum_len fun x hx => h x (List.mem_cons_of_mem _ hx)
    rw [List.map_cons, List.sum_cons, List.length_cons, Nat.succ_mul]
    omega
theorem cut_mem {α : Type} {l : List α} {lo hi : Option Int} {x : α} (h : x ∈ cut l lo hi) : x ∈ l := by
  unfold cut at h
  exact List.mem_of_mem_drop (List.mem_of_mem_take h)
theorem cut_join_ok {l : List Nat} (hl : l.length ≤ 200) (lo hi : Option Int) : ((cut (parts 46 l) lo hi).map (·.length)).sum + (cut (parts 46 l) lo hi).length * ([46] : List Nat).length ≤ 1000000 := by
  have h1 := cut_len (parts 46 l) lo hi
  have h2 := parts_len 46 l
  have h3 := sum_len (b := 200) (ws := cut (parts 46 l) lo hi) fun x hx => by
    have := parts_each 46 x (cut_mem hx)
    omega
  have h4 := Nat.mul_le_mul_right 200 (show (cut (parts 46 l) lo hi).length ≤ 201 by omega)
  simp only [List.length_singleton, Nat.mul_one]
  omega
end
section
theorem same_short : ∀ l ∈ lcv_SAMES_crumbs, l.length ≤ 70000 := by decide +kernel
theorem CrumbG.Is.ok {K : PySem.W.Frag} {g : CrumbG} (h : g.Is) : g.v.Ok K := by
  have h1 := h.nm
  have h2 := h.va
  have h1 : (keptT g.nm [61, 59] && decide ((g.nm.length : Int) ≤ 4096)) = true := h1
  have h2 : (keptB (.s g.va) [59] && (decide (1 ≤ (g.nm.length : Int) + (g.va.length : Int)) && decide ((g.nm.length : Int) + (g.va.length : Int) ≤ 4096))) = true := h2
  have h3 : (decide (g.sm ∈ lcv_SAMES_crumbs) && _) = true := h.sm
  rw [Bool.and_eq_true, decide_eq_true_eq] at h1
  rw [Bool.and_eq_true, Bool.and_eq_true, decide_eq_true_eq, decide_eq_true_eq] at h2
  rw [Bool.and_eq_true, decide_eq_true_eq] at h3
  have hpa : g.pa.length ≤ 200 := by
    have := h.pa
    unfold isPath at this
    simp only [Bool.and_eq_true, decide_eq_true_eq] at this
    omega
  have hho := (isHost_len h.ho).1
  refine ⟨(by show g.nm.length ≤ 70000; omega), (by show g.va.length ≤ 70000; omega), (by show g.ho.length ≤ 70000; omega), True.intro, (by show g.pa.length ≤ 70000; omega), True.intro, True.intro, same_short _ h3.1, True.intro, ?_, ⟨True.intro, True.intro⟩, True.intro, ?_⟩
  · show okSpc K (spG g.sp)
    cases e : g.sp with
    | none => exact ⟨True.intro, odd_t_n⟩
    | some p =>
      obtain ⟨⟨s, x⟩, f⟩ := p
      obtain ⟨_, a, b, _⟩ := space_is h e
      refine ⟨⟨by simp, fun y hy => ?_⟩, True.intro⟩
      simp only [List.mem_cons, List.not_mem_nil, or_false] at hy
      rcases hy with rfl | rfl
      · have := of_decide_eq_true a
        simp only [List.mem_cons, List.not_mem_nil, or_false] at this
        show s.length ≤ 70000
        rcases this with rfl | rfl <;> decide
      · have := (isHost_len b).1
        show x.length ≤ 70000
        omega
  · show okVl K (enG g.en)
    cases g.en <;> exact True.intro
theorem CrumbG.Is.good {g : CrumbG} (h : g.Is) : g.Good := by
  have tk : ∀ i : Int, 0 ≤ i ∧ i ≤ 253402300799 → tickV (.i i) = true := fun i h => by
    show (decide (0 ≤ i) && decide (i ≤ 253402300799)) = true
    rw [decide_eq_true h.1, decide_eq_true h.2]
    rfl
  show firstBad ((fName, nameB (.s g.nm)) :: (fValue, valB (.s g.nm) (.s g.va)) :: (qHost, isHost g.ho) :: (qExact, (true && (g.ex || !(isAddr g.ho || decide (prefT g.nm g.va = pHost))))) :: (fPath, (isPath g.pa && (decide (g.pa = [47]) || !decide (prefT g.nm g.va = pHost)))) :: (fSecure, (true && (g.se || decide (prefT g.nm g.va = [])))) :: (fHidden, true) :: (fSame, csameB g.se (.s g.sm)) :: (fPrio, prioB (.i g.pr)) :: (qSpace, liveB g.ho g.sm g.se (spG g.sp)) :: (qBorn, (tickV (.i g.bn.1) && decide (0 ≤ g.bn.2))) :: (qSeen, (tickV (.i g.sn) && !decide (g.sn < g.bn.1))) :: (qEnds, endsB (.i g.sn) (enG g.en)) :: []) = none
  have hpr : prioB (.i g.pr) = true := by
    show (decide (0 ≤ g.pr) && decide (g.pr ≤ 2)) = true
    rw [decide_eq_true h.pr.1, decide_eq_true h.pr.2]
    rfl
  have hen : endsB (.i g.sn) (enG g.en) = true := by
    cases e : g.en with
    | none => rfl
    | some i =>
      obtain ⟨a, b, c⟩ := h.en i e
      show (false || (tickV (.i i) && (decide (g.sn < i) && decide (i ≤ g.sn + 34560000)))) = true
      rw [tk i a, decide_eq_true b, decide_eq_true c]
      rfl
  have hsn : (tickV (.i g.sn) && !decide (g.sn < g.bn.1)) = true := by
    rw [tk _ h.sn.1, decide_eq_false (by have := h.sn.2; omega)]
    rfl
  have hbn : (tickV (.i g.bn.1) && decide (0 ≤ g.bn.2)) = true := by
    rw [tk _ h.bn.1, decide_eq_true h.bn.2]
    rfl
  refine (firstBad_t h.nm).trans ((firstBad_t h.va).trans ((firstBad_t h.ho).trans ((firstBad_t (by rw [h.ex]; rfl)).trans ((firstBad_t (by rw [h.pa, h.pf]; rfl)).trans ((firstBad_t (by rw [h.se]; rfl)).trans ((firstBad_t rfl).trans ((firstBad_t h.sm).trans ((firstBad_t hpr).trans ((firstBad_t h.sp).trans ((firstBad_t hbn).trans ((firstBad_t hsn).trans ((firstBad_t hen).trans rfl))))))))))))
end
section
/-! keys and ranks of crumbs as data -/
def spE : Option ((List Nat × List Nat) × Bool) → PyData
  | none => .tuple []
  | some ((s, h), f) => .tuple [.tuple [.str (S s), .str (S h)], .bool f]
def spN : Option ((List Nat × List Nat) × Bool) → PyData
  | none => .none
  | some ((s, h), f) => .tuple [.tuple [.str (S s), .str (S h)], .bool f]
def keyE (g : CrumbG) : PyData := .tuple [spE g.sp, .str (S g.ho), .bool g.ex, .str (S g.pa), .str (S g.nm)]
def optE : Option Int → PyData
  | none => .none
  | some i => .int i
def rankE (g : CrumbG) : PyData := .tuple [.int g.pr, .bool g.se, .int g.sn, keyE g]
def rankA (K : PySem.W.Frag) (g : CrumbG) : As := tup K [it g.pr, bo g.se, it g.sn, keyA K g]
def endE (g : CrumbG) : PyData := .tuple [optE g.en, keyE g]
def endA (K : PySem.W.Frag) (g : CrumbG) : As := tup K [oI g.en, keyA K g]
def grpE (rs : List (List Nat)) (g : CrumbG) : PyData := .tuple [spN g.sp, .str (S (famT rs g.ho))]
def grpA (K : PySem.W.Frag) (rs : List (List Nat)) (g : CrumbG) : As := tup K [spT K g.sp, tx (famT rs g.ho)]
/-- a crumb of plain signs -/
structure AscC (g : CrumbG) : Prop where
  nm : ∀ c ∈ g.nm, c < 128
  ho : ∀ c ∈ g.ho, c < 128
  pa : ∀ c ∈ g.pa, c < 128
  s1 : ∀ s x f, g.sp = some ((s, x), f) → ∀ c ∈ s, c < 128
  s2 : ∀ s x f, g.sp = some ((s, x), f) → ∀ c ∈ x, c < 128
  ln : g.nm.length ≤ 4096 ∧ g.ho.length ≤ 200 ∧ g.pa.length ≤ 200
  ls : ∀ s x f, g.sp = some ((s, x), f) → s.length ≤ 200 ∧ x.length ≤ 200
section
variable {K : PySem.W.Frag} {g : CrumbG}
theorem sp_shK (h : AscC g) : ShD K (keyS K g.sp) (spE g.sp) 2 500 := by
  cases e : g.sp with
  | none => exact (ShD.tup .nil).le (by decide) (by omega)
  | some p =>
    obtain ⟨⟨s, x⟩, f⟩ := p
    have l := h.ls s x f e
    exact (ShD.tup (.cons (ShD.tup (.cons (ShD.tx (h.s1 s x f e)) (.cons (ShD.tx (h.s2 s x f e)) .nil))) (.cons (ShD.bo (x := f)) .nil))).le (by decide) (by omega)
theorem sp_shN (h : AscC g) : ShD K (spT K g.sp) (spN g.sp) 2 500 := by
  cases e : g.sp with
  | none => exact (ShD.no).le (by decide) (by omega)
  | some p =>
    obtain ⟨⟨s, x⟩, f⟩ := p
    have l := h.ls s x f e
    exact (ShD.tup (.cons (ShD.tup (.cons (ShD.tx (h.s1 s x f e)) (.cons (ShD.tx (h.s2 s x f e)) .nil))) (.cons (ShD.bo (x := f)) .nil))).le (by decide) (by omega)
theorem key_sh (h : AscC g) : ShD K (keyA K g) (keyE g) 3 6000 := by
  have l := h.ln
  exact (ShD.tup (.cons (sp_shK h) (.cons (ShD.tx h.ho) (.cons (ShD.bo (x := g.ex)) (.cons (ShD.tx h.pa) (.cons (ShD.tx h.nm) .nil)))))).le (by decide) (by omega)
theorem rank_sh (h : AscC g) (hg : g.Is) : ShD K (rankA K g) (rankE g) 4 6100 := by
  have h1 := hg.pr
  have h2 := hg.sn.1
  exact (ShD.tup (.cons (ShD.it h1.1 (by omega)) (.cons (ShD.bo (x := g.se)) (.cons (ShD.it h2.1 (by omega)) (.cons (key_sh h) .nil))))).le (by decide) (by omega)
theorem end_sh (h : AscC g) (hg : g.Is) : ShD K (endA K g) (endE g) 4 6100 := by
  have e1 : ShD K (oI g.en) (optE g.en) 0 0 := by
    cases e : g.en with
    | none => exact ShD.no
    | some i => exact ShD.it (hg.en i e).1.1 (by have := (hg.en i e).1.2; omega)
  exact (ShD.tup (.cons e1 (.cons (key_sh h) .nil))).le (by decide) (by omega)
end
theorem alike_sp (o o' : Option ((List Nat × List Nat) × Bool)) : PySem.W.alike (spE o) (spE o') = true := by
  rcases o with _ | ⟨⟨s, h⟩, f⟩ <;> rcases o' with _ | ⟨⟨s', h'⟩, f'⟩ <;> simp [spE, PySem.W.alike, PySem.W.alikeAll]
theorem alike_key (g g' : CrumbG) : PySem.W.alike (keyE g) (keyE g') = true := by
  simp [keyE, PySem.W.alike, PySem.W.alikeAll, alike_sp]
theorem alike_rank (g g' : CrumbG) : PySem.W.alike (rankE g) (rankE g') = true := by
  simp [rankE, PySem.W.alike, PySem.W.alikeAll, alike_key]
theorem alike_end {g g' : CrumbG} (h : g.en.isSome = true) (h' : g'.en.isSome = true) : PySem.W.alike (endE g) (endE g') = true := by
  obtain ⟨i, e⟩ := Option.isSome_iff_exists.mp h
  obtain ⟨j, e'⟩ := Option.isSome_iff_exists.mp h'
  simp [endE, e, e', optE, PySem.W.alike, PySem.W.alikeAll, alike_key]
/-- a crumb told with its address -/
def crI (K : PySem.W.Frag) (C : Addr) (x : CrumbG × Addr) : As := insA x.2 C (crumbFs K x.1.v)
/-- what has ended, by ends and keys -/
def sweptL (t : Int) (l : List (CrumbG × Addr)) : List (CrumbG × Addr) := (l.filter fun x => endedB x.1 t).mergeSort (PySem.W.dataLe false fun x => endE x.1)
def leastC (l : List (CrumbG × Addr)) : Option CrumbG := ((l.mergeSort (PySem.W.dataLe false fun x => rankE x.1)).map (·.1)).head?
def keyO (K : PySem.W.Frag) : Option CrumbG → As
  | none => no
  | some g => keyA K g
def keyOE : Option CrumbG → PyData
  | none => .none
  | some g => keyE g
/-- what goes is called with -/
structure GoesV where
  rs : List (List Nat)
  l : List (CrumbG × Addr)
  k : CrumbG
  mf : Int
  m : Int
def GoesV.added (a : GoesV) : List (CrumbG × Addr) := a.l.filter fun x => PyData.eqv (keyE x.1) (keyE a.k)
def GoesV.group (a : GoesV) : List (CrumbG × Addr) := match a.added with
  | [] => []
  | y :: _ => a.l.filter fun x => PyData.eqv (grpE a.rs x.1) (grpE a.rs y.1)
def GoesV.out (a : GoesV) : Option CrumbG := if decide (a.mf < (a.group.length : Int)) = true then leastC a.group else if decide (a.m < (a.l.length : Int)) = true then leastC a.l else none
structure GoesV.Ok (a : GoesV) : Prop where
  rs : GoodR a.rs
  n : a.l.length ≤ 1000
  l : ∀ x ∈ a.l, x.1.Good ∧ AscC x.1 ∧ ∀ c ∈ famT a.rs x.1.ho, c < 128
  k : AscC a.k
  mf : 0 ≤ a.mf
  m : 0 ≤ a.m
theorem ended_some {g : CrumbG} {t : Int} (h : endedB g t = true) : g.en.isSome = true := by
  unfold endedB at h
  cases e : g.en with
  | none => rw [e] at h; cases h
  | some i => rfl
theorem leastC_some {l : List (CrumbG × Addr)} (h : l ≠ []) : ∃ g, leastC l = some g ∧ ((l.mergeSort (PySem.W.dataLe false fun x => rankE x.1)).map fun x => x.1)[0]? = some g := by
  have hz : 0 < (l.mergeSort (PySem.W.dataLe false fun x => rankE x.1)).length := by
    rw [List.length_mergeSort]
    exact List.length_pos_iff.mpr h
  unfold leastC
  cases e : l.mergeSort (PySem.W.dataLe false fun x => rankE x.1) with
  | nil => rw [e] at hz; exact absurd hz (by decide)
  | cons y r => exact ⟨y.1, rfl, rfl⟩
end
section
theorem Go.endedR {w : World} {K : PySem.W.Frag} {mg : Str → Option Value} {T : Txt K mg w} {L : LL} {O : OO} {k : As → OO → Prop} {X : XK} {t : TA} (h : GoA L O t fun l O1 => ∃ (g : CrumbG) (i : Int), g.Good ∧ (0 ≤ i ∧ i ≤ 253402300799) ∧ l = [crA K T.C_Crumb g.v, it i] ∧ k (bo (endedB g i)) O1) : Go L O (tCall (sp_has_ended T) [] X t) k :=
  Go.callX (fun _ _ h => nomatch h) fun E G0 H0 σ G H Q f s z => h _ _ _ _ _ _ _ f s fun l O' G' H' vs q => z _ _ _ _ _ (by
    obtain ⟨g, i, hg, ⟨i0, i1⟩, rfl, hk⟩ := q
    have ht : tickB (.inl i) = true := by show (decide (0 ≤ i) && decide (i ≤ 253402300799)) = true; rw [decide_eq_true i0, decide_eq_true i1]; rfl
    refine ⟨(.inl g, .inl i), O', rfl, rfl, ⟨hg, True.intro⟩, fun cls fs O2 q => ?_, fun A O2 ⟨e1, g', i', e2, _, e3⟩ => ?_⟩
    · rcases q with q | ⟨_, q⟩
      · cases q.1
      · rw [show tickB (.inl i) = false from q.1] at ht
        cases ht
    · cases e2
      subst e1 e3
      exact hk)
end
section
variable {P : Program} {w : World} {K : PySem.W.Frag} {mg : Str → Option Value} {base : Heap} [IsP P]
/-! ### rank_of -/
abbrev sp_rank_of (T : Txt K mg w) : Sp := SpP (fun _ : CrumbG => True) (fun g => [crA K T.C_Crumb g.v]) (fun g => rankA K g)
theorem ok_rank_of (T : Txt K mg w) : FnOk P w K mg base CX0 5 T.f_rank_of T.d_rank_of ["crumb"] (sp_rank_of T) := by
  refine fn_sy T.F_rank_of sc_rank_of (fun _ _ => rfl) fun a cdv A outer s H E hr hp => ⟨_, (pss_one (ps_ret (pe_tup (pa_cons (pe_prop (pv 0) T.K_Crumb.c T.P_Crumb_priority (ok_Crumb_priority (P := P) T) (hr.mono (by decide)) T.b_Crumb_priority .nil pass0 rfl) (pa_cons (pe_prop (pv 0) T.K_Crumb.c T.P_Crumb_is_secure (ok_Crumb_is_secure (P := P) T) (hr.mono (by decide)) T.b_Crumb_is_secure .nil pass0 rfl) (pa_cons (pe_prop (pv 0) T.K_Crumb.c T.P_Crumb_seen (ok_Crumb_seen (P := P) T) (hr.mono (by decide)) T.b_Crumb_seen .nil pass0 rfl) (pa_cons (pe_prop (pv 0) T.K_Crumb.c T.P_Crumb_key (ok_Crumb_key (P := P) T) (hr.mono (by decide)) T.b_Crumb_key .nil pass0 rfl) pa_nil))))))), ?_⟩
  show GoS [some (crA K T.C_Crumb a.v)] [] _ _
  exact GoS.ret (Go.tup (K := K) (GoA.cons (Go.prop (Go.var rfl ⟨InsC.ins, a.v, rfl, trivial, GoA.cons (Go.prop (Go.var rfl ⟨InsC.ins, a.v, rfl, trivial, GoA.cons (Go.prop (Go.var rfl ⟨InsC.ins, a.v, rfl, trivial, GoA.cons (Go.prop (Go.var rfl ⟨InsC.ins, a, rfl, trivial, GoA.nil ⟨Nat.le_of_ble_eq_true rfl, rfl, rfl⟩⟩))⟩))⟩))⟩))))
/-! ### group_of -/
theorem Go.famR {w : World} {K : PySem.W.Frag} {mg : Str → Option Value} {T : Txt K mg w} {L : LL} {O : OO} {k : As → OO → Prop} {X : XK} {t : TA} (h : GoA L O t fun l O1 => ∃ (rs : List (List Nat)) (h : List Nat), GoodR rs ∧ isHost h = true ∧ l = [tup K (rs.map tx), tx h] ∧ k (tx (famT rs h)) O1) : Go L O (tCall (sp_family_of T) [] X t) k :=
  Go.callX (fun _ _ h => nomatch h) fun E G0 H0 σ G H Q f s z => h _ _ _ _ _ _ _ f s fun l O' G' H' vs q => z _ _ _ _ _ (by
    obtain ⟨rs, h, G9, hh, rfl, hk⟩ := q
    have hb : hostB (.inl h) = true := hh
    refine ⟨(.inl (rs.map Sum.inl), .inl h), O', ?_, rfl, ⟨rules_okTu G9, (by show h.length ≤ 70000; have := (isHost_len hh).1; omega)⟩, fun cls fs O2 q => ?_, fun A O2 ⟨e1, rs', h', e2, _, _, e3⟩ => ?_⟩
    · show _ = [tuA K (.inl (rs.map Sum.inl)), _]
      rw [rules_as]
      rfl
    · rcases q with ⟨A, e1, _⟩ | ⟨_, q⟩
      · dsimp only at e1
        rw [rules_no G9] at e1
        cases e1
      · rw [show hostB (.inl h) = false from q.1] at hb
        cases hb
    · obtain ⟨er, eh⟩ := Prod.mk.inj e2
      have er2 : rs = rs' := inl_inj (Sum.inl.inj er)
      have eh2 : h = h' := Sum.inl.inj eh
      subst er2 eh2 e1 e3
      exact hk)
abbrev sp_group_of (T : Txt K mg w) : Sp := SpP (fun a : List (List Nat) × CrumbG => GoodR a.1 ∧ isHost a.2.ho = true) (fun a => [tup K (a.1.map tx), crA K T.C_Crumb a.2.v]) (fun a => grpA K a.1 a.2)
theorem ok_group_of (T : Txt K mg w) : FnOk P w K mg base CX0 9 T.f_group_of T.d_group_of ["rules", "crumb"] (sp_group_of T) := by
  refine fn_sy T.F_group_of sc_group_of (fun _ _ => rfl) fun a cdv A outer s H E hr hp => ⟨_, (pss_one (ps_ret (pe_tup (pa_cons (pe_prop (pv 1) T.K_Crumb.c T.P_Crumb_space (ok_Crumb_space (P := P) T) (hr.mono (by decide)) T.b_Crumb_space .nil pass0 rfl) (pa_cons (pe_call (ok_family_of (P := P) T) (hr.mono (by decide)) (by rfl) T.g_family_of T.F_family_of.kp T.b_family_of .nil passF (pa_cons (pv 0) (pa_cons (pe_prop (pv 1) T.K_Crumb.c T.P_Crumb_host (ok_Crumb_host (P := P) T) (hr.mono (by decide)) T.b_Crumb_host .nil pass0 rfl) pa_nil))) pa_nil))))), ?_⟩
  obtain ⟨rs, g⟩ := a
  obtain ⟨h1, h2⟩ := hp
  dsimp only at h1 h2
  show GoS [some (tup K (rs.map tx)), some (crA K T.C_Crumb g.v)] [] _ _
  refine GoS.ret (Go.tup (K := K) (GoA.cons (Go.prop (Go.var rfl ⟨InsC.ins, g.v, rfl, trivial, ?_⟩))))
  refine GoA.cons (Go.famR (GoA.cons (Go.var rfl (GoA.cons (Go.prop (Go.var rfl ⟨InsC.ins, g.v, rfl, trivial, GoA.nil ⟨rs, g.ho, h1, h2, rfl, GoA.nil ⟨Nat.le_of_ble_eq_true rfl, ?_, rfl⟩⟩⟩))))))
  show tup K [spcA K (spG g.sp), tx (famT rs g.ho)] = grpA K rs g
  rw [spc_T]
  rfl
/-! ### swept -/
abbrev sp_swept (T : Txt K mg w) : Sp := SpP (fun a : List (CrumbG × Addr) × Int => a.1.length ≤ 1000 ∧ (∀ x ∈ a.1, x.1.Good ∧ AscC x.1) ∧ (0 ≤ a.2 ∧ a.2 ≤ 253402300799)) (fun a => [tup K (a.1.map (crI K T.C_Crumb)), it a.2]) (fun a => tup K [tup K ((a.1.filter fun x => !endedB x.1 a.2).map (crI K T.C_Crumb)), tup K ((sweptL a.2 a.1).map fun x => keyA K x.1)])
theorem ok_swept (T : Txt K mg w) : FnOk P w K mg base CX0 5 T.f_swept T.d_swept ["crumbs", "tick"] (sp_swept T) := by
  refine fn_sy T.F_swept sc_swept (fun _ _ => rfl) fun a cdv A outer s H E hr hp => ⟨_, (pss_cons (ps_set (i := 2) sc_swept.nd rfl (.inl rfl) (pe_callTy (kTup (K := K) rfl) (by rfl) T.n_tuple (by decide +kernel) (pa_cons (pe_lc (own := [("crumb", 4)]) (g := gName 4) (by rfl) sc_swept.nd (kpTup (K := K) rfl (pv 0)) (blkOk_by (own := [("crumb", 4)]) (N := N_swept) (sc := defScope S_swept) (by decide +kernel)) (fun _ _ _ _ _ => (pg_name (i := 4) sc_swept.nd rfl (.inl rfl))) (fun _ _ _ _ _ => (pts_one (pt_not (pt_val (pe_call (ok_has_ended (P := P) T) (hr.mono (by decide)) (by rfl) T.g_has_ended T.F_has_ended.kp T.b_has_ended .nil passF (pa_cons (pv 4) (pa_cons (pv 1) pa_nil))))))) (fun _ _ _ _ _ => (pv 4))) pa_nil)))
      (pss_cons (ps_set (i := 3) sc_swept.nd rfl (.inl rfl) (pe_callB (kSortD (K := K) rfl (hu65 hr)) (by rfl) T.n_sorted (by decide +kernel) (pa_cons (pe_lc (own := [("crumb", 4)]) (g := gName 4) (by rfl) sc_swept.nd (kpTup (K := K) rfl (pv 0)) (blkOk_by (own := [("crumb", 4)]) (N := N_swept) (sc := defScope S_swept) (by decide +kernel)) (fun _ _ _ _ _ => (pg_name (i := 4) sc_swept.nd rfl (.inl rfl))) (fun _ _ _ _ _ => (pts_one (pt_val (pe_call (ok_has_ended (P := P) T) (hr.mono (by decide)) (by rfl) T.g_has_ended T.F_has_ended.kp T.b_has_ended .nil passF (pa_cons (pv 4) (pa_cons (pv 1) pa_nil)))))) (fun _ _ _ _ _ => (pe_tup (pa_cons (pe_prop (pv 4) T.K_Crumb.c T.P_Crumb_ends (ok_Crumb_ends (P := P) T) (hr.mono (by decide)) T.b_Crumb_ends .nil pass0 rfl) (pa_cons (pe_prop (pv 4) T.K_Crumb.c T.P_Crumb_key (ok_Crumb_key (P := P) T) (hr.mono (by decide)) T.b_Crumb_key .nil pass0 rfl) pa_nil))))) pa_nil)))
      (pss_one (ps_ret (pe_tup (pa_cons (pv 2) (pa_cons (pe_callTy (kTup (K := K) rfl) (by rfl) T.n_tuple (by decide +kernel) (pa_cons (pe_lc (own := [("ends", 5), ("key", 6)]) (g := gTup K 2 (gCons (gName 5) (gCons (gName 6) gNil))) (tt := tYes) (by rfl) sc_swept.nd (kpList (K := K) rfl (pv 3)) (blkOk_by (own := [("ends", 5), ("key", 6)]) (N := N_swept) (sc := defScope S_swept) (by decide +kernel)) (fun _ _ _ _ _ => (kgTup (K := K) (n := 2) rfl rfl (pgs_cons (pg_name (i := 5) sc_swept.nd rfl (.inl rfl)) (pgs_cons (pg_name (i := 6) sc_swept.nd rfl (.inl rfl)) pgs_nil)) rfl rfl)) (fun _ _ _ _ _ => pts_nil) (fun _ _ _ _ _ => (pv 6))) pa_nil)) pa_nil))))))), ?_⟩
  obtain ⟨l, t⟩ := a
  obtain ⟨hn, hl, ht⟩ := hp
  dsimp only at hn hl ht
  show GoS [some (tup K (l.map (crI K T.C_Crumb))), some (it t), none, none, none, none, none] [] _ _
  refine GoS.seq (GoS.set (Go.cb (GoA.cons (Go.lcF1 (K := K) (l := l) (O9 := []) (f := crI K T.C_Crumb) (B := crI K T.C_Crumb) (p := fun x => !endedB x.1 t) (GoI.ofT (Go.var rfl ⟨_, rfl, rfl, rfl⟩)) (fun x hx T9 => ?_) (fun x hx hp T9 => Go.var rfl ⟨rfl, rfl⟩) (by omega) ?_))))
  · refine GoT.not (GoT.b (Go.endedR (GoA.cons (Go.asIns (Go.var rfl ⟨_, _, _, rfl, ?_⟩)))))
    exact GoA.cons (Go.var rfl (GoA.nil ⟨x.1, t, (hl x hx).1, ht, rfl, _, rfl, rfl, rfl⟩))
  walk_at "cj13"
  show Go [some (tup K (l.map (crI K T.C_Crumb))), some (it t), some (tup K ((l.filter fun x => !endedB x.1 t).map (crI K T.C_Crumb))), none, none, none, none] [] _ _
  refine (Go.lcF1 (K := K) (l := l) (O9 := []) (f := crI K T.C_Crumb) (B := fun x => endA K x.1) (p := fun x => endedB x.1 t) (GoI.ofT (Go.var rfl ⟨_, rfl, rfl, rfl⟩)) (fun x hx T9 => ?_) (fun x hx hp T9 => ?_) (by omega) ?_)
  · refine GoT.b (Go.endedR (GoA.cons (Go.asIns (Go.var rfl ⟨_, _, _, rfl, ?_⟩))))
    exact GoA.cons (Go.var rfl (GoA.nil ⟨x.1, t, (hl x hx).1, ht, rfl, _, rfl, rfl, rfl⟩))
  · refine Go.tup (K := K) (GoA.cons (Go.prop (Go.asIns (Go.var rfl ⟨_, _, _, rfl, InsC.ins, x.1.v, rfl, trivial, ?_⟩))))
    refine GoA.cons (Go.prop (Go.asIns (Go.var rfl ⟨_, _, _, rfl, InsC.ins, x.1, rfl, trivial, GoA.nil ⟨Nat.le_of_ble_eq_true rfl, ?_, rfl⟩⟩)))
    show tup K [vl (enG x.1.en), keyA K x.1] = tup K [oI x.1.en, keyA K x.1]
    rw [en_T]
  refine GoA.nil (v_sortD (enc := fun x => endE x.1) (fun x hx => ?_) ?_ (Or.inl ?_) (fun x hx => ?_) ?_)
  · have h := hl x (List.mem_filter.mp hx).1
    exact (end_sh h.2 h.1.is).is
  · intro d hd d' hd'
    obtain ⟨x, hx, rfl⟩ := List.mem_map.mp hd
    obtain ⟨y, hy, rfl⟩ := List.mem_map.mp hd'
    exact alike_end (ended_some (List.mem_filter.mp hx).2) (ended_some (List.mem_filter.mp hy).2)
  · intro d hd
    obtain ⟨x, hx, rfl⟩ := List.mem_map.mp hd
    exact ⟨_, _, rfl⟩
  · have h := hl x (List.mem_filter.mp hx).1
    exact Nat.le_trans (end_sh (K := K) h.2 h.1.is).dp (by decide)
  show GoS [some (tup K (l.map (crI K T.C_Crumb))), some (it t), some (tup K ((l.filter fun x => !endedB x.1 t).map (crI K T.C_Crumb))), some (lst K ((sweptL t l).map fun x => endA K x.1)), none, none, none] [] _ _
  have hz : (sweptL t l).length ≤ 100000 := by
    unfold sweptL
    rw [List.length_mergeSort]
    have := List.length_filter_le (fun x : CrumbG × Addr => endedB x.1 t) l
    omega
  refine GoS.ret (Go.tup (K := K) (GoA.cons (Go.var rfl (GoA.cons (Go.cb (GoA.cons (Go.lcM2 (K := K) (l := sweptL t l) (O9 := []) (f := fun x => oI x.1.en) (g := fun x => keyA K x.1) (B := fun x => keyA K x.1) (by decide) (GoI.ofL (Go.var rfl ⟨_, rfl, rfl, rfl⟩)) (fun x hx T9 => Go.var rfl ⟨rfl, rfl⟩) hz ?_)))))))
  walk_at "cj13"
/-! ### goes -/
theorem leastR {K : PySem.W.Frag} {O : OO} {k : As → OO → Prop} {l : List (CrumbG × Addr)} (hne : l ≠ []) (hl : ∀ x ∈ l, x.1.Good ∧ AscC x.1) (q : ∀ g, leastC l = some g → ∀ M : List As, atI M 0 = some (rankA K g) → k (lst K M) O) : Vn O (rSortD K) [lst K (l.map fun x => rankA K x.1)] k := by
  refine v_sortD (enc := fun x => rankE x.1) (fun x hx => (rank_sh (hl x hx).2 (hl x hx).1.is).is) (fun d hd d' hd' => ?_) (Or.inl fun d hd => ?_) (fun x hx => Nat.le_trans (rank_sh (K := K) (hl x hx).2 (hl x hx).1.is).dp (by decide)) ?_
  · obtain ⟨x, hx, rfl⟩ := List.mem_map.mp hd
    obtain ⟨y, hy, rfl⟩ := List.mem_map.mp hd'
    exact alike_rank _ _
  · obtain ⟨x, hx, rfl⟩ := List.mem_map.mp hd
    exact ⟨_, _, rfl⟩
  obtain ⟨g, e1, e2⟩ := leastC_some hne
  refine q g e1 _ ?_
  have e3 : ((l.mergeSort (PySem.W.dataLe false fun x => rankE x.1)).map fun x => rankA K x.1)[0]? = some (rankA K g) := by
    rw [List.getElem?_map] at e2 ⊢
    cases e4 : (l.mergeSort (PySem.W.dataLe false fun x => rankE x.1))[0]? with
    | none => rw [e4] at e2; cases e2
    | some y =>
      rw [e4] at e2
      have := Option.some.inj e2
      show some (rankA K y.1) = _
      rw [show y.1 = g from this]
  exact atI_nat (j := 0) e3
/-- the crumbs' group as the test tells it -/
def GoesV.inGrp (a : GoesV) (x : CrumbG × Addr) : Bool := match a.added with
  | [] => false
  | y :: _ => PyData.eqv (grpE a.rs x.1) (grpE a.rs y.1)
theorem GoesV.group_eq (a : GoesV) : a.l.filter a.inGrp = a.group := by
  unfold GoesV.group GoesV.inGrp
  cases a.added with
  | nil => simp
  | cons y r => rfl
theorem Go.ranks {w : World} {K : PySem.W.Frag} {mg : Str → Option Value} {T : Txt K mg w} {L : LL} {k : As → OO → Prop} {nm : Str} {j : Nat} {X : XK} {wi : TI} {l : List (CrumbG × Addr)} (hj : j < L.length) (h : GoI L [] wi fun xs O1 => O1 = [] ∧ xs = l.map (crI K T.C_Crumb)) (hl : l.length ≤ 100000) (q : k (lst K (l.map fun x => rankA K x.1)) []) :
    Go L [] (tLc wi (gName j) tYes (tCall (sp_rank_of T) [] X (tCons (tVar j) tNil)) (List.map (fun x => x.snd) [(nm, j)])) k := by
  refine Go.lcM1 (K := K) (l := l) (O9 := []) (f := crI K T.C_Crumb) (B := fun x => rankA K x.1) h (fun x hx T9 => ?_) hl q
  refine Go.callP (GoA.cons (Go.asIns (Go.var (A := crI K T.C_Crumb x) ?_ ⟨_, _, _, rfl, GoA.nil ⟨x.1, rfl, trivial, rfl, rfl⟩⟩)))
  have e : ∀ (L : LL) (i : Nat) (A : As), i < L.length → (setL L i A)[i]? = some (some A) := fun L => by
    induction L with
    | nil => intro i A h; exact absurd h (Nat.not_lt_zero _)
    | cons x L ih =>
      intro i A h
      cases i with
      | zero => rfl
      | succ i => exact ih i A (Nat.lt_of_succ_lt_succ h)
  have e2 : ∀ (L : LL) (i : Nat), (delL L i).length = L.length := fun L => by
    induction L with
    | nil => intro i; rfl
    | cons x L ih =>
      intro i
      cases i with
      | zero => rfl
      | succ i => exact congrArg (· + 1) (ih i)
  exact e _ _ _ (by show j < (delL L j).length; rw [e2]; exact hj)
abbrev sp_goes (T : Txt K mg w) : Sp := SpP (fun a : GoesV => a.Ok) (fun a => [tup K (a.rs.map tx), tup K (a.l.map (crI K T.C_Crumb)), keyA K a.k, it a.mf, it a.m]) (fun a => keyO K a.out)
theorem ok_goes (T : Txt K mg w) : FnOk P w K mg base CX0 10 T.f_goes T.d_goes ["rules", "crumbs", "key", "most_of_family", "most"] (sp_goes T) := by
  refine fn_sy T.F_goes sc_goes (fun _ _ => rfl) fun a cdv A outer s H E hr hp => ⟨_, (pss_cons (ps_set (i := 5) sc_goes.nd rfl (.inr rfl) (pe_lc (own := [("crumb", 7)]) (g := gName 7) (by rfl) sc_goes.nd (kpTup (K := K) rfl (pv 1)) (blkOk_by (own := [("crumb", 7)]) (N := N_goes) (sc := defScope S_goes) (by decide +kernel)) (fun _ _ _ _ _ => (pg_name (i := 7) sc_goes.nd rfl (.inl rfl))) (fun _ _ _ _ _ => (pts_one (pt_cmpR (kEq (K := K) rfl hr.units) (pe_prop (pv 7) T.K_Crumb.c T.P_Crumb_key (ok_Crumb_key (P := P) T) (hr.mono (by decide)) T.b_Crumb_key .nil pass0 rfl) (pv 2) (nomark _)))) (fun _ _ _ _ _ => (pv 7))))
      (pss_cons (ps_setLc (i := 6) (own := [("crumb", 7)]) (g := gName 7) (by rfl) sc_goes.nd rfl rfl (sw_true rfl rfl rfl (by decide +kernel)) (kpTup (K := K) rfl (pv 1)) (blkOk_by (own := [("crumb", 7)]) (N := N_goes) (sc := defScope S_goes) (by decide +kernel)) (fun _ _ _ _ _ => (pg_name (i := 7) sc_goes.nd rfl (.inl rfl))) (fun _ _ _ _ _ => (pts_one (PW.pt (pw_and (pt_cmpR (op_neE (K := K) rfl hr.units) (pv 5) (pe_lst pa_nil) (nomark _)) (pw_and1 (pt_cmpR (kEq (K := K) rfl hr.units) (pe_call (ok_group_of (P := P) T) (hr.mono (by decide)) (by rfl) T.g_group_of T.F_group_of.kp T.b_group_of .nil pass0 (pa_cons (pv 0) (pa_cons (pv 7) pa_nil))) (pe_call (ok_group_of (P := P) T) (hr.mono (by decide)) (by rfl) T.g_group_of T.F_group_of.kp T.b_group_of .nil pass0 (pa_cons (pv 0) (pa_cons (pe_ix (kIxL (K := K) rfl) (pv 5) pe_int (fun _ _ => rfl)) pa_nil))) (nomark _))))))) (fun _ _ _ _ _ => (pv 7)))
      (pss_cons (ps_if (pt_cmpR op_gt (pe_callB (kLen (K := K) rfl) (by rfl) T.n_len (by decide +kernel) (pa_cons (pv 6) pa_nil)) (pv 3) (nomark _))
      (pss_one (ps_ret (pe_ix (kIxT (K := K) rfl) (pe_ix (kIxL (K := K) rfl) (pe_callB (kSortD (K := K) rfl (hu65 hr)) (by rfl) T.n_sorted (by decide +kernel) (pa_cons (pe_lc (own := [("crumb", 7)]) (g := gName 7) (tt := tYes) (by rfl) sc_goes.nd (kpList (K := K) rfl (pv 6)) (blkOk_by (own := [("crumb", 7)]) (N := N_goes) (sc := defScope S_goes) (by decide +kernel)) (fun _ _ _ _ _ => (pg_name (i := 7) sc_goes.nd rfl (.inl rfl))) (fun _ _ _ _ _ => pts_nil) (fun _ _ _ _ _ => (pe_call (ok_rank_of (P := P) T) (hr.mono (by decide)) (by rfl) T.g_rank_of T.F_rank_of.kp T.b_rank_of .nil pass0 (pa_cons (pv 7) pa_nil)))) pa_nil)) pe_int (fun _ _ => rfl)) pe_int (fun _ _ => rfl))))
      pss_nil)
      (pss_cons (ps_if (pt_cmpR op_gt (pe_callB (kLen (K := K) rfl) (by rfl) T.n_len (by decide +kernel) (pa_cons (pv 1) pa_nil)) (pv 4) (nomark _))
      (pss_one (ps_ret (pe_ix (kIxT (K := K) rfl) (pe_ix (kIxL (K := K) rfl) (pe_callB (kSortD (K := K) rfl (hu65 hr)) (by rfl) T.n_sorted (by decide +kernel) (pa_cons (pe_lc (own := [("crumb", 7)]) (g := gName 7) (tt := tYes) (by rfl) sc_goes.nd (kpTup (K := K) rfl (pv 1)) (blkOk_by (own := [("crumb", 7)]) (N := N_goes) (sc := defScope S_goes) (by decide +kernel)) (fun _ _ _ _ _ => (pg_name (i := 7) sc_goes.nd rfl (.inl rfl))) (fun _ _ _ _ _ => pts_nil) (fun _ _ _ _ _ => (pe_call (ok_rank_of (P := P) T) (hr.mono (by decide)) (by rfl) T.g_rank_of T.F_rank_of.kp T.b_rank_of .nil pass0 (pa_cons (pv 7) pa_nil)))) pa_nil)) pe_int (fun _ _ => rfl)) pe_int (fun _ _ => rfl))))
      pss_nil)
      (pss_one (ps_ret pe_non)))))), ?_⟩
  have hrs := hp.rs
  have hn := hp.n
  have hl := hp.l
  have hmf := hp.mf
  have hm := hp.m
  show GoS [some (tup K (a.rs.map tx)), some (tup K (a.l.map (crI K T.C_Crumb))), some (keyA K a.k), some (it a.mf), some (it a.m), none, none, none] [] _ _
  refine GoS.seq (GoS.set (Go.lcF1 (K := K) (l := a.l) (O9 := []) (f := crI K T.C_Crumb) (B := crI K T.C_Crumb) (p := fun x => PyData.eqv (keyE x.1) (keyE a.k)) (GoI.ofT (Go.var rfl ⟨_, rfl, rfl, rfl⟩)) (fun x hx T9 => ?_) (fun x hx hp T9 => Go.var rfl ⟨rfl, rfl⟩) (by omega) ?_))
  · have h1 := key_sh (K := K) (hl x hx).2.1
    have h2 := key_sh (K := K) hp.k
    exact GoT.test (Go.op (Go.prop (Go.asIns (Go.var rfl ⟨_, _, _, rfl, InsC.ins, x.1, rfl, trivial, Go.var rfl (v_eqD h1.is h2.is (h1.shp (by decide)) (h2.shp (by decide)) ⟨_, rfl, rfl, rfl⟩)⟩))))
  show GoS [some (tup K (a.rs.map tx)), some (tup K (a.l.map (crI K T.C_Crumb))), some (keyA K a.k), some (it a.mf), some (it a.m), some (lst K (a.added.map (crI K T.C_Crumb))), none, none] [] _ _
  have hg : ∀ x ∈ a.l, ∃ b, ShD K (grpA K a.rs x.1) (grpE a.rs x.1) 3 b := fun x hx => ⟨_, ShD.tup (.cons (sp_shN (hl x hx).2.1) (.cons (ShD.tx (hl x hx).2.2) .nil))⟩
  have hadd : ∀ y ∈ a.added, y ∈ a.l := fun y hy => (List.mem_filter.mp hy).1
  refine GoS.seq (GoS.set (Go.lcF1 (K := K) (l := a.l) (O9 := []) (f := crI K T.C_Crumb) (B := crI K T.C_Crumb) (p := a.inGrp) (GoI.ofT (Go.var rfl ⟨_, rfl, rfl, rfl⟩)) (fun x hx T9 => ?_) (fun x hx hp T9 => Go.var rfl ⟨rfl, rfl⟩) (by omega) ?_))
  · unfold GoesV.inGrp
    cases e : a.added with
    | nil => exact GoT.and (GoT.test (Go.op (Go.var rfl (Go.lst (K := K) (GoA.nil ⟨Nat.le_of_ble_eq_true rfl, v_neE ⟨_, rfl, fun z => (by cases z), fun _ => ⟨rfl, rfl⟩⟩⟩)))))
    | cons y r =>
      obtain ⟨b1, h1⟩ := hg x hx
      obtain ⟨b2, h2⟩ := hg y (hadd y (by rw [e]; exact List.mem_cons_self))
      have hy := hadd y (by rw [e]; exact List.mem_cons_self)
      refine GoT.and (GoT.test (Go.op (Go.var rfl (Go.lst (K := K) (GoA.nil ⟨Nat.le_of_ble_eq_true rfl, v_neE ⟨_, rfl, fun _ => ?_, fun z => (by cases z)⟩⟩)))))
      refine GoT.test (Go.op (Go.callP (GoA.cons (Go.var rfl (GoA.cons (Go.asIns (Go.var rfl ⟨_, _, _, rfl, GoA.nil ⟨(a.rs, x.1), rfl, ⟨hrs, (hl x hx).1.is.ho⟩, ?_⟩⟩)))))))
      exact Go.callP (GoA.cons (Go.var rfl (GoA.cons (Go.asIns (Go.op (Go.var rfl (Go.c (v_ixL (at0 _ _) ⟨_, _, _, rfl, GoA.nil ⟨(a.rs, y.1), rfl, ⟨hrs, (hl y hy).1.is.ho⟩, v_eqD h1.is h2.is (h1.shp (by decide)) (h2.shp (by decide)) ⟨_, rfl, rfl, rfl⟩⟩⟩))))))))
  rw [a.group_eq]
  show GoS [some (tup K (a.rs.map tx)), some (tup K (a.l.map (crI K T.C_Crumb))), some (keyA K a.k), some (it a.mf), some (it a.m), some (lst K (a.added.map (crI K T.C_Crumb))), some (lst K (a.group.map (crI K T.C_Crumb))), none] [] _ _
  have hgl : ∀ x ∈ a.group, x ∈ a.l := fun x hx => by rw [← a.group_eq] at hx; exact (List.mem_filter.mp hx).1
  have hgn : a.group.length ≤ a.l.length := by rw [← a.group_eq]; exact List.length_filter_le _ _
  refine GoS.seq (GoS.ite (GoT.test (Go.op (Go.cb (GoA.cons (Go.var rfl (GoA.nil (v_lenL (Go.var rfl (v_gt ⟨_, rfl, fun hb => ?_, fun hb => ?_⟩))))))))))
  · rw [List.length_map] at hb
    have hne : a.group ≠ [] := fun z => by rw [z] at hb; have := of_decide_eq_true hb; simp at this; omega
    refine GoS.ret (Go.op (Go.op (Go.cb (GoA.cons (Go.ranks (l := a.group) (by show 7 < 8; decide) (GoI.ofL (Go.var rfl ⟨_, rfl, rfl, rfl⟩)) (by omega) (GoA.nil (leastR hne (fun x hx => ⟨(hl x (hgl x hx)).1, (hl x (hgl x hx)).2.1⟩) fun g eg M hM => Go.c (v_ixL hM (Go.c (v_ixT rfl ⟨?_, rfl⟩))))))))))
    show keyA K g = keyO K a.out
    unfold GoesV.out
    rw [if_pos hb, eg]
    rfl
  rw [List.length_map] at hb
  refine GoS.nil ?_
  show GoS _ _ _ _
  refine GoS.seq (GoS.ite (GoT.test (Go.op (Go.cb (GoA.cons (Go.var rfl (GoA.nil (v_lenT (Go.var rfl (v_gt ⟨_, rfl, fun hc => ?_, fun hc => ?_⟩))))))))))
  · rw [List.length_map] at hc
    have hne : a.l ≠ [] := fun z => by rw [z] at hc; have := of_decide_eq_true hc; simp at this; omega
    refine GoS.ret (Go.op (Go.op (Go.cb (GoA.cons (Go.ranks (l := a.l) (by show 7 < 8; decide) (GoI.ofT (Go.var rfl ⟨_, rfl, rfl, rfl⟩)) (by omega) (GoA.nil (leastR hne (fun x hx => ⟨(hl x hx).1, (hl x hx).2.1⟩) fun g eg M hM => Go.c (v_ixL hM (Go.c (v_ixT rfl ⟨?_, rfl⟩))))))))))
    show keyA K g = keyO K a.out
    unfold GoesV.out
    rw [if_neg (by rw [hb]; exact Bool.false_ne_true), if_pos hc, eg]
    rfl
  rw [List.length_map] at hc
  refine GoS.nil ?_
  show GoS _ _ _ _
  refine GoS.ret (Go.c ⟨?_, rfl⟩)
  show no = keyO K a.out
  unfold GoesV.out
  rw [if_neg (by rw [hb]; exact Bool.false_ne_true), if_neg (by rw [hc]; exact Bool.false_ne_true)]
  rfl
/-! ### _law_mixed -/
abbrev sp__law_mixed (K : PySem.W.Frag) : Sp := SpQ (fun a : Int × Int => 0 ≤ a.2 ∧ a.2 ≤ 1000000000000) (fun a => [it a.1, it a.2]) (fun _ A => ∃ i, A = it i)
theorem mixed_base {A : As} (h : A ∈ [it 1000000007, it 998244353, it 2147483629, it 1000000009]) : ∃ m : Int, A = it m ∧ 0 < m ∧ m ≤ 2147483629 := by
  rcases List.mem_cons.mp h with rfl | h
  · exact ⟨_, rfl, by decide, by decide⟩
  rcases List.mem_cons.mp h with rfl | h
  · exact ⟨_, rfl, by decide, by decide⟩
  rcases List.mem_cons.mp h with rfl | h
  · exact ⟨_, rfl, by decide, by decide⟩
  rcases List.mem_cons.mp h with rfl | h
  · exact ⟨_, rfl, by decide, by decide⟩
  cases h
theorem ok__law_mixed (T : Txt K mg w) : FnOk P w K mg base CX0 1 T.f__law_mixed T.d__law_mixed ["_law_cell", "_law_k"] (sp__law_mixed K) := by
  refine fn_sy T.F__law_mixed sc__law_mixed (fun _ _ => rfl) fun a cdv A outer s H E hr hp => ⟨_, (pss_cons (ps_set (i := 2) sc__law_mixed.nd rfl (.inl rfl) (pe_op op_add (pe_op op_add (pe_op op_modN (pe_callTy call_int1 (by rfl) T.n_int (by decide +kernel) (pa_cons (pv 0) pa_nil)) (pe_ix (kIxL (K := K) rfl) (pe_lst (pa_cons pe_int (pa_cons pe_int (pa_cons pe_int (pa_cons pe_int pa_nil))))) (pe_op op_modN (pe_callTy call_int1 (by rfl) T.n_int (by decide +kernel) (pa_cons (pv 1) pa_nil)) pe_int) (fun _ _ => rfl))) (pe_op op_mul pe_int (pv 1))) pe_int))
      (pss_one (ps_ret (pe_op op_modN (pe_callTy call_int1 (by rfl) T.n_int (by decide +kernel) (pa_cons (pe_op op_mul (pe_op op_modN (pe_callTy call_int1 (by rfl) T.n_int (by decide +kernel) (pa_cons (pe_op op_mul (pv 2) (pv 2)) pa_nil)) pe_int) pe_int) pa_nil)) pe_int)))), ?_⟩
  have m4 := fmod_in (a := a.2) (m := 4) (by decide)
  walk_at "cj1"
  refine v_ixLany m4.1 m4.2 fun A hA => ?_
  obtain ⟨m, rfl, hm0, hm1⟩ := mixed_base hA
  have r1 := fmod_in (a := a.1) hm0
  walk_at "cj1"
  exact ⟨rfl, _, rfl⟩
end
section
/-! the drawn crumbs -/
def names45 : List (List Nat) := [[97], [98], [99]]
def hosts45 : List (List Nat) := [[97, 46, 99, 111, 109], [119, 119, 119, 46, 97, 46, 99, 111, 109], [98, 46, 111, 114, 103]]
def paths45 : List (List Nat) := [[47], [47, 120]]
abbrev wDef45 : List Nat := [100, 101, 102, 97, 117, 108, 116]
def c45 (j : Nat) (b m lv : Int) (f : Option Int) (mk : Bool) : CrumbG := ⟨names45.getD (j % 3) [], [118], hosts45.getD (j / 3 % 3) [], true, paths45.getD (j / 9) [], mk, false, wDef45, lv, none, (b, (j : Int)), m, f⟩
structure Dr45 (g : CrumbG) : Prop where
  good : g.Good
  asc : AscC g
  sp : g.sp = none
  ho : g.ho ∈ hosts45
  en : ∀ e, g.en = some e → e ≤ 1000
theorem tab45 : ∀ j : Nat, j < 18 → (names45.getD (j % 3) [] ∈ names45 ∧ hosts45.getD (j / 3 % 3) [] ∈ hosts45 ∧ paths45.getD (j / 9) [] ∈ paths45) := by decide
theorem names45_ok : ∀ n ∈ names45, nameB (.s n) = true ∧ valB (.s n) (.s [118]) = true ∧ prefT n [118] = [] ∧ (∀ c ∈ n, c < 128) ∧ n.length ≤ 4096 := by decide +kernel
theorem hosts45_ok : ∀ h ∈ hosts45, isHost h = true ∧ (∀ c ∈ h, c < 128) ∧ h.length ≤ 200 := by decide +kernel
theorem paths45_ok : ∀ p ∈ paths45, isPath p = true ∧ (∀ c ∈ p, c < 128) ∧ p.length ≤ 200 := by decide +kernel
theorem same45 : ∀ b : Bool, csameB b (.s wDef45) = true := by decide +kernel
theorem c45_ok {j : Nat} {b m lv : Int} {f : Option Int} {mk : Bool} (hj : j < 18) (hb : 0 ≤ b ∧ b ≤ 4) (hm : 5 ≤ m ∧ m ≤ 9) (hl : 0 ≤ lv ∧ lv ≤ 2) (hf : f = none ∨ f = some (m + 1) ∨ f = some (m + 20)) : Dr45 (c45 j b m lv f mk) := by
  obtain ⟨t1, t2, t3⟩ := tab45 j hj
  obtain ⟨n1, n2, n3, n4, n5⟩ := names45_ok _ t1
  obtain ⟨h1, h2, h3⟩ := hosts45_ok _ t2
  obtain ⟨p1, p2, p3⟩ := paths45_ok _ t3
  have fe : ∀ i, f = some i → (i = m + 1 ∨ i = m + 20) := fun i e => by
    rcases hf with hf | hf | hf
    · rw [hf] at e; cases e
    · rw [hf] at e; exact .inl (Option.some.inj e).symm
    · rw [hf] at e; exact .inr (Option.some.inj e).symm
  have hpf : prefT (c45 j b m lv f mk).nm (c45 j b m lv f mk).va = [] := n3
  refine ⟨CrumbG.Is.good ⟨n1, n2, h1, rfl, p1, ?_, ?_, same45 mk, hl, rfl, ⟨⟨hb.1, by show b ≤ 253402300799; omega⟩, by show (0 : Int) ≤ (j : Int); omega⟩, ⟨⟨by show 0 ≤ m; omega, by show m ≤ 253402300799; omega⟩, by show b ≤ m; omega⟩, fun i e => ?_⟩, ⟨n4, h2, p2, fun s x f e => (by cases e), fun s x f e => (by cases e), ⟨n5, h3, p3⟩, fun s x f e => (by cases e)⟩, rfl, t2, fun i e => ?_⟩
  · rw [hpf]
    have : decide (([] : List Nat) = pHost) = false := by decide
    rw [this]
    simp
  · rw [hpf]
    simp
  · rcases fe i e with rfl | rfl
    · exact ⟨⟨by omega, by omega⟩, by show m < m + 1; omega, by show m + 1 ≤ m + 34560000; omega⟩
    · exact ⟨⟨by omega, by omega⟩, by show m < m + 20; omega, by show m + 20 ≤ m + 34560000; omega⟩
  · rcases fe i e with rfl | rfl <;> omega
def nameOf (h : List Nat) : List Nat := TL.joinL [46] (cut (parts 46 h) (some (-2)) none)
abbrev rules45 : List (List Nat) := [[99, 111, 109], [111, 114, 103]]
theorem rules45_ok : GoodR rules45 := by
  have h1 : (rules45.length ≤ 30 ∧ (∀ r ∈ rules45, isRule r = true)) ∧ rules45.Nodup ∧ ∀ r ∈ rules45, r.length ≤ 70000 := by decide +kernel
  exact ⟨h1.1.1, h1.1.2, h1.2.1, h1.2.2⟩
theorem fam45 : ∀ h ∈ hosts45, famT rules45 h = nameOf h ∧ (∀ c ∈ nameOf h, c < 128) ∧ (nameOf h).length ≤ 200 := by decide +kernel
theorem grp45 {g g' : CrumbG} (h : Dr45 g) (h' : Dr45 g') : PyData.eqv (grpE rules45 g) (grpE rules45 g') = decide (nameOf g.ho = nameOf g'.ho) := by
  have e1 := (fam45 _ h.ho).1
  have e2 := (fam45 _ h'.ho).1
  unfold grpE
  rw [h.sp, h'.sp, e1, e2]
  simp only [spN, PyData.eqv, PyData.eqvAll, Bool.and_true, Bool.true_and]
  by_cases z : nameOf g.ho = nameOf g'.ho
  · rw [z]; simp
  · rw [decide_eq_false z]
    refine beq_eq_false_iff_ne.mpr fun w => z (SX.S_inj w)
/-- what the law's own reckoning is called with -/
structure OutV where
  l : List (CrumbG × Addr)
  k : CrumbG
  a : Int
  b : Int
def OutV.added (v : OutV) : List (CrumbG × Addr) := v.l.filter fun x => PyData.eqv (keyE x.1) (keyE v.k)
def OutV.ho (v : OutV) : List Nat := match v.added with
  | [] => []
  | y :: _ => y.1.ho
def OutV.mine (v : OutV) : List (CrumbG × Addr) := v.l.filter fun x => decide (nameOf x.1.ho = nameOf v.ho)
def OutV.rows (v : OutV) : List (CrumbG × Addr) := if decide (v.a < (v.mine.length : Int)) = true then v.mine else if decide (v.b < (v.l.length : Int)) = true then v.l else []
structure OutV.Ok (v : OutV) : Prop where
  ne : v.added ≠ []
  n : v.l.length ≤ 1000
  l : ∀ x ∈ v.l, Dr45 x.1
  k : AscC v.k
theorem leastC_nil : leastC [] = none := by simp [leastC]
theorem out_eq {v : OutV} (h : v.Ok) : GoesV.out ⟨rules45, v.l, v.k, v.a, v.b⟩ = leastC v.rows := by
  have e1 : GoesV.group ⟨rules45, v.l, v.k, v.a, v.b⟩ = v.mine := by
    show (match v.added with
      | [] => []
      | y :: _ => v.l.filter fun x => PyData.eqv (grpE rules45 x.1) (grpE rules45 y.1)) = v.l.filter fun x => decide (nameOf x.1.ho = nameOf v.ho)
    have hne := h.ne
    have hm : ∀ y ∈ v.added, y ∈ v.l := fun y hy => (List.mem_filter.mp hy).1
    unfold OutV.ho
    cases e : v.added with
    | nil => exact absurd e hne
    | cons y r =>
      refine List.filter_congr fun x hx => ?_
      exact grp45 (h.l x hx) (h.l y (hm y (by rw [e]; exact List.mem_cons_self)))
  unfold GoesV.out OutV.rows
  rw [e1]
  split
  · rfl
  · split
    · rfl
    · exact leastC_nil.symm
end
section
variable {P : Program} {w : World} {K : PySem.W.Frag} {mg : Str → Option Value} {base : Heap} [IsP P]
/-! ### _law_draw -/
def sp_old__law_draw (K : PySem.W.Frag) : Sp := fun vs H Q _ => ∃ c k : Int, vs = [.int c, .int k] ∧ 0 ≤ k ∧ k ≤ 100 ∧ ∀ H' d, Same H H' → H d = none → Dr d 100000 H' → Q (.ref d) H'
theorem old__law_draw (T : Txt K mg w) : FnOk P w K mg base CX0 1 T.f__law_draw T.d__law_draw ["_law_cell", "_law_k"] (sp_old__law_draw K) := by
  refine T.F__law_draw.ok sc__law_draw (fun vs H Q E h => ?_) (fun cdv A outer s H vs Q E hr h => ?_)
  · obtain ⟨c, k, rfl, _⟩ := h
    rfl
  · obtain ⟨c, k, rfl, h0, h1, q⟩ := h
    refine ⟨_, (pss_one (ps_ret (pe_disp (pps_cons pe_str (pe_ifExp (pt_cmpR op_ge (pv 0) (pe_op op_pow pe_int pe_int) (nomark _)) (pv 0) pe_int) (pps_cons pe_str (pv 0) (pps_cons pe_str (pe_op op_mul pe_int (pv 1)) pps_nil))) (by rfl) (by rfl) (fun z => by cases z) (by decide)))), ?_⟩
    refine fun p hp => ?_
    have fin : ∀ l : Int, Q (.ref p) (upd (upd H p (.dK [])) p (.dK (mergeK [] (drK l c (1000 * k))))) := fun l => by
      rw [merge_dr, upd_upd]
      exact q _ p (same_upd hp) hp (Dr.mk upd_same (by omega) (by omega))
    refine ⟨_, rfl, 10, 18, rfl, rfl, ⟨by decide, by decide, by decide⟩, c, _, rfl, rfl, _, rfl, ?_⟩
    refine if2 (fun _ => ?_) (fun _ => ?_)
    · exact ⟨_, rfl, _, rfl, _, rfl, 1000, k, rfl, rfl, .inl ⟨by decide, by decide⟩, upd_same, drK c c (1000 * k), rfl, (by show 3 ≤ 15; decide), fin c⟩
    · exact ⟨_, rfl, _, rfl, 1000, k, rfl, rfl, .inl ⟨by decide, by decide⟩, upd_same, drK 0 c (1000 * k), rfl, (by show 3 ≤ 15; decide), fin 0⟩
abbrev sp__law_draw (K : PySem.W.Frag) : Sp := SpDraw
theorem ok__law_draw (T : Txt K mg w) : FnOk P w K mg base CX0 1 T.f__law_draw T.d__law_draw ["_law_cell", "_law_k"] (sp__law_draw K) := (old__law_draw T).imp fun vs H Q E h => draw_imp h
end
section
theorem Go.drawR {L : LL} {O : OO} {t : TA} {k : As → OO → Prop} {X : XK} (h : GoA L O t fun l O1 => ∃ c j : Int, l = [it c, it j] ∧ (0 ≤ j ∧ j ≤ 100) ∧ ∀ d : Addr, k (pt d) ((d, .dr 100000) :: O1)) : Go L O (tCall SpDraw [] X t) k := Go.call (fun a x hx => by cases hx) fun E G0 H0 σ G H Q f s z => h _ _ _ _ _ _ _ f s fun l O' G' H' vs q => z _ _ _ _ _ (by
    obtain ⟨c, j, rfl, h1, h2⟩ := q
    refine ⟨(c, j), O', rfl, rfl, h1, ?_⟩
    rintro A O2 ⟨d, rfl, rfl⟩
    exact h2 d)
end
section
variable {P : Program} {w : World} {K : PySem.W.Frag} {mg : Str → Option Value} {base : Heap} [IsP P]
/-! ### _law_digit -/
abbrev sp__law_digit (K : PySem.W.Frag) : Sp := SpDigit
theorem ok__law_digit (T : Txt K mg w) : FnOk P w K mg base CX0 2 T.f__law_digit T.d__law_digit ["_law_state", "_law_size"] (sp__law_digit K) := by
  refine fn_sy T.F__law_digit sc__law_digit (fun _ _ => rfl) fun a cdv A outer s H E hr hp => ⟨_, (C8.pss_cut (ps_if (pt_cmpR op_eq (pe_dget (hu_of hr) (pv 0) pe_str (fun _ _ => rfl)) pe_int (nomark _))
      (pss_one (ps_for PassesOwn.never rfl (pi_range1 (by rfl) T.n_range (pa_cons pe_int pa_nil)) (pg_name (i := 2) sc__law_digit.nd rfl (.inl rfl))
      (pss_cons (ps_dput (hu_of hr) (pv 0) pe_str (pe_op op_add (pe_dget (hu_of hr) (pv 0) pe_str (fun _ _ => rfl)) pe_int) rfl)
      (pss_one (ps_dput (hu_of hr) (pv 0) pe_str (pe_op op_add (pe_op op_mul (pe_dget (hu_of hr) (pv 0) pe_str (fun _ _ => rfl)) pe_int) (pe_call (ok__law_mixed (P := P) T) (hr.mono (by decide)) (by rfl) T.g__law_mixed T.F__law_mixed.kp T.b__law_mixed .nil pass0 (pa_cons (pe_dget (hu_of hr) (pv 0) pe_str (fun _ _ => rfl)) (pa_cons (pe_dget (hu_of hr) (pv 0) pe_str (fun _ _ => rfl)) pa_nil)))) rfl)))))
      pss_nil)
      (pss_cons (ps_set (i := 3) sc__law_digit.nd rfl (.inl rfl) (pe_op op_modN (pe_callTy call_int1 (by rfl) T.n_int (by decide +kernel) (pa_cons (pe_dget (hu_of hr) (pv 0) pe_str (fun _ _ => rfl)) pa_nil)) (pv 1)))
      (pss_cons (ps_dput (hu_of hr) (pv 0) pe_str (pe_op op_fdivW (pe_dget (hu_of hr) (pv 0) pe_str (fun _ _ => rfl)) (pv 1)) rfl)
      (pss_one (ps_ret (pv 3)))))), ?_⟩
  obtain ⟨d, m, n⟩ := a
  obtain ⟨hm0, hm1, hn⟩ := hp
  dsimp only at hm0 hm1 hn
  refine GoS.openDr fun l c u h0 h1 => ?_
  dsimp only at h1 ⊢
  walk_at "cj14"
  · refine GoS.forS (τ := Unit) (n := 4) (fun _ => [some (pt d), some (it m), none, none]) [2, 3] (fun i _ O' => ∃ l' u', O' = [(d, .od true (drA l' c u'))] ∧ 0 ≤ u' ∧ u' ≤ u + i) ?_ ?_
    · refine GoI.rng1 (GoA.cons (Go.c (GoA.nil ⟨4, rfl, by decide, rfl, ⟨(), rfl, l, u, rfl, h0, by omega⟩, fun i A _ O' hA hP => ?_, fun _ O' hP => ?_⟩)))
      · obtain ⟨l', u', rfl, g0, g1⟩ := hP
        have hi : i < 4 := by have := (List.getElem?_eq_some_iff.mp hA).1; simpa [rngA] using this
        walk_at "cj14"
        obtain ⟨j, rfl⟩ := h9
        walk_at "cj14"
        exact ⟨(), rfl, l' * 2147483647 + j, u' + 1, rfl, by omega, by omega⟩
      · obtain ⟨l', u', rfl, g0, g1⟩ := hP
        walk_at "cj14"
        refine GoS.ret (Go.closeDr (Go.var rfl ⟨l' / m, c, u', [], n + 4, rfl, g0, ?_, _, (fmod_in hm0).1, (fmod_in hm0).2, rfl, rfl⟩))
        omega
    · exact fun L' O' h => GoS.weak [2, 3] rfl h
  · refine GoS.ret (Go.closeDr (Go.var rfl ⟨l / m, c, u, [], n + 4, rfl, h0, ?_, _, (fmod_in hm0).1, (fmod_in hm0).2, rfl, rfl⟩))
    omega
/-! ### _law_crumb -/
theorem host_at : ∀ (j : Nat), j < 18 → atI ([tx [97, 46, 99, 111, 109], tx [119, 119, 119, 46, 97, 46, 99, 111, 109], tx [98, 46, 111, 114, 103]] : List As) (((j : Int).fdiv 3).fmod 3) = some (tx (hosts45.getD (j / 3 % 3) []))
  | 0, _ => rfl
  | 1, _ => rfl
  | 2, _ => rfl
  | 3, _ => rfl
  | 4, _ => rfl
  | 5, _ => rfl
  | 6, _ => rfl
  | 7, _ => rfl
  | 8, _ => rfl
  | 9, _ => rfl
  | 10, _ => rfl
  | 11, _ => rfl
  | 12, _ => rfl
  | 13, _ => rfl
  | 14, _ => rfl
  | 15, _ => rfl
  | 16, _ => rfl
  | 17, _ => rfl
  | n + 18, h => absurd h (by omega)
theorem path_at : ∀ (j : Nat), j < 18 → atI ([tx [47], tx [47, 120]] : List As) ((j : Int).fdiv 9) = some (tx (paths45.getD (j / 9) []))
  | 0, _ => rfl
  | 1, _ => rfl
  | 2, _ => rfl
  | 3, _ => rfl
  | 4, _ => rfl
  | 5, _ => rfl
  | 6, _ => rfl
  | 7, _ => rfl
  | 8, _ => rfl
  | 9, _ => rfl
  | 10, _ => rfl
  | 11, _ => rfl
  | 12, _ => rfl
  | 13, _ => rfl
  | 14, _ => rfl
  | 15, _ => rfl
  | 16, _ => rfl
  | 17, _ => rfl
  | n + 18, h => absurd h (by omega)
theorem name_at : ∀ (j : Nat), j < 18 → ∃ c, atI ([97, 98, 99] : List Nat) ((j : Int).fmod 3) = some c ∧ [c] = names45.getD (j % 3) []
  | 0, _ => ⟨_, rfl, rfl⟩
  | 1, _ => ⟨_, rfl, rfl⟩
  | 2, _ => ⟨_, rfl, rfl⟩
  | 3, _ => ⟨_, rfl, rfl⟩
  | 4, _ => ⟨_, rfl, rfl⟩
  | 5, _ => ⟨_, rfl, rfl⟩
  | 6, _ => ⟨_, rfl, rfl⟩
  | 7, _ => ⟨_, rfl, rfl⟩
  | 8, _ => ⟨_, rfl, rfl⟩
  | 9, _ => ⟨_, rfl, rfl⟩
  | 10, _ => ⟨_, rfl, rfl⟩
  | 11, _ => ⟨_, rfl, rfl⟩
  | 12, _ => ⟨_, rfl, rfl⟩
  | 13, _ => ⟨_, rfl, rfl⟩
  | 14, _ => ⟨_, rfl, rfl⟩
  | 15, _ => ⟨_, rfl, rfl⟩
  | 16, _ => ⟨_, rfl, rfl⟩
  | 17, _ => ⟨_, rfl, rfl⟩
  | n + 18, h => absurd h (by omega)
theorem end_at {i m : Int} (h0 : 0 ≤ i) (h1 : i < 3) : ∃ f : Option Int, (f = none ∨ f = some (m + 1) ∨ f = some (m + 20)) ∧ atI ([no, it (m + 1), it (m + 20)] : List As) i = some (oI f) := by
  have : i = 0 ∨ i = 1 ∨ i = 2 := by omega
  rcases this with rfl | rfl | rfl
  · exact ⟨none, .inl rfl, rfl⟩
  · exact ⟨_, .inr (.inl rfl), rfl⟩
  · exact ⟨_, .inr (.inr rfl), rfl⟩
abbrev sp__law_crumb (T : Txt K mg w) : Sp := SpG (fun a : Addr × Nat × Nat => a.2.1 ≤ 1000000 ∧ a.2.2 < 18) (fun a => [pt a.1, it (a.2.2 : Int)]) (fun a => [(a.1, .dr a.2.1)]) (fun a A O' => ∃ g, Dr45 g ∧ A = crA K T.C_Crumb g.v ∧ O' = [(a.1, .dr (a.2.1 + 20))])
theorem ok__law_crumb (T : Txt K mg w) : FnOk P w K mg base CX0 11 T.f__law_crumb T.d__law_crumb ["_law_state", "_law_at"] (sp__law_crumb T) := by
  refine fn_sy T.F__law_crumb sc__law_crumb (fun _ _ => rfl) fun a cdv A outer s H E hr hp => ⟨_, (pss_cons (ps_par (by rfl) sc__law_crumb.nd (i := 2) (j := 3) rfl rfl (by decide) rfl rfl (pa_cons (pe_ix (kIxL (K := K) rfl) (pe_lst (pa_cons pe_str (pa_cons pe_str (pa_cons pe_str pa_nil)))) (pe_op op_modN (pe_callTy call_int1 (by rfl) T.n_int (by decide +kernel) (pa_cons (pe_op op_fdivN (pv 1) pe_int) pa_nil)) pe_int) (fun _ _ => rfl)) (pa_cons (pe_ix (kIxL (K := K) rfl) (pe_lst (pa_cons pe_str (pa_cons pe_str pa_nil))) (pe_op op_fdivN (pv 1) pe_int) (fun _ _ => rfl)) pa_nil)) (by rfl))
      (pss_cons (ps_par (by rfl) sc__law_crumb.nd (i := 4) (j := 5) rfl rfl (by decide) rfl rfl (pa_cons (pe_tup (pa_cons (pe_call (ok__law_digit (P := P) T) (hr.mono (by decide)) (by rfl) T.g__law_digit T.F__law_digit.kp T.b__law_digit .nil pass0 (pa_cons (pv 0) (pa_cons pe_int pa_nil))) (pa_cons (pv 1) pa_nil))) (pa_cons (pe_op op_add pe_int (pe_call (ok__law_digit (P := P) T) (hr.mono (by decide)) (by rfl) T.g__law_digit T.F__law_digit.kp T.b__law_digit .nil pass0 (pa_cons (pv 0) (pa_cons pe_int pa_nil)))) pa_nil)) (by rfl))
      (pss_cons (ps_set (i := 6) sc__law_crumb.nd rfl (.inl rfl) (pe_ix (kIxL (K := K) rfl) (pe_lst (pa_cons pe_non (pa_cons (pe_op op_add (pv 5) pe_int) (pa_cons (pe_op op_add (pv 5) pe_int) pa_nil)))) (pe_call (ok__law_digit (P := P) T) (hr.mono (by decide)) (by rfl) T.g__law_digit T.F__law_digit.kp T.b__law_digit .nil pass0 (pa_cons (pv 0) (pa_cons pe_int pa_nil))) (fun _ _ => rfl)))
      (pss_cons (ps_par (by rfl) sc__law_crumb.nd (i := 7) (j := 8) rfl rfl (by decide) rfl rfl (pa_cons (pe_call (ok__law_digit (P := P) T) (hr.mono (by decide)) (by rfl) T.g__law_digit T.F__law_digit.kp T.b__law_digit .nil pass0 (pa_cons (pv 0) (pa_cons pe_int pa_nil))) (pa_cons (pe_cmpR op_eq (pe_call (ok__law_digit (P := P) T) (hr.mono (by decide)) (by rfl) T.g__law_digit T.F__law_digit.kp T.b__law_digit .nil pass0 (pa_cons (pv 0) (pa_cons pe_int pa_nil))) pe_int (nomark _)) pa_nil)) (by rfl))
      (pss_cons (ps_set (i := 9) sc__law_crumb.nd rfl (.inl rfl) (pe_ix ix_str pe_str (pe_op op_modN (pe_callTy call_int1 (by rfl) T.n_int (by decide +kernel) (pa_cons (pv 1) pa_nil)) pe_int) (fun _ _ => rfl)))
      (pss_one (ps_ret (pe_makeK T.M_Crumb (ok_Crumb_init (P := P) T) (hr.mono (by decide)) (by rfl) T.K_Crumb.g T.kx_1_Crumb_init.choose_spec passF (pa_cons (pv 9) (pa_cons pe_str (pa_cons (pv 2) pa_nil))) (pk_cons (pv 3) (pk_cons (pv 4) (pk_cons (pv 5) (pk_cons (pv 6) (pk_cons (pv 7) (pk_cons (pv 8) pk_nil)))))))))))))), ?_⟩
  obtain ⟨d, n, j⟩ := a
  obtain ⟨hn, hj⟩ := hp
  dsimp only at hn hj
  show GoS [some (pt d), some (it (j : Int)), none, none, none, none, none, none, none, none] [(d, .dr n)] _ _
  refine GoS.seq (GoS.par (GoA.cons (Go.join (A := tx (hosts45.getD (j / 3 % 3) [])) ?_ (GoA.cons (Go.join (A := tx (paths45.getD (j / 9) [])) ?_ (GoA.nil ⟨_, _, rfl, ?_⟩))))))
  · walk_at "cj15"
    exact v_ixL (host_at j hj) ⟨rfl, rfl⟩
  · walk_at "cj15"
    exact v_ixL (path_at j hj) ⟨rfl, rfl⟩
  show GoS [some (pt d), some (it (j : Int)), some (tx (hosts45.getD (j / 3 % 3) [])), some (tx (paths45.getD (j / 9) [])), none, none, none, none, none, none] [(d, .dr n)] _ _
  refine GoS.seq (GoS.par (GoA.cons (Go.tup (K := K) (GoA.cons (Go.digit (GoA.cons (Go.var rfl (GoA.cons (Go.c (GoA.nil ⟨d, 5, n, [], rfl, rfl, ⟨by decide, by decide, by omega⟩, fun b b0 b1 => ?_⟩))))))))))
  refine GoA.cons (Go.var rfl (GoA.nil ⟨Nat.le_of_ble_eq_true rfl, ?_⟩))
  refine GoA.cons (Go.op (Go.c (Go.digit (GoA.cons (Go.var rfl (GoA.cons (Go.c (GoA.nil ⟨d, 5, n + 4, [], rfl, rfl, ⟨by decide, by decide, by omega⟩, fun m m0 m1 => v_addI (GoA.nil ⟨_, _, rfl, ?_⟩)⟩))))))))
  show GoS [some (pt d), some (it (j : Int)), some (tx (hosts45.getD (j / 3 % 3) [])), some (tx (paths45.getD (j / 9) [])), some (tup K [it b, it (j : Int)]), some (it (5 + m)), none, none, none, none] [(d, .dr (n + 8))] _ _
  obtain ⟨M, hM⟩ : ∃ M, M = 5 + m := ⟨_, rfl⟩
  rw [← hM]
  refine GoS.seq (GoS.set (Go.op (Go.lst (K := K) (GoA.cons (Go.c (GoA.cons (Go.op (Go.var rfl (Go.c (v_addI (GoA.cons (Go.op (Go.var rfl (Go.c (v_addI (GoA.nil ⟨Nat.le_of_ble_eq_true rfl, ?_⟩))))))))))))))))
  refine Go.digit (GoA.cons (Go.var rfl (GoA.cons (Go.c (GoA.nil ⟨d, 3, n + 8, [], rfl, rfl, ⟨by decide, by decide, by omega⟩, fun i i0 i1 => ?_⟩)))))
  obtain ⟨f, hf, ef⟩ := end_at (m := M) i0 i1
  refine v_ixL ef ?_
  show GoS [some (pt d), some (it (j : Int)), some (tx (hosts45.getD (j / 3 % 3) [])), some (tx (paths45.getD (j / 9) [])), some (tup K [it b, it (j : Int)]), some (it M), some (oI f), none, none, none] [(d, .dr (n + 12))] _ _
  refine GoS.seq (GoS.par (GoA.cons (Go.digit (GoA.cons (Go.var rfl (GoA.cons (Go.c (GoA.nil ⟨d, 3, n + 12, [], rfl, rfl, ⟨by decide, by decide, by omega⟩, fun lv l0 l1 => ?_⟩))))))))
  refine GoA.cons (Go.op (Go.digit (GoA.cons (Go.var rfl (GoA.cons (Go.c (GoA.nil ⟨d, 2, n + 16, [], rfl, rfl, ⟨by decide, by decide, by omega⟩, fun z z0 z1 => Go.c (v_eqI (GoA.nil ⟨_, _, rfl, ?_⟩))⟩)))))))
  show GoS [some (pt d), some (it (j : Int)), some (tx (hosts45.getD (j / 3 % 3) [])), some (tx (paths45.getD (j / 9) [])), some (tup K [it b, it (j : Int)]), some (it M), some (oI f), some (it lv), some (bo (decide (z = 1))), none] [(d, .dr (n + 20))] _ _
  obtain ⟨c, hc, ec⟩ := name_at j hj
  refine GoS.seq (GoS.set (Go.op (Go.cS (l := [97, 98, 99]) LitS.eq (Go.op (Go.cb (GoA.cons (Go.var rfl (GoA.nil (v_intI (Go.c (v_mod (by decide) (v_ixS (by decide) hc ?_))))))))))))
  rw [ec]
  show GoS [some (pt d), some (it (j : Int)), some (tx (hosts45.getD (j / 3 % 3) [])), some (tx (paths45.getD (j / 9) [])), some (tup K [it b, it (j : Int)]), some (it M), some (oI f), some (it lv), some (bo (decide (z = 1))), some (tx (names45.getD (j % 3) []))] [(d, .dr (n + 20))] _ _
  have hok := c45_ok (b := b) (m := M) (lv := lv) (f := f) (mk := decide (z = 1)) hj (by omega) (by omega) (by omega) hf
  generalize hg : c45 j b M lv f (decide (z = 1)) = g at hok
  refine GoS.ret (Go.makeKD kg_1_Crumb_init kgA_1_Crumb_init (fun _ _ _ _ => rfl) ?_)
  refine GoA.cons (Go.var rfl (GoA.cons (Go.cS (l := [118]) LitS.eq (GoA.cons (Go.var rfl (GoA.nil ?_))))))
  refine GoA.cons (Go.var rfl (GoA.cons (Go.var rfl (GoA.cons (Go.var rfl (GoA.cons (Go.var rfl (GoA.cons (Go.var rfl (GoA.cons (Go.var rfl (GoA.nil ?_))))))))))))
  refine ⟨rfl, rfl, g.v, ?_, hok.good.is.ok, fun cls fs O2 q => ?_, fun _ => ⟨g, hok, rfl, rfl⟩⟩
  · rw [← hg]
    have e : vl (enG f) = oI f := en_T f
    show [tx (names45.getD (j % 3) []), tx [118], tx (hosts45.getD (j / 3 % 3) []), bo true, tx (paths45.getD (j / 9) []), bo (decide (z = 1)), bo false, tx wDef45, it lv, no, tup K [it b, it (j : Int)], it M, oI f] = [tx (names45.getD (j % 3) []), tx [118], tx (hosts45.getD (j / 3 % 3) []), bo true, tx (paths45.getD (j / 9) []), bo (decide (z = 1)), bo false, tx wDef45, it lv, no, tup K [it b, it (j : Int)], it M, vl (enG f)]
    rw [e]
  · obtain ⟨f', D, e, _⟩ := q
    rw [show crumbBad g.v = none from hok.good] at e
    cases e
/-! ### _law_some_crumbs -/
abbrev sp__law_some_crumbs (T : Txt K mg w) : Sp := SpG (fun a : Addr × Nat × Int => a.2.1 ≤ 200000 ∧ 0 ≤ a.2.2 ∧ a.2.2 ≤ 10) (fun a => [pt a.1, it a.2.2]) (fun a => [(a.1, .dr a.2.1)]) (fun a A O' => ∃ l : List CrumbG, (l.length : Int) = a.2.2 ∧ (∀ g ∈ l, Dr45 g) ∧ A = tup K (l.map fun g => crA K T.C_Crumb g.v) ∧ ∃ m, m ≤ a.2.1 + 300 ∧ O' = [(a.1, .dr m)])
theorem ok__law_some_crumbs (T : Txt K mg w) : FnOk P w K mg base CX0 12 T.f__law_some_crumbs T.d__law_some_crumbs ["_law_state", "_law_many"] (sp__law_some_crumbs T) := by
  refine fn_sy T.F__law_some_crumbs sc__law_some_crumbs (fun _ _ => rfl) fun a cdv A outer s H E hr hp => ⟨_, (pss_cons (ps_set (i := 2) sc__law_some_crumbs.nd rfl (.inr rfl) (pe_call (ok__law_digit (P := P) T) (hr.mono (by decide)) (by rfl) T.g__law_digit T.F__law_digit.kp T.b__law_digit .nil pass0 (pa_cons (pv 0) (pa_cons pe_int pa_nil))))
      (pss_one (ps_ret (pe_callTy (kTup (K := K) rfl) (by rfl) T.n_tuple (by decide +kernel) (pa_cons (pe_lc (own := [("_law_k", 3)]) (g := gName 3) (tt := tYes) (by rfl) sc__law_some_crumbs.nd (pi_range1 (by rfl) T.n_range (pa_cons (pv 1) pa_nil)) (blkOk_by (own := [("_law_k", 3)]) (N := N__law_some_crumbs) (sc := defScope S__law_some_crumbs) (by decide +kernel)) (fun _ _ _ _ _ => (pg_name (i := 3) sc__law_some_crumbs.nd rfl (.inl rfl))) (fun _ _ _ _ _ => pts_nil) (fun _ _ _ _ _ => (pe_call (ok__law_crumb (P := P) T) (hr.mono (by decide)) (by rfl) T.g__law_crumb T.F__law_crumb.kp T.b__law_crumb .nil pass0 (pa_cons (pv 0) (pa_cons (pe_op op_modN (pe_callTy call_int1 (by rfl) T.n_int (by decide +kernel) (pa_cons (pe_op op_add (pv 2) (pe_op op_mul pe_int (pv 3))) pa_nil)) pe_int) pa_nil))))) pa_nil))))), ?_⟩
  obtain ⟨d, n, N⟩ := a
  obtain ⟨hn, h0, h1⟩ := hp
  dsimp only at hn h0 h1
  show GoS [some (pt d), some (it N), none, none] [(d, .dr n)] _ _
  refine GoS.seq (GoS.set (Go.digit (GoA.cons (Go.var rfl (GoA.cons (Go.c (GoA.nil ⟨d, 18, n, [], rfl, rfl, ⟨by decide, by decide, by omega⟩, fun b b0 b1 => ?_⟩)))))))
  show GoS [some (pt d), some (it N), some (it b), none] [(d, .dr (n + 4))] _ _
  refine GoS.ret (Go.cb (GoA.cons (Go.lcW (K := K) (vs := [3]) hg1 (fun j : Nat => it (0 + (j : Int))) (fun g : CrumbG => crA K T.C_Crumb g.v) (fun _ g => Dr45 g) 20 (GoI.rng1 (GoA.cons (Go.var rfl (GoA.nil ⟨N, rfl, ⟨by omega, by omega⟩, List.range N.toNat, d, n + 4, [], rfl, rfl, ?_, ?_, ?_⟩)))))))
  · rw [List.length_range]; omega
  · intro j hj m T9 hm
    rw [List.length_range] at hm
    have hm : m ≤ n + 4 + 20 * N.toNat := hm
    refine GoG.name ?_
    have hN : N.toNat ≤ 10 := by omega
    have hm2 : m ≤ n + 4 + 20 * 10 := Nat.le_trans hm (Nat.add_le_add_left (Nat.mul_le_mul_left 20 hN) _)
    have hz := fmod_in (a := b + 5 * (0 + (j : Int))) (m := 18) (by decide)
    refine Go.call (fun a x hx => by rw [List.mem_singleton.mp hx]; rfl) (GoA.cons (Go.var rfl (GoA.cons (Go.op (Go.cb (GoA.cons (Go.op (Go.var rfl (Go.op (Go.c (Go.var rfl (v_mul ?_ (v_addI (GoA.nil (v_intI (Go.c (v_mod (by decide) (GoA.nil ?_))))))))))))))))))
    · exact .inl ⟨by decide, by decide⟩
    · refine ⟨(d, m, ((b + 5 * (0 + (j : Int))).fmod 18).toNat), T9, ?_, rfl, ⟨by show m ≤ 1000000; omega, by show ((b + 5 * (0 + (j : Int))).fmod 18).toNat < 18; omega⟩, ?_⟩
      · show [pt d, it ((b + 5 * (0 + (j : Int))).fmod 18)] = [pt d, it ((((b + 5 * (0 + (j : Int))).fmod 18).toNat : Nat) : Int)]
        rw [Int.toNat_of_nonneg hz.1]
      · rintro A O' ⟨g, hg, rfl, rfl⟩
        exact ⟨g, m + 20, rfl, hg, Nat.le_refl _, rfl⟩
  · intro ys m hr hm
    rw [List.length_range] at hm
    have hm : m ≤ n + 4 + 20 * N.toNat := hm
    have hlen := hr.len
    rw [List.length_range] at hlen
    have hlz : (ys.length : Int) = N := by omega
    refine GoA.nil (v_tupL ⟨ys, hlz, fun g hg => ?_, rfl, m, ?_, rfl⟩)
    · obtain ⟨_, _, h⟩ := hr.right g hg
      exact h
    · have hN : N.toNat ≤ 10 := by omega
      have := Nat.mul_le_mul_left 20 hN
      show m ≤ n + 300
      omega
/-! ### _law_name_of -/
abbrev sp__law_name_of (K : PySem.W.Frag) : Sp := SpP (fun h : List Nat => h.length ≤ 200) (fun h => [tx h]) (fun h => tx (nameOf h))
theorem ok__law_name_of (T : Txt K mg w) : FnOk P w K mg base CX0 1 T.f__law_name_of T.d__law_name_of ["_law_host"] (sp__law_name_of K) := by
  refine fn_sy T.F__law_name_of sc__law_name_of (fun _ _ => rfl) fun a cdv A outer s H E hr hp => ⟨_, (pss_one (ps_ret (pe_m1 PySem.F.slot_str_join PySem.F.type_str_join (kJoin (K := K) rfl) pe_str (pe_slice (kSlL (K := K) rfl) (pe_split (pv 0) pe_str) (po_some (pe_un un_neg pe_int)) po_none)))), ?_⟩
  have hp : a.length ≤ 200 := hp
  show GoS [some (tx a)] [] _ _
  refine GoS.ret ?_
  walk_at "cj1"
  rw [cut_map]
  exact v_join (cut_join_ok hp _ _) ⟨rfl, rfl⟩
/-! ### _law_out -/
abbrev sp__law_out (T : Txt K mg w) : Sp := SpP (fun v : OutV => v.Ok) (fun v => [tup K (v.l.map (crI K T.C_Crumb)), keyA K v.k, tup K [it v.a, it v.b]]) (fun v => keyO K (leastC v.rows))
theorem ok__law_out (T : Txt K mg w) : FnOk P w K mg base CX0 5 T.f__law_out T.d__law_out ["_law_some", "_law_key", "_law_limits"] (sp__law_out T) := by
  refine fn_sy T.F__law_out sc__law_out (fun _ _ => rfl) fun a cdv A outer s H E hr hp => ⟨_, (pss_cons (ps_set (i := 3) sc__law_out.nd rfl (.inr rfl) (pe_lc (own := [("_law_one", 7)]) (g := gName 7) (by rfl) sc__law_out.nd (kpTup (K := K) rfl (pv 0)) (blkOk_by (own := [("_law_one", 7)]) (N := N__law_out) (sc := defScope S__law_out) (by decide +kernel)) (fun _ _ _ _ _ => (pg_name (i := 7) sc__law_out.nd rfl (.inl rfl))) (fun _ _ _ _ _ => (pts_one (pt_cmpR (kEq (K := K) rfl hr.units) (pe_prop (pv 7) T.K_Crumb.c T.P_Crumb_key (ok_Crumb_key (P := P) T) (hr.mono (by decide)) T.b_Crumb_key .nil pass0 rfl) (pv 1) (nomark _)))) (fun _ _ _ _ _ => (pe_prop (pv 7) T.K_Crumb.c T.P_Crumb_host (ok_Crumb_host (P := P) T) (hr.mono (by decide)) T.b_Crumb_host .nil pass0 rfl))))
      (pss_cons (ps_setLc (i := 4) (own := [("_law_one", 7)]) (g := gName 7) (by rfl) sc__law_out.nd rfl rfl (sw_true rfl rfl rfl (by decide +kernel)) (kpTup (K := K) rfl (pv 0)) (blkOk_by (own := [("_law_one", 7)]) (N := N__law_out) (sc := defScope S__law_out) (by decide +kernel)) (fun _ _ _ _ _ => (pg_name (i := 7) sc__law_out.nd rfl (.inl rfl))) (fun _ _ _ _ _ => (pts_one (pt_cmpR op_eq (pe_call (ok__law_name_of (P := P) T) (hr.mono (by decide)) (by rfl) T.g__law_name_of T.F__law_name_of.kp T.b__law_name_of .nil pass0 (pa_cons (pe_prop (pv 7) T.K_Crumb.c T.P_Crumb_host (ok_Crumb_host (P := P) T) (hr.mono (by decide)) T.b_Crumb_host .nil pass0 rfl) pa_nil)) (pe_call (ok__law_name_of (P := P) T) (hr.mono (by decide)) (by rfl) T.g__law_name_of T.F__law_name_of.kp T.b__law_name_of .nil pass0 (pa_cons (pe_ix (kIxL (K := K) rfl) (pv 3) pe_int (fun _ _ => rfl)) pa_nil)) (nomark _)))) (fun _ _ _ _ _ => (pv 7)))
      (pss_cons (ps_set (i := 5) sc__law_out.nd rfl (.inl rfl) (pe_ifExp (pt_cmpR op_gt (pe_callB (kLen (K := K) rfl) (by rfl) T.n_len (by decide +kernel) (pa_cons (pv 4) pa_nil)) (pe_ix (kIxT (K := K) rfl) (pv 2) pe_int (fun _ _ => rfl)) (nomark _)) (pv 4) (pe_ifExp (pt_cmpR op_gt (pe_callB (kLen (K := K) rfl) (by rfl) T.n_len (by decide +kernel) (pa_cons (pv 0) pa_nil)) (pe_ix (kIxT (K := K) rfl) (pv 2) pe_int (fun _ _ => rfl)) (nomark _)) (pe_callTy (kLst (K := K) rfl) (by rfl) T.n_list (by decide +kernel) (pa_cons (pv 0) pa_nil)) (pe_lst pa_nil))))
      (pss_cons (ps_set (i := 6) sc__law_out.nd rfl (.inl rfl) (pe_callB (kSortD (K := K) rfl (hu65 hr)) (by rfl) T.n_sorted (by decide +kernel) (pa_cons (pe_lc (own := [("_law_one", 7)]) (g := gName 7) (tt := tYes) (by rfl) sc__law_out.nd (kpList (K := K) rfl (pv 5)) (blkOk_by (own := [("_law_one", 7)]) (N := N__law_out) (sc := defScope S__law_out) (by decide +kernel)) (fun _ _ _ _ _ => (pg_name (i := 7) sc__law_out.nd rfl (.inl rfl))) (fun _ _ _ _ _ => pts_nil) (fun _ _ _ _ _ => (pe_tup (pa_cons (pe_prop (pv 7) T.K_Crumb.c T.P_Crumb_priority (ok_Crumb_priority (P := P) T) (hr.mono (by decide)) T.b_Crumb_priority .nil pass0 rfl) (pa_cons (pe_prop (pv 7) T.K_Crumb.c T.P_Crumb_is_secure (ok_Crumb_is_secure (P := P) T) (hr.mono (by decide)) T.b_Crumb_is_secure .nil pass0 rfl) (pa_cons (pe_prop (pv 7) T.K_Crumb.c T.P_Crumb_seen (ok_Crumb_seen (P := P) T) (hr.mono (by decide)) T.b_Crumb_seen .nil pass0 rfl) (pa_cons (pe_prop (pv 7) T.K_Crumb.c T.P_Crumb_key (ok_Crumb_key (P := P) T) (hr.mono (by decide)) T.b_Crumb_key .nil pass0 rfl) pa_nil))))))) pa_nil)))
      (pss_one (ps_ret (pe_ifExp (pt_cmpR (op_eqE (K := K) rfl hr.units) (pv 6) (pe_lst pa_nil) (nomark _)) pe_non (pe_ix (kIxT (K := K) rfl) (pe_ix (kIxL (K := K) rfl) (pv 6) pe_int (fun _ _ => rfl)) pe_int (fun _ _ => rfl))))))))), ?_⟩
  have hl := hp.l
  have hn := hp.n
  show GoS [some (tup K (a.l.map (crI K T.C_Crumb))), some (keyA K a.k), some (tup K [it a.a, it a.b]), none, none, none, none, none] [] _ _
  refine GoS.seq (GoS.set (Go.lcF1 (K := K) (l := a.l) (O9 := []) (f := crI K T.C_Crumb) (B := fun x => tx x.1.ho) (p := fun x => PyData.eqv (keyE x.1) (keyE a.k)) (GoI.ofT (Go.var rfl ⟨_, rfl, rfl, rfl⟩)) (fun x hx T9 => ?_) (fun x hx hp T9 => ?_) (by omega) ?_))
  · have h1 := key_sh (K := K) (hl x hx).asc
    have h2 := key_sh (K := K) hp.k
    exact GoT.test (Go.op (Go.prop (Go.asIns (Go.var rfl ⟨_, _, _, rfl, InsC.ins, x.1, rfl, trivial, Go.var rfl (v_eqD h1.is h2.is (h1.shp (by decide)) (h2.shp (by decide)) ⟨_, rfl, rfl, rfl⟩)⟩))))
  · exact Go.prop (Go.asIns (Go.var rfl ⟨_, _, _, rfl, InsC.ins, x.1.v, rfl, trivial, rfl, rfl⟩))
  show GoS [some (tup K (a.l.map (crI K T.C_Crumb))), some (keyA K a.k), some (tup K [it a.a, it a.b]), some (lst K (a.added.map fun x => tx x.1.ho)), none, none, none, none] [] _ _
  have hlen : ∀ x ∈ a.l, x.1.ho.length ≤ 200 := fun x hx => (hosts45_ok _ (hl x hx).ho).2.2
  have hne := hp.ne
  have hadd : ∀ y ∈ a.added, y ∈ a.l := fun y hy => (List.mem_filter.mp hy).1
  obtain ⟨y, r, e⟩ : ∃ y r, a.added = y :: r := by
    cases e : a.added with
    | nil => exact absurd e hne
    | cons y r => exact ⟨y, r, rfl⟩
  have hy := hadd y (by rw [e]; exact List.mem_cons_self)
  have eho : a.ho = y.1.ho := by unfold OutV.ho; rw [e]
  refine GoS.seq (GoS.set (Go.lcF1 (K := K) (l := a.l) (O9 := []) (f := crI K T.C_Crumb) (B := crI K T.C_Crumb) (p := fun x => decide (nameOf x.1.ho = nameOf a.ho)) (GoI.ofT (Go.var rfl ⟨_, rfl, rfl, rfl⟩)) (fun x hx T9 => ?_) (fun x hx hp T9 => Go.var rfl ⟨rfl, rfl⟩) (by omega) ?_))
  · rw [e, eho]
    refine GoT.test (Go.op (Go.callP (GoA.cons (Go.prop (Go.asIns (Go.var rfl ⟨_, _, _, rfl, InsC.ins, x.1.v, rfl, trivial, GoA.nil ⟨x.1.ho, rfl, hlen x hx, ?_⟩⟩))))))
    exact Go.callP (GoA.cons (Go.op (Go.var rfl (Go.c (v_ixL (at0 _ _) (GoA.nil ⟨y.1.ho, rfl, hlen y hy, v_eqS ⟨_, rfl, rfl, rfl⟩⟩))))))
  show GoS [some (tup K (a.l.map (crI K T.C_Crumb))), some (keyA K a.k), some (tup K [it a.a, it a.b]), some (lst K (a.added.map fun x => tx x.1.ho)), some (lst K (a.mine.map (crI K T.C_Crumb))), none, none, none] [] _ _
  have hmn : a.mine.length ≤ a.l.length := List.length_filter_le _ _
  have hrl : ∀ x ∈ a.rows, x ∈ a.l := fun x hx => by
    unfold OutV.rows at hx
    split at hx
    · exact (List.mem_filter.mp hx).1
    · split at hx
      · exact hx
      · cases hx
  have hrn : a.rows.length ≤ 1000 := by
    unfold OutV.rows
    split
    · omega
    · split
      · exact hn
      · exact Nat.zero_le _
  refine GoS.seq (GoS.set (Go.join (A := lst K (a.rows.map (crI K T.C_Crumb))) ?_ ?_))
  · refine Go.ite (GoT.test (Go.op (Go.cb (GoA.cons (Go.var rfl (GoA.nil (v_lenL ?_)))))))
    refine Go.op (Go.var rfl (Go.c (v_ixT rfl (v_gt ⟨_, rfl, fun hb => ?_, fun hb => ?_⟩))))
    · rw [List.length_map] at hb
      refine Go.var rfl ⟨?_, rfl⟩
      unfold OutV.rows
      rw [if_pos hb]
    · rw [List.length_map] at hb
      refine Go.ite (GoT.test (Go.op (Go.cb (GoA.cons (Go.var rfl (GoA.nil (v_lenT ?_)))))))
      refine Go.op (Go.var rfl (Go.c (v_ixT rfl (v_gt ⟨_, rfl, fun hc => ?_, fun hc => ?_⟩))))
      · rw [List.length_map] at hc
        refine Go.cb (GoA.cons (Go.var rfl (GoA.nil (v_lstT ⟨?_, rfl⟩))))
        unfold OutV.rows
        rw [if_neg (by rw [hb]; exact Bool.false_ne_true), if_pos hc]
      · rw [List.length_map] at hc
        refine Go.lst (K := K) (GoA.nil ⟨Nat.le_of_ble_eq_true rfl, ?_, rfl⟩)
        unfold OutV.rows
        rw [if_neg (by rw [hb]; exact Bool.false_ne_true), if_neg (by rw [hc]; exact Bool.false_ne_true)]
        rfl
  show GoS [some (tup K (a.l.map (crI K T.C_Crumb))), some (keyA K a.k), some (tup K [it a.a, it a.b]), some (lst K (a.added.map fun x => tx x.1.ho)), some (lst K (a.mine.map (crI K T.C_Crumb))), some (lst K (a.rows.map (crI K T.C_Crumb))), none, none] [] _ _
  refine GoS.seq (GoS.set (Go.cb (GoA.cons (Go.lcM1 (K := K) (l := a.rows) (O9 := []) (f := crI K T.C_Crumb) (B := fun x => rankA K x.1) (GoI.ofL (Go.var rfl ⟨_, rfl, rfl, rfl⟩)) (fun x hx T9 => ?_) (by omega) (GoA.nil ?_)))))
  · refine Go.tup (K := K) (GoA.cons (Go.prop (Go.asIns (Go.var rfl ⟨_, _, _, rfl, InsC.ins, x.1.v, rfl, trivial, ?_⟩))))
    refine GoA.cons (Go.prop (Go.asIns (Go.var rfl ⟨_, _, _, rfl, InsC.ins, x.1.v, rfl, trivial, ?_⟩)))
    refine GoA.cons (Go.prop (Go.asIns (Go.var rfl ⟨_, _, _, rfl, InsC.ins, x.1.v, rfl, trivial, ?_⟩)))
    exact GoA.cons (Go.prop (Go.asIns (Go.var rfl ⟨_, _, _, rfl, InsC.ins, x.1, rfl, trivial, GoA.nil ⟨Nat.le_of_ble_eq_true rfl, rfl, rfl⟩⟩)))
  by_cases hz : a.rows = []
  · rw [hz]
    refine v_sortD (l := ([] : List (CrumbG × Addr))) (f := fun x => rankA K x.1) (enc := fun x => rankE x.1) (fun x hx => by cases hx) (fun d hd => by cases hd) (Or.inl fun d hd => by cases hd) (fun x hx => by cases hx) ?_
    rw [show ([] : List (CrumbG × Addr)).mergeSort (PySem.W.dataLe false fun x => rankE x.1) = [] by simp]
    refine GoS.ret (Go.ite (GoT.test (Go.op (Go.var rfl (Go.lst (K := K) (GoA.nil ⟨Nat.le_of_ble_eq_true rfl, v_eqE ⟨_, rfl, fun _ => Go.c ⟨?_, rfl⟩, fun z => (by cases z)⟩⟩))))))
    show no = keyO K (leastC a.rows)
    rw [hz, leastC_nil]
    rfl
  · refine leastR hz (fun x hx => ⟨(hl x (hrl x hx)).good, (hl x (hrl x hx)).asc⟩) fun g eg M hM => ?_
    have hM2 : M.isEmpty = false := by
      cases M with
      | nil => cases hM
      | cons m r => rfl
    refine GoS.ret (Go.ite (GoT.test (Go.op (Go.var rfl (Go.lst (K := K) (GoA.nil ⟨Nat.le_of_ble_eq_true rfl, v_eqE ⟨_, rfl, fun z => (by rw [hM2] at z; cases z), fun _ => ?_⟩⟩))))))
    refine Go.op (Go.op (Go.var rfl (Go.c (v_ixL hM (Go.c (v_ixT rfl ⟨?_, rfl⟩))))))
    show keyA K g = keyO K (leastC a.rows)
    rw [eg]
    rfl
/-! ### _law_swept_right -/
theorem v_eqCr {K : PySem.W.Frag} {C : Addr} {O : OO} {k : As → OO → Prop} {l : List (CrumbG × Addr)} (q : k (bo true) O) : V2 O (rEqI K) (tup K (l.map (crI K C))) (tup K (l.map (crI K C))) k := v_eqIn (fs := fun g : CrumbG => crumbFs K g.v) q
abbrev sp__law_swept_right (T : Txt K mg w) : Sp := SpP (fun a : List (CrumbG × Addr) × Int => a.1.length ≤ 100 ∧ (∀ x ∈ a.1, Dr45 x.1) ∧ (0 ≤ a.2 ∧ a.2 ≤ 253402300799)) (fun a => [tup K (a.1.map (crI K T.C_Crumb)), it a.2]) (fun _ => bo true)
theorem ok__law_swept_right (T : Txt K mg w) : FnG P w K mg base CX0 6 T.f__law_swept_right T.d__law_swept_right ["_law_some", "_law_moment"] (sp__law_swept_right T) := by
  refine fnG_sy T.F__law_swept_right sc__law_swept_right (fun _ _ => rfl) fun a cdv A outer s H E hr gd hp => ⟨_, (pss_cons (ps_set (i := 2) sc__law_swept_right.nd rfl (.inl rfl) (pe_callTy (kTup (K := K) rfl) (by rfl) T.n_tuple (by decide +kernel) (pa_cons (pe_lc (own := [("_law_one", 6)]) (g := gName 6) (by rfl) sc__law_swept_right.nd (kpTup (K := K) rfl (pv 0)) (blkOk_by (own := [("_law_one", 6)]) (N := N__law_swept_right) (sc := defScope S__law_swept_right) (by decide +kernel)) (fun _ _ _ _ _ => (pg_name (i := 6) sc__law_swept_right.nd rfl (.inl rfl))) (fun _ _ _ _ _ => (pts_one (PW.pt (pw_or (pt_cmpR op_isN (pe_prop (pv 6) T.K_Crumb.c T.P_Crumb_ends (ok_Crumb_ends (P := P) T) (hr.mono (by decide)) T.b_Crumb_ends .nil pass0 rfl) pe_non (nomark _)) (pw_or1 (pt_cmpR op_gt (pe_prop (pv 6) T.K_Crumb.c T.P_Crumb_ends (ok_Crumb_ends (P := P) T) (hr.mono (by decide)) T.b_Crumb_ends .nil pass0 rfl) (pv 1) (nomark _))))))) (fun _ _ _ _ _ => (pv 6))) pa_nil)))
      (pss_cons (ps_set (i := 3) sc__law_swept_right.nd rfl (.inl rfl) (pe_callB (kSortD (K := K) rfl (hu65 hr)) (by rfl) T.n_sorted (by decide +kernel) (pa_cons (pe_lc (own := [("_law_one", 6)]) (g := gName 6) (by rfl) sc__law_swept_right.nd (kpTup (K := K) rfl (pv 0)) (blkOk_by (own := [("_law_one", 6)]) (N := N__law_swept_right) (sc := defScope S__law_swept_right) (by decide +kernel)) (fun _ _ _ _ _ => (pg_name (i := 6) sc__law_swept_right.nd rfl (.inl rfl))) (fun _ _ _ _ _ => (pts_one (PW.pt (pw_and (pt_cmpR op_notN (pe_prop (pv 6) T.K_Crumb.c T.P_Crumb_ends (ok_Crumb_ends (P := P) T) (hr.mono (by decide)) T.b_Crumb_ends .nil pass0 rfl) pe_non (nomark _)) (pw_and1 (pt_cmpR op_le (pe_prop (pv 6) T.K_Crumb.c T.P_Crumb_ends (ok_Crumb_ends (P := P) T) (hr.mono (by decide)) T.b_Crumb_ends .nil pass0 rfl) (pv 1) (nomark _))))))) (fun _ _ _ _ _ => (pe_tup (pa_cons (pe_prop (pv 6) T.K_Crumb.c T.P_Crumb_ends (ok_Crumb_ends (P := P) T) (hr.mono (by decide)) T.b_Crumb_ends .nil pass0 rfl) (pa_cons (pe_prop (pv 6) T.K_Crumb.c T.P_Crumb_key (ok_Crumb_key (P := P) T) (hr.mono (by decide)) T.b_Crumb_key .nil pass0 rfl) pa_nil))))) pa_nil)))
      (pss_cons (ps_set (i := 4) sc__law_swept_right.nd rfl (.inl rfl) (pe_call (ok_swept (P := P) T) (hr.mono (by decide)) (by rfl) T.g_swept T.F_swept.kp T.b_swept .nil pass0 (pa_cons (pv 0) (pa_cons (pv 1) pa_nil))))
      (pss_cons (ps_set (i := 5) sc__law_swept_right.nd rfl (.inl rfl) (pe_callTy (kTup (K := K) rfl) (by rfl) T.n_tuple (by decide +kernel) (pa_cons (pe_lc (own := [("_law_finish", 7), ("_law_key", 8)]) (g := gTup K 2 (gCons (gName 7) (gCons (gName 8) gNil))) (tt := tYes) (by rfl) sc__law_swept_right.nd (kpList (K := K) rfl (pv 3)) (blkOk_by (own := [("_law_finish", 7), ("_law_key", 8)]) (N := N__law_swept_right) (sc := defScope S__law_swept_right) (by decide +kernel)) (fun _ _ _ _ _ => (kgTup (K := K) (n := 2) rfl rfl (pgs_cons (pg_name (i := 7) sc__law_swept_right.nd rfl (.inl rfl)) (pgs_cons (pg_name (i := 8) sc__law_swept_right.nd rfl (.inl rfl)) pgs_nil)) rfl rfl)) (fun _ _ _ _ _ => pts_nil) (fun _ _ _ _ _ => (pv 8))) pa_nil)))
      (pss_one (ps_ret (pe_and (pe_callB (kIsi (K := K) rfl) (by rfl) T.n_isinstance (by decide +kernel) (pa_cons (pv 4) (pa_cons (pe_bltn (v := .ty "tuple") (by rfl) T.n_tuple (by decide +kernel) rfl) pa_nil))) (pe_and (pe_cmpR (kEqI (K := K) rfl (hu65 hr)) (pe_ix (kIxT (K := K) rfl) (pv 4) pe_int (fun _ _ => rfl)) (pv 2) (nomark _)) (pe_one (pe_cmpR op_eq (pe_callB (call_reprX K rfl gd hr.units) (by rfl) T.n_repr (by decide +kernel) (pa_cons (pe_ix (kIxT (K := K) rfl) (pv 4) pe_int (fun _ _ => rfl)) pa_nil)) (pe_callB (call_reprX K rfl gd hr.units) (by rfl) T.n_repr (by decide +kernel) (pa_cons (pv 5) pa_nil)) (nomark _))))))))))), ?_⟩
  obtain ⟨l, t⟩ := a
  obtain ⟨hn, hl, ht⟩ := hp
  dsimp only at hn hl ht
  show GoS [some (tup K (l.map (crI K T.C_Crumb))), some (it t), none, none, none, none, none, none, none] [] _ _
  refine GoS.seq (GoS.set (Go.cb (GoA.cons (Go.lcF1 (K := K) (l := l) (O9 := []) (f := crI K T.C_Crumb) (B := crI K T.C_Crumb) (p := fun x => !endedB x.1 t) (GoI.ofT (Go.var rfl ⟨_, rfl, rfl, rfl⟩)) (fun x hx T9 => ?_) (fun x hx hp T9 => Go.var rfl ⟨rfl, rfl⟩) (by omega) (GoA.nil (v_tupL ?_))))))
  · refine GoT.or (GoT.test (Go.op (Go.prop (Go.asIns (Go.var rfl ⟨_, _, _, rfl, InsC.ins, x.1.v, rfl, trivial, Go.c ?_⟩)))))
    show V2 _ _ (vl (enG x.1.en)) _ _
    unfold endedB
    cases e : x.1.en with
    | none => exact v_isN (x := .non) ⟨_, rfl, fun _ => ⟨rfl, rfl⟩, fun z => (by cases z)⟩
    | some i =>
      refine v_isN (x := .int i) ⟨_, rfl, fun z => (by cases z), fun _ => ?_⟩
      refine GoT.test (Go.op (Go.prop (Go.asIns (Go.var rfl ⟨_, _, _, rfl, InsC.ins, x.1.v, rfl, trivial, Go.var rfl ?_⟩))))
      show V2 _ _ (vl (enG x.1.en)) _ _
      rw [e]
      refine v_gt ⟨_, rfl, ?_, rfl⟩
      show decide (t < i) = !decide (i ≤ t)
      by_cases z : i ≤ t
      · rw [decide_eq_true z, decide_eq_false (by omega)]; rfl
      · rw [decide_eq_false z, decide_eq_true (by omega)]; rfl
  show GoS [some (tup K (l.map (crI K T.C_Crumb))), some (it t), some (tup K ((l.filter fun x => !endedB x.1 t).map (crI K T.C_Crumb))), none, none, none, none, none, none] [] _ _
  refine GoS.seq (GoS.set (Go.cb (GoA.cons (Go.lcF1 (K := K) (l := l) (O9 := []) (f := crI K T.C_Crumb) (B := fun x => endA K x.1) (p := fun x => endedB x.1 t) (GoI.ofT (Go.var rfl ⟨_, rfl, rfl, rfl⟩)) (fun x hx T9 => ?_) (fun x hx hp T9 => ?_) (by omega) ?_))))
  · refine GoT.and (GoT.test (Go.op (Go.prop (Go.asIns (Go.var rfl ⟨_, _, _, rfl, InsC.ins, x.1.v, rfl, trivial, Go.c ?_⟩)))))
    show V2 _ _ (vl (enG x.1.en)) _ _
    unfold endedB
    cases e : x.1.en with
    | none => exact v_notN (x := .non) ⟨_, rfl, fun z => (by cases z), fun _ => ⟨rfl, rfl⟩⟩
    | some i =>
      refine v_notN (x := .int i) ⟨_, rfl, fun _ => ?_, fun z => (by cases z)⟩
      refine GoT.test (Go.op (Go.prop (Go.asIns (Go.var rfl ⟨_, _, _, rfl, InsC.ins, x.1.v, rfl, trivial, Go.var rfl ?_⟩))))
      show V2 _ _ (vl (enG x.1.en)) _ _
      rw [e]
      exact v_le ⟨_, rfl, rfl, rfl⟩
  · refine Go.tup (K := K) (GoA.cons (Go.prop (Go.asIns (Go.var rfl ⟨_, _, _, rfl, InsC.ins, x.1.v, rfl, trivial, ?_⟩))))
    refine GoA.cons (Go.prop (Go.asIns (Go.var rfl ⟨_, _, _, rfl, InsC.ins, x.1, rfl, trivial, GoA.nil ⟨Nat.le_of_ble_eq_true rfl, ?_, rfl⟩⟩)))
    show tup K [vl (enG x.1.en), keyA K x.1] = tup K [oI x.1.en, keyA K x.1]
    rw [en_T]
  refine GoA.nil (v_sortD (enc := fun x => endE x.1) (fun x hx => ?_) ?_ (Or.inl ?_) (fun x hx => ?_) ?_)
  · have h := hl x (List.mem_filter.mp hx).1
    exact (end_sh h.asc h.good.is).is
  · intro d hd d' hd'
    obtain ⟨x, hx, rfl⟩ := List.mem_map.mp hd
    obtain ⟨y, hy, rfl⟩ := List.mem_map.mp hd'
    exact alike_end (ended_some (List.mem_filter.mp hx).2) (ended_some (List.mem_filter.mp hy).2)
  · intro d hd
    obtain ⟨x, hx, rfl⟩ := List.mem_map.mp hd
    exact ⟨_, _, rfl⟩
  · have h := hl x (List.mem_filter.mp hx).1
    exact Nat.le_trans (end_sh (K := K) h.asc h.good.is).dp (by decide)
  show GoS [some (tup K (l.map (crI K T.C_Crumb))), some (it t), some (tup K ((l.filter fun x => !endedB x.1 t).map (crI K T.C_Crumb))), some (lst K ((sweptL t l).map fun x => endA K x.1)), none, none, none, none, none] [] _ _
  have hzn : (sweptL t l).length ≤ 100 := by
    unfold sweptL
    rw [List.length_mergeSort]
    have := List.length_filter_le (fun x : CrumbG × Addr => endedB x.1 t) l
    omega
  have hzl : ∀ x ∈ sweptL t l, Dr45 x.1 := fun x hx => hl x (List.mem_filter.mp (List.mem_mergeSort.mp hx)).1
  refine GoS.seq (GoS.set (Go.callP (GoA.cons (Go.var rfl (GoA.cons (Go.var rfl (GoA.nil ⟨(l, t), rfl, ⟨by show l.length ≤ 1000; omega, fun x hx => ⟨(hl x hx).good, (hl x hx).asc⟩, ht⟩, ?_⟩)))))))
  show GoS [some (tup K (l.map (crI K T.C_Crumb))), some (it t), some (tup K ((l.filter fun x => !endedB x.1 t).map (crI K T.C_Crumb))), some (lst K ((sweptL t l).map fun x => endA K x.1)), some (tup K [tup K ((l.filter fun x => !endedB x.1 t).map (crI K T.C_Crumb)), tup K ((sweptL t l).map fun x => keyA K x.1)]), none, none, none, none] [] _ _
  refine GoS.seq (GoS.set (Go.cb (GoA.cons (Go.lcM2 (K := K) (l := sweptL t l) (O9 := []) (f := fun x => oI x.1.en) (g := fun x => keyA K x.1) (B := fun x => keyA K x.1) (by decide) (GoI.ofL (Go.var rfl ⟨_, rfl, rfl, rfl⟩)) (fun x hx T9 => Go.var rfl ⟨rfl, rfl⟩) (by omega) (GoA.nil (v_tupL ?_))))))
  show GoS [some (tup K (l.map (crI K T.C_Crumb))), some (it t), some (tup K ((l.filter fun x => !endedB x.1 t).map (crI K T.C_Crumb))), some (lst K ((sweptL t l).map fun x => endA K x.1)), some (tup K [tup K ((l.filter fun x => !endedB x.1 t).map (crI K T.C_Crumb)), tup K ((sweptL t l).map fun x => keyA K x.1)]), some (tup K ((sweptL t l).map fun x => keyA K x.1)), none, none, none] [] _ _
  have hS := ShD.tup (K := K) (ShDs.map (l := sweptL t l) (f := fun x => keyA K x.1) (g := fun x => keyE x.1) (e := 3) (b := 6000) fun x hx => key_sh (hzl x hx).asc)
  have hb : (sweptL t l).length * (6000 + 1) ≤ 1000000 := by omega
  refine GoS.ret (Go.andVJ (p := true) (q := true) ?_ (fun _ => Go.andVJ (p := true) (q := true) ?_ (fun _ => ?_) ⟨rfl, rfl⟩) ⟨rfl, rfl⟩)
  · walk_at "cj13"
  · exact Go.op (Go.op (Go.var rfl (Go.c (v_ixT rfl (Go.var rfl (v_eqCr ⟨rfl, rfl⟩))))))
  · refine Go.op (Go.cb (GoA.cons (Go.op (Go.var rfl (Go.c (v_ixT rfl (GoA.nil (v_reprS hS (by decide) hb ?_))))))))
    exact Go.cb (GoA.cons (Go.var rfl (GoA.nil (v_reprS hS (by decide) hb (v_eqS ⟨by simp, rfl⟩)))))
/-! ### _law_cell_right -/
theorem keyO_sh {K : PySem.W.Frag} {o : Option CrumbG} (h : ∀ g, o = some g → AscC g) : ShD K (keyO K o) (keyOE o) 3 6000 := by
  cases o with
  | none => exact (ShD.no).le (by decide) (by decide)
  | some g => exact key_sh (h g rfl)
theorem leastC_mem {l : List (CrumbG × Addr)} {g : CrumbG} (h : leastC l = some g) : ∃ x ∈ l, x.1 = g := by
  unfold leastC at h
  have h2 := List.mem_of_mem_head? h
  obtain ⟨x, hx, e⟩ := List.mem_map.mp h2
  exact ⟨x, List.mem_mergeSort.mp hx, e⟩
abbrev sp__law_cell_right (T : Txt K mg w) : Sp := SpP (fun _ : Int => True) (fun c => [it c]) (fun _ => bo true)
theorem ok__law_cell_right (T : Txt K mg w) : FnG P w K mg base CX0 13 T.f__law_cell_right T.d__law_cell_right ["_law_cell"] (sp__law_cell_right T) := by
  refine fnG_sy T.F__law_cell_right sc__law_cell_right (fun _ _ => rfl) fun a cdv A outer s H E hr gd hp => ⟨_, (pss_cons (ps_set (i := 1) sc__law_cell_right.nd rfl (.inl rfl) (pe_call (ok__law_draw (P := P) T) (hr.mono (by decide)) (by rfl) T.g__law_draw T.F__law_draw.kp T.b__law_draw .nil pass0 (pa_cons (pv 0) (pa_cons pe_int pa_nil))))
      (pss_cons (ps_set (i := 2) sc__law_cell_right.nd rfl (.inr rfl) (pe_call (ok__law_some_crumbs (P := P) T) (hr.mono (by decide)) (by rfl) T.g__law_some_crumbs T.F__law_some_crumbs.kp T.b__law_some_crumbs .nil pass0 (pa_cons (pv 1) (pa_cons (pe_op op_add pe_int (pe_call (ok__law_digit (P := P) T) (hr.mono (by decide)) (by rfl) T.g__law_digit T.F__law_digit.kp T.b__law_digit .nil pass0 (pa_cons (pv 1) (pa_cons pe_int pa_nil)))) pa_nil))))
      (pss_cons (ps_set (i := 3) sc__law_cell_right.nd rfl (.inl rfl) (pe_tup (pa_cons (pe_op op_add pe_int (pe_call (ok__law_digit (P := P) T) (hr.mono (by decide)) (by rfl) T.g__law_digit T.F__law_digit.kp T.b__law_digit .nil pass0 (pa_cons (pv 1) (pa_cons pe_int pa_nil)))) (pa_cons (pe_op op_add pe_int (pe_call (ok__law_digit (P := P) T) (hr.mono (by decide)) (by rfl) T.g__law_digit T.F__law_digit.kp T.b__law_digit .nil pass0 (pa_cons (pv 1) (pa_cons pe_int pa_nil)))) pa_nil))))
      (pss_cons (ps_for PassesOwn.never rfl (kpTup (K := K) rfl (pv 2)) (pg_name (i := 4) sc__law_cell_right.nd rfl (.inl rfl))
      (pss_cons (ps_if (pt_cmpR (kNe (K := K) rfl hr.units) (pe_call (ok_rank_of (P := P) T) (hr.mono (by decide)) (by rfl) T.g_rank_of T.F_rank_of.kp T.b_rank_of .nil pass0 (pa_cons (pv 4) pa_nil)) (pe_tup (pa_cons (pe_prop (pv 4) T.K_Crumb.c T.P_Crumb_priority (ok_Crumb_priority (P := P) T) (hr.mono (by decide)) T.b_Crumb_priority .nil pass0 rfl) (pa_cons (pe_prop (pv 4) T.K_Crumb.c T.P_Crumb_is_secure (ok_Crumb_is_secure (P := P) T) (hr.mono (by decide)) T.b_Crumb_is_secure .nil pass0 rfl) (pa_cons (pe_prop (pv 4) T.K_Crumb.c T.P_Crumb_seen (ok_Crumb_seen (P := P) T) (hr.mono (by decide)) T.b_Crumb_seen .nil pass0 rfl) (pa_cons (pe_prop (pv 4) T.K_Crumb.c T.P_Crumb_key (ok_Crumb_key (P := P) T) (hr.mono (by decide)) T.b_Crumb_key .nil pass0 rfl) pa_nil))))) (nomark _))
      (pss_one (ps_ret pe_bl))
      pss_nil)
      (pss_cons (ps_if (pt_cmpR (kNe (K := K) rfl hr.units) (pe_call (ok_group_of (P := P) T) (hr.mono (by decide)) (by rfl) T.g_group_of T.F_group_of.kp T.b_group_of .nil pass0 (pa_cons (pe_tup (pa_cons pe_str (pa_cons pe_str pa_nil))) (pa_cons (pv 4) pa_nil))) (pe_tup (pa_cons pe_non (pa_cons (pe_call (ok__law_name_of (P := P) T) (hr.mono (by decide)) (by rfl) T.g__law_name_of T.F__law_name_of.kp T.b__law_name_of .nil pass0 (pa_cons (pe_prop (pv 4) T.K_Crumb.c T.P_Crumb_host (ok_Crumb_host (P := P) T) (hr.mono (by decide)) T.b_Crumb_host .nil pass0 rfl) pa_nil)) pa_nil))) (nomark _))
      (pss_one (ps_ret pe_bl))
      pss_nil)
      (pss_cons (ps_set (i := 5) sc__law_cell_right.nd rfl (.inl rfl) (pe_callKA (ok_goes (P := P) T) (hr.mono (by decide)) (by rfl) T.g_goes T.F_goes.kp T.kw_goes pass0 (pa_cons (pe_tup (pa_cons pe_str (pa_cons pe_str pa_nil))) (pa_cons (pv 2) (pa_cons (pe_prop (pv 4) T.K_Crumb.c T.P_Crumb_key (ok_Crumb_key (P := P) T) (hr.mono (by decide)) T.b_Crumb_key .nil pass0 rfl) pa_nil))) (pk_cons (pe_ix (kIxT (K := K) rfl) (pv 3) pe_int (fun _ _ => rfl)) (pk_cons (pe_ix (kIxT (K := K) rfl) (pv 3) pe_int (fun _ _ => rfl)) pk_nil))))
      (pss_one (ps_if (pt_cmpR (kNe (K := K) rfl hr.units) (pv 5) (pe_call (ok__law_out (P := P) T) (hr.mono (by decide)) (by rfl) T.g__law_out T.F__law_out.kp T.b__law_out .nil pass0 (pa_cons (pv 2) (pa_cons (pe_prop (pv 4) T.K_Crumb.c T.P_Crumb_key (ok_Crumb_key (P := P) T) (hr.mono (by decide)) T.b_Crumb_key .nil pass0 rfl) (pa_cons (pv 3) pa_nil)))) (nomark _))
      (pss_one (ps_ret pe_bl))
      pss_nil))))))
      (pss_one (ps_ret (pe_callB (kAll (K := K) rfl rfl) (by rfl) T.n_all (by decide +kernel) (pa_cons (pe_lc (own := [("_law_moment", 6)]) (g := gName 6) (tt := tYes) (by rfl) sc__law_cell_right.nd (kpTup (K := K) rfl (pe_tup (pa_cons pe_int (pa_cons pe_int (pa_cons pe_int (pa_cons (pe_op op_add pe_int (pe_call (ok__law_digit (P := P) T) (hr.mono (by decide)) (by rfl) T.g__law_digit T.F__law_digit.kp T.b__law_digit .nil pass0 (pa_cons (pv 1) (pa_cons pe_int pa_nil)))) pa_nil)))))) (blkOk_by (own := [("_law_moment", 6)]) (N := N__law_cell_right) (sc := defScope S__law_cell_right) (by decide +kernel)) (fun _ _ _ _ _ => (pg_name (i := 6) sc__law_cell_right.nd rfl (.inl rfl))) (fun _ _ _ _ _ => pts_nil) (fun _ _ _ _ _ => (pe_callG (ok__law_swept_right (P := P) T) (hr.mono (by decide)) gd (by rfl) T.g__law_swept_right T.F__law_swept_right.kp T.b__law_swept_right .nil pass0 (pa_cons (pv 2) (pa_cons (pv 6) pa_nil))))) pa_nil)))))))), ?_⟩
  show GoS [some (it a), none, none, none, none, none, none] [] _ _
  refine GoS.seq (GoS.set (Go.drawR (GoA.cons (Go.var rfl (GoA.cons (Go.c (GoA.nil ⟨a, 0, rfl, ⟨by decide, by decide⟩, fun d => ?_⟩)))))))
  show GoS [some (it a), some (pt d), none, none, none, none, none] [(d, .dr 100000)] _ _
  refine GoS.seq (GoS.set (Go.call (fun a x hx => by rw [List.mem_singleton.mp hx]; rfl) (GoA.cons (Go.var rfl (GoA.cons (Go.op (Go.c (Go.digit (GoA.cons (Go.var rfl (GoA.cons (Go.c (GoA.nil ⟨d, 10, 100000, [], rfl, rfl, ⟨by decide, by decide, by decide⟩, fun i i0 i1 => v_addI (GoA.nil ⟨(d, 100004, 1 + i), [], rfl, rfl, ⟨by show 100004 ≤ 200000; decide, by show 0 ≤ 1 + i; omega, by show 1 + i ≤ 10; omega⟩, ?_⟩)⟩)))))))))))))
  rintro _ _ ⟨gs, hgn, hgl, rfl, m, hm, rfl⟩
  dsimp only at hgn hm
  show GoS [some (it a), some (pt d), some (tup K (gs.map fun g => ins T.C_Crumb (crumbFs K g.v))), none, none, none, none] [(d, .dr m)] _ _
  refine GoS.names (K := K) (i := 2) (C := T.C_Crumb) (l := gs) (fs := fun g => crumbFs K g.v) rfl fun cs hcs => ?_
  obtain ⟨l, hl0⟩ : ∃ l, l = gs.zip cs := ⟨_, rfl⟩
  have hln : l.length ≤ 10 := by rw [hl0, List.length_zip]; omega
  have hl : ∀ x ∈ l, Dr45 x.1 := fun x hx => hgl _ (List.of_mem_zip (by rw [← hl0]; exact hx)).1
  rw [← hl0]
  clear hl0 hcs hgl hgn
  show GoS [some (it a), some (pt d), some (tup K (l.map (crI K T.C_Crumb))), none, none, none, none] [(d, .dr m)] _ _
  refine GoS.seq (GoS.set (Go.tup (K := K) (GoA.cons (Go.op (Go.c (Go.digit (GoA.cons (Go.var rfl (GoA.cons (Go.c (GoA.nil ⟨d, 6, m, [], rfl, rfl, ⟨by decide, by decide, by omega⟩, fun p p0 p1 => v_addI ?_⟩)))))))))))
  refine GoA.cons (Go.op (Go.c (Go.digit (GoA.cons (Go.var rfl (GoA.cons (Go.c (GoA.nil ⟨d, 11, m + 4, [], rfl, rfl, ⟨by decide, by decide, by omega⟩, fun q q0 q1 => v_addI (GoA.nil ⟨Nat.le_of_ble_eq_true rfl, ?_⟩)⟩))))))))
  show GoS [some (it a), some (pt d), some (tup K (l.map (crI K T.C_Crumb))), some (tup K [it (1 + p), it (1 + q)]), none, none, none] [(d, .dr (m + 8))] _ _
  refine GoS.seq ?_
  refine GoS.forE [4, 5] ?_ fun L' O' h => GoS.weak [4, 5] rfl h
  refine GoI.ofT (Go.var rfl ⟨_, rfl, _, fun i O' => O' = [(d, .dr (m + 8))], rfl, rfl, ?_, ?_⟩)
  · rintro i A O' hA rfl
    rw [List.getElem?_map] at hA
    obtain ⟨x, hx, rfl⟩ := Option.map_eq_some_iff.mp hA
    have hxl := List.mem_of_getElem? hx
    have D := hl x hxl
    refine GoG.name ?_
    show GoS [some (it a), some (pt d), some (tup K (l.map (crI K T.C_Crumb))), some (tup K [it (1 + p), it (1 + q)]), some (crI K T.C_Crumb x), none, none] [(d, .dr (m + 8))] _ _
    have hr := rank_sh (K := K) D.asc D.good.is
    refine GoS.seq (GoS.ite (GoT.test (Go.op (Go.callP (GoA.cons (Go.asIns (Go.var rfl ⟨_, _, _, rfl, GoA.nil ⟨x.1, rfl, trivial, ?_⟩⟩)))))))
    refine Go.tup (K := K) (GoA.cons (Go.prop (Go.asIns (Go.var rfl ⟨_, _, _, rfl, InsC.ins, x.1.v, rfl, trivial, ?_⟩))))
    refine GoA.cons (Go.prop (Go.asIns (Go.var rfl ⟨_, _, _, rfl, InsC.ins, x.1.v, rfl, trivial, ?_⟩)))
    refine GoA.cons (Go.prop (Go.asIns (Go.var rfl ⟨_, _, _, rfl, InsC.ins, x.1.v, rfl, trivial, ?_⟩)))
    refine GoA.cons (Go.prop (Go.asIns (Go.var rfl ⟨_, _, _, rfl, InsC.ins, x.1, rfl, trivial, GoA.nil ⟨Nat.le_of_ble_eq_true rfl, v_neSh hr hr (by decide) ⟨false, rfl, fun z => (by cases z), fun _ => ?_⟩⟩⟩)))
    refine GoS.nil ?_
    show GoS _ _ _ _
    obtain ⟨f1, f2, f3⟩ := fam45 _ D.ho
    have hg1 : ShD K (grpA K rules45 x.1) (.tuple [.none, .str (S (nameOf x.1.ho))]) 1 1000 := by
      have e : grpA K rules45 x.1 = tup K [no, tx (nameOf x.1.ho)] := by
        unfold grpA
        rw [D.sp, f1]
        rfl
      rw [e]
      exact (ShD.tup (.cons ShD.no (.cons (ShD.tx f2) .nil))).le (by decide) (by omega)
    have hg2 : ShD K (tup K [no, tx (nameOf x.1.ho)]) (.tuple [.none, .str (S (nameOf x.1.ho))]) 1 1000 := (ShD.tup (.cons ShD.no (.cons (ShD.tx f2) .nil))).le (by decide) (by omega)
    refine GoS.seq (GoS.ite (GoT.test (Go.op (Go.callP (GoA.cons (Go.tup (K := K) ?_))))))
    refine GoA.cons (Go.cS (l := [99, 111, 109]) LitS.eq (GoA.cons (Go.cS (l := [111, 114, 103]) LitS.eq (GoA.nil ⟨Nat.le_of_ble_eq_true rfl, ?_⟩))))
    refine GoA.cons (Go.asIns (Go.var rfl ⟨_, _, _, rfl, GoA.nil ⟨(rules45, x.1), rfl, ⟨rules45_ok, D.good.is.ho⟩, ?_⟩⟩))
    refine Go.tup (K := K) (GoA.cons (Go.c (GoA.cons (Go.callP (GoA.cons (Go.prop (Go.asIns (Go.var rfl ⟨_, _, _, rfl, InsC.ins, x.1.v, rfl, trivial, GoA.nil ⟨x.1.ho, rfl, (hosts45_ok _ D.ho).2.2, GoA.nil ⟨Nat.le_of_ble_eq_true rfl, ?_⟩⟩⟩))))))))
    refine v_neSh hg1 hg2 (by decide) ⟨false, rfl, fun z => (by cases z), fun _ => GoS.nil ?_⟩
    show GoS _ _ _ _
    have hmem : OutV.added ⟨l, x.1, 1 + p, 1 + q⟩ ≠ [] := by
      intro z
      have hk := (key_sh (K := K) D.asc).shp (by decide)
      have h9 : x ∈ OutV.added ⟨l, x.1, 1 + p, 1 + q⟩ := List.mem_filter.mpr ⟨hxl, SeqAt.eqv_refl _ (SeqAt.canLay_of_shaped hk)⟩
      rw [z] at h9
      cases h9
    have hv : OutV.Ok ⟨l, x.1, 1 + p, 1 + q⟩ := ⟨hmem, (by show l.length ≤ 1000; omega), hl, D.asc⟩
    have hgo : GoesV.Ok ⟨rules45, l, x.1, 1 + p, 1 + q⟩ := ⟨rules45_ok, by show l.length ≤ 1000; omega, fun y hy => ⟨(hl y hy).good, (hl y hy).asc, by rw [(fam45 _ (hl y hy).ho).1]; exact (fam45 _ (hl y hy).ho).2.1⟩, D.asc, by show 0 ≤ 1 + p; omega, by show 0 ≤ 1 + q; omega⟩
    refine GoS.seq (GoS.set (Go.callP (GoA.app (GoA.cons (Go.tup (K := K) ?_)))))
    refine GoA.cons (Go.cS (l := [99, 111, 109]) LitS.eq (GoA.cons (Go.cS (l := [111, 114, 103]) LitS.eq (GoA.nil ⟨Nat.le_of_ble_eq_true rfl, ?_⟩))))
    refine GoA.cons (Go.var rfl (GoA.cons (Go.prop (Go.asIns (Go.var rfl ⟨_, _, _, rfl, InsC.ins, x.1, rfl, trivial, GoA.nil ?_⟩)))))
    refine GoA.cons (Go.op (Go.var rfl (Go.c (v_ixT rfl (GoA.cons (Go.op (Go.var rfl (Go.c (v_ixT rfl (GoA.nil ?_))))))))))
    refine ⟨rfl, rfl, ⟨rules45, l, x.1, 1 + p, 1 + q⟩, rfl, hgo, ?_⟩
    rw [out_eq hv]
    show GoS [some (it a), some (pt d), some (tup K (l.map (crI K T.C_Crumb))), some (tup K [it (1 + p), it (1 + q)]), some (crI K T.C_Crumb x), some (keyO K (leastC (OutV.rows ⟨l, x.1, 1 + p, 1 + q⟩))), none] [(d, .dr (m + 8))] _ _
    have hko : ShD K (keyO K (leastC (OutV.rows ⟨l, x.1, 1 + p, 1 + q⟩))) (keyOE (leastC (OutV.rows ⟨l, x.1, 1 + p, 1 + q⟩))) 3 6000 := keyO_sh fun g e => by
      obtain ⟨y, hy, rfl⟩ := leastC_mem e
      refine (hl y ?_).asc
      unfold OutV.rows at hy
      split at hy
      · exact (List.mem_filter.mp hy).1
      · split at hy
        · exact hy
        · cases hy
    refine GoS.ite (GoT.test (Go.op (Go.var rfl (Go.callP (GoA.cons (Go.var rfl (GoA.cons (Go.prop (Go.asIns (Go.var rfl ⟨_, _, _, rfl, InsC.ins, x.1, rfl, trivial, ?_⟩))))))))))
    refine GoA.cons (Go.var rfl (GoA.nil ⟨⟨l, x.1, 1 + p, 1 + q⟩, rfl, hv, v_neSh hko hko (by decide) ⟨false, rfl, fun z => (by cases z), fun _ => GoS.nil ?_⟩⟩))
    exact ⟨rfl, rfl⟩
  · rintro _ rfl
    show GoS [some (it a), some (pt d), some (tup K (l.map (crI K T.C_Crumb))), some (tup K [it (1 + p), it (1 + q)]), none, none, none] [(d, .dr (m + 8))] _ _
    refine GoS.ret (Go.le (Go.cb (GoA.cons ?_)))
    refine Go.lcI (K := K) (vs := [6]) hg1 it (fun _ : Int => bo true) ?_
    refine GoI.ofT (Go.tup (K := K) (GoA.cons (Go.c (GoA.cons (Go.c (GoA.cons (Go.c (GoA.cons (Go.op (Go.c (Go.digit (GoA.cons (Go.var rfl (GoA.cons (Go.c (GoA.nil ?_))))))))))))))))
    refine ⟨d, 30, m + 8, [], rfl, rfl, ⟨by decide, by decide, by omega⟩, fun z z0 z1 => v_addI (GoA.nil ⟨Nat.le_of_ble_eq_true rfl, _, rfl, [0, 6, 8, 9 + z], rfl, by simp, fun x hx T9 => GoG.name ?_, ?_⟩)⟩
    · have hx2 : 0 ≤ x ∧ x ≤ 253402300799 := by
        simp only [List.mem_cons, List.not_mem_nil, or_false] at hx
        omega
      exact Go.callP (GoA.cons (Go.var rfl (GoA.cons (Go.var rfl (GoA.nil ⟨(l, x), rfl, ⟨by show l.length ≤ 100; omega, hl, hx2⟩, rfl, rfl⟩)))))
    · exact GoA.nil (v_all (f := fun _ => true) ⟨[], FrLe.drop _, rfl, rfl⟩)
/-! ### law -/
abbrev hA45 : List Nat := [97, 46, 99, 111, 109]
abbrev hW45 : List Nat := [119, 119, 119, 46, 97, 46, 99, 111, 109]
abbrev hN45 : List Nat := [99, 46, 110, 101, 116]
abbrev hB45 : List Nat := [98, 46, 111, 114, 103]
abbrev wCom45 : List Nat := [99, 111, 109]
abbrev wTls45 : List Nat := [104, 116, 116, 112, 115]
abbrev wNo45 : List Nat := [110, 111, 110, 101]
def crG (h : List Nat) (sm : List Nat) (sp : Option ((List Nat × List Nat) × Bool)) : CrumbG := ⟨[110], [118], h, true, [47], true, false, sm, 1, sp, (0, 0), 0, none⟩
def gA45 : CrumbG := crG hA45 wDef45 (some ((wTls45, hA45), false))
def gB45 : CrumbG := crG hW45 wDef45 none
def gC45 : CrumbG := crG hA45 wNo45 (some ((wTls45, hB45), true))
def gD45 : CrumbG := crG hN45 wNo45 (some ((wTls45, hB45), true))
theorem gs_good : ∀ g ∈ [gA45, gB45, gC45, gD45], g.Good := by
  have h : ∀ g ∈ [gA45, gB45, gC45, gD45], crumbBad g.v = none := by decide +kernel
  exact h
theorem crG_asc {h sm : List Nat} {sp : Option ((List Nat × List Nat) × Bool)} (hh : (∀ c ∈ h, c < 128) ∧ h.length ≤ 200) (hs : ∀ s x f, sp = some ((s, x), f) → ((∀ c ∈ s, c < 128) ∧ ∀ c ∈ x, c < 128) ∧ s.length ≤ 200 ∧ x.length ≤ 200) : AscC (crG h sm sp) :=
  ⟨(by show ∀ c ∈ ([110] : List Nat), c < 128; decide), hh.1, (by show ∀ c ∈ ([47] : List Nat), c < 128; decide), fun s x f e => (hs s x f e).1.1, fun s x f e => (hs s x f e).1.2, ⟨by show 1 ≤ 4096; decide, hh.2, by show 1 ≤ 200; decide⟩, fun s x f e => (hs s x f e).2⟩
theorem gA_asc : AscC gA45 := crG_asc (by decide) fun s x f e => by
  cases e
  decide
theorem gB_asc : AscC gB45 := crG_asc (by decide) fun s x f e => by cases e
theorem gC_asc : AscC gC45 := crG_asc (by decide) fun s x f e => by
  cases e
  decide
theorem gD_asc : AscC gD45 := crG_asc (by decide) fun s x f e => by
  cases e
  decide
theorem ruC_ok : GoodR [wCom45] := by
  have h1 : (([wCom45] : List (List Nat)).length ≤ 30 ∧ (∀ r ∈ [wCom45], isRule r = true)) ∧ ([wCom45] : List (List Nat)).Nodup ∧ ∀ r ∈ [wCom45], r.length ≤ 70000 := by decide +kernel
  exact ⟨h1.1.1, h1.1.2, h1.2.1, h1.2.2⟩
theorem ruN_ok : GoodR [] := ⟨by decide, fun r h => (by cases h), by decide, fun r h => (by cases h)⟩
theorem famC : famT [wCom45] hA45 = hA45 ∧ famT [wCom45] hW45 = hA45 ∧ famT [] hA45 = hA45 ∧ famT [] hW45 = hA45 ∧ famT [] hN45 = hN45 := by decide +kernel
theorem out1 (a b : Addr) : GoesV.out ⟨[wCom45], [(gA45, a), (gB45, b)], gA45, 1, 2⟩ = none := by kernel_rfl
theorem out3 (a b : Addr) : GoesV.out ⟨[], [(gC45, a), (gD45, b)], gD45, 1, 2⟩ = none := by kernel_rfl
theorem out2a (a b : Addr) : GoesV.out ⟨[wCom45], [(gA45, a), (gB45, b)], gA45, 1, 1⟩ = leastC [(gA45, a), (gB45, b)] := by kernel_rfl
theorem least2 {x y : CrumbG × Addr} (h : PySem.W.dataLe false (fun x : CrumbG × Addr => rankE x.1) x y = false) : leastC [x, y] = some y.1 := by
  unfold leastC
  simp [List.mergeSort, List.MergeSort.Internal.splitInTwo, List.merge, h]
theorem out2b (a b : Addr) : PySem.W.dataLe false (fun x : CrumbG × Addr => rankE x.1) (gA45, a) (gB45, b) = false := by kernel_rfl
theorem out2 (a b : Addr) : GoesV.out ⟨[wCom45], [(gA45, a), (gB45, b)], gA45, 1, 1⟩ = some gB45 := by rw [out2a, least2 (out2b a b)]
theorem no_raise {C B : Addr} {g : CrumbG} {cls : Value} {fs : List (Str × As)} {O' : OO} (h : g.Good) : ¬ rpCrumb C B (crumbBad g.v) cls fs O' := fun q => by
  obtain ⟨f, D, e, _⟩ := q
  rw [show crumbBad g.v = none from h] at e
  cases e
abbrev sp_law (K : PySem.W.Frag) : Sp := SpG (fun cs : List Int => cs.length ≤ 63) (fun cs => [sql K (cs.map it)]) (fun _ => []) (fun _ A _ => A = bo true)
theorem ok_law (T : Txt K mg w) : FnG P w K mg base CX0 14 T.f_law T.d_law ["_law_script"] (sp_law K) := by
  refine fnG_sy T.F_law sc_law (fun _ _ => rfl) fun a cdv A outer s H E hr gd hp => ⟨_, (pss_cons (ps_set (i := 1) sc_law.nd rfl (.inl rfl) (pe_tup (pa_cons (pe_tup (pa_cons pe_str (pa_cons pe_str pa_nil))) (pa_cons pe_bl pa_nil))))
      (pss_cons (ps_set (i := 2) sc_law.nd rfl (.inl rfl) (pe_makeK T.M_Crumb (ok_Crumb_init (P := P) T) (hr.mono (by decide)) (by rfl) T.K_Crumb.g T.kx_2_Crumb_init.choose_spec passF (pa_cons pe_str (pa_cons pe_str (pa_cons pe_str pa_nil))) (pk_cons pe_bl (pk_cons (pv 1) pk_nil))))
      (pss_cons (ps_set (i := 3) sc_law.nd rfl (.inl rfl) (pe_makeK T.M_Crumb (ok_Crumb_init (P := P) T) (hr.mono (by decide)) (by rfl) T.K_Crumb.g T.kx_3_Crumb_init.choose_spec passF (pa_cons pe_str (pa_cons pe_str (pa_cons pe_str pa_nil))) (pk_cons pe_bl pk_nil)))
      (pss_cons (ps_if (PW.pt (pw_or (pt_cmpR (kNe (K := K) rfl hr.units) (pe_call (ok_group_of (P := P) T) (hr.mono (by decide)) (by rfl) T.g_group_of T.F_group_of.kp T.b_group_of .nil pass0 (pa_cons (pe_tup (pa_cons pe_str pa_nil)) (pa_cons (pv 2) pa_nil))) (pe_tup (pa_cons (pv 1) (pa_cons pe_str pa_nil))) (nomark _)) (pw_or1 (pt_cmpR (kNe (K := K) rfl hr.units) (pe_call (ok_group_of (P := P) T) (hr.mono (by decide)) (by rfl) T.g_group_of T.F_group_of.kp T.b_group_of .nil pass0 (pa_cons (pe_tup pa_nil) (pa_cons (pv 3) pa_nil))) (pe_tup (pa_cons pe_non (pa_cons pe_str pa_nil))) (nomark _)))))
      (pss_one (ps_ret pe_bl))
      pss_nil)
      (pss_cons (ps_if (pt_cmpR op_notN (pe_callKA (ok_goes (P := P) T) (hr.mono (by decide)) (by rfl) T.g_goes T.F_goes.kp T.kw_goes pass0 (pa_cons (pe_tup (pa_cons pe_str pa_nil)) (pa_cons (pe_tup (pa_cons (pv 2) (pa_cons (pv 3) pa_nil))) (pa_cons (pe_prop (pv 2) T.K_Crumb.c T.P_Crumb_key (ok_Crumb_key (P := P) T) (hr.mono (by decide)) T.b_Crumb_key .nil pass0 rfl) pa_nil))) (pk_cons pe_int (pk_cons pe_int pk_nil))) pe_non (nomark _))
      (pss_one (ps_ret pe_bl))
      pss_nil)
      (pss_cons (ps_if (pt_cmpR (kNe (K := K) rfl hr.units) (pe_callKA (ok_goes (P := P) T) (hr.mono (by decide)) (by rfl) T.g_goes T.F_goes.kp T.kw_goes pass0 (pa_cons (pe_tup (pa_cons pe_str pa_nil)) (pa_cons (pe_tup (pa_cons (pv 2) (pa_cons (pv 3) pa_nil))) (pa_cons (pe_prop (pv 2) T.K_Crumb.c T.P_Crumb_key (ok_Crumb_key (P := P) T) (hr.mono (by decide)) T.b_Crumb_key .nil pass0 rfl) pa_nil))) (pk_cons pe_int (pk_cons pe_int pk_nil))) (pe_prop (pv 3) T.K_Crumb.c T.P_Crumb_key (ok_Crumb_key (P := P) T) (hr.mono (by decide)) T.b_Crumb_key .nil pass0 rfl) (nomark _))
      (pss_one (ps_ret pe_bl))
      pss_nil)
      (pss_cons (ps_set (i := 1) sc_law.nd rfl (.inl rfl) (pe_tup (pa_cons (pe_tup (pa_cons pe_str (pa_cons pe_str pa_nil))) (pa_cons pe_bl pa_nil))))
      (pss_cons (ps_set (i := 2) sc_law.nd rfl (.inl rfl) (pe_makeK T.M_Crumb (ok_Crumb_init (P := P) T) (hr.mono (by decide)) (by rfl) T.K_Crumb.g T.kx_4_Crumb_init.choose_spec passF (pa_cons pe_str (pa_cons pe_str (pa_cons pe_str pa_nil))) (pk_cons pe_bl (pk_cons pe_str (pk_cons (pv 1) pk_nil)))))
      (pss_cons (ps_set (i := 3) sc_law.nd rfl (.inl rfl) (pe_makeK T.M_Crumb (ok_Crumb_init (P := P) T) (hr.mono (by decide)) (by rfl) T.K_Crumb.g T.kx_4_Crumb_init.choose_spec passF (pa_cons pe_str (pa_cons pe_str (pa_cons pe_str pa_nil))) (pk_cons pe_bl (pk_cons pe_str (pk_cons (pv 1) pk_nil)))))
      (pss_cons (ps_if (pt_cmpR (kNe (K := K) rfl hr.units) (pe_lst (pa_cons (pe_call (ok_group_of (P := P) T) (hr.mono (by decide)) (by rfl) T.g_group_of T.F_group_of.kp T.b_group_of .nil pass0 (pa_cons (pe_tup pa_nil) (pa_cons (pv 2) pa_nil))) (pa_cons (pe_call (ok_group_of (P := P) T) (hr.mono (by decide)) (by rfl) T.g_group_of T.F_group_of.kp T.b_group_of .nil pass0 (pa_cons (pe_tup pa_nil) (pa_cons (pv 3) pa_nil))) pa_nil))) (pe_lst (pa_cons (pe_tup (pa_cons (pv 1) (pa_cons pe_str pa_nil))) (pa_cons (pe_tup (pa_cons (pv 1) (pa_cons pe_str pa_nil))) pa_nil))) (nomark _))
      (pss_one (ps_ret pe_bl))
      pss_nil)
      (pss_cons (ps_if (pt_cmpR op_notN (pe_callKA (ok_goes (P := P) T) (hr.mono (by decide)) (by rfl) T.g_goes T.F_goes.kp T.kw_goes pass0 (pa_cons (pe_tup pa_nil) (pa_cons (pe_tup (pa_cons (pv 2) (pa_cons (pv 3) pa_nil))) (pa_cons (pe_prop (pv 3) T.K_Crumb.c T.P_Crumb_key (ok_Crumb_key (P := P) T) (hr.mono (by decide)) T.b_Crumb_key .nil pass0 rfl) pa_nil))) (pk_cons pe_int (pk_cons pe_int pk_nil))) pe_non (nomark _))
      (pss_one (ps_ret pe_bl))
      pss_nil)
      (pss_one (ps_ret (pe_callB (kAll (K := K) rfl rfl) (by rfl) T.n_all (by decide +kernel) (pa_cons (pe_lc (own := [("_law_cell", 4)]) (g := gName 4) (tt := tYes) (by rfl) sc_law.nd (kpList (K := K) rfl (pe_slice (kSlL (K := K) rfl) (pv 0) po_none (po_some pe_int))) (blkOk_by (own := [("_law_cell", 4)]) (N := N_law) (sc := defScope S_law) (by decide +kernel)) (fun _ _ _ _ _ => (pg_name (i := 4) sc_law.nd rfl (.inl rfl))) (fun _ _ _ _ _ => pts_nil) (fun _ _ _ _ _ => (pe_callG (ok__law_cell_right (P := P) T) (hr.mono (by decide)) gd (by rfl) T.g__law_cell_right T.F__law_cell_right.kp T.b__law_cell_right .nil pass0 (pa_cons (pv 4) pa_nil)))) pa_nil))))))))))))))), ?_⟩
  have hp : a.length ≤ 63 := hp
  have gA := gs_good gA45 (by simp)
  have gB := gs_good gB45 (by simp)
  have gC := gs_good gC45 (by simp)
  have gD := gs_good gD45 (by simp)
  show GoS [some (sql K (a.map it)), none, none, none, none] [] _ _
  refine GoS.seq (GoS.set (Go.tup (K := K) (GoA.cons (Go.tup (K := K) (GoA.cons (Go.cS (l := wTls45) LitS.eq (GoA.cons (Go.cS (l := hA45) LitS.eq (GoA.nil ⟨Nat.le_of_ble_eq_true rfl, ?_⟩)))))))))
  refine GoA.cons (Go.c (GoA.nil ⟨Nat.le_of_ble_eq_true rfl, ?_⟩))
  obtain ⟨DA, hDA⟩ : ∃ D, D = tup K [tup K [tx wTls45, tx hA45], bo false] := ⟨_, rfl⟩
  show GoS [some (sql K (a.map it)), some (tup K [tup K [tx wTls45, tx hA45], bo false]), none, none, none] [] _ _
  refine GoS.seq (GoS.set (Go.makeKE kg_2_Crumb_init kgA_2_Crumb_init (fun _ _ _ _ => rfl) [bo true, tx [47], bo false, tx wDef45, it 1, tup K [it 0, it 0], it 0, no] (fun G => .cons rfl (.cons rfl (.cons rfl (.cons rfl (.cons rfl (.cons ⟨T.ka_Crumb_init_born, _, rfl, T.kt_Crumb_init_born _, .cons rfl (.cons rfl .nil)⟩ (.cons rfl (.cons rfl .nil)))))))) ?_))
  refine GoA.cons (Go.cS (l := [110]) LitS.eq (GoA.cons (Go.cS (l := [118]) LitS.eq (GoA.cons (Go.cS (l := hA45) LitS.eq (GoA.nil ?_))))))
  refine GoA.cons (Go.c (GoA.cons (Go.var rfl (GoA.nil ⟨rfl, rfl, gA45.v, rfl, gA.is.ok, fun cls fs O2 q => no_raise gA q, fun _ => ?_⟩))))
  show GoS [some (sql K (a.map it)), some (tup K [tup K [tx wTls45, tx hA45], bo false]), some (ins T.C_Crumb (crumbFs K gA45.v)), none, none] [] _ _
  refine GoS.seq (GoS.set (Go.makeKE kg_3_Crumb_init kgA_3_Crumb_init (fun _ _ _ _ => rfl) [bo true, tx [47], bo false, tx wDef45, it 1, no, tup K [it 0, it 0], it 0, no] (fun G => .cons rfl (.cons rfl (.cons rfl (.cons rfl (.cons rfl (.cons rfl (.cons ⟨T.ka_Crumb_init_born, _, rfl, T.kt_Crumb_init_born _, .cons rfl (.cons rfl .nil)⟩ (.cons rfl (.cons rfl .nil))))))))) ?_))
  refine GoA.cons (Go.cS (l := [110]) LitS.eq (GoA.cons (Go.cS (l := [118]) LitS.eq (GoA.cons (Go.cS (l := hW45) LitS.eq (GoA.nil ?_))))))
  refine GoA.cons (Go.c (GoA.nil ⟨rfl, rfl, gB45.v, rfl, gB.is.ok, fun cls fs O2 q => no_raise gB q, fun _ => ?_⟩))
  refine GoS.name1 (i := 2) (C := T.C_Crumb) (fs := crumbFs K gA45.v) rfl fun cA => ?_
  refine GoS.name1 (i := 3) (C := T.C_Crumb) (fs := crumbFs K gB45.v) rfl fun cB => ?_
  show GoS [some (sql K (a.map it)), some (tup K [tup K [tx wTls45, tx hA45], bo false]), some (insA cA T.C_Crumb (crumbFs K gA45.v)), some (insA cB T.C_Crumb (crumbFs K gB45.v)), none] [] _ _
  have sA1 : ShD K (tup K [spT K gA45.sp, tx hA45]) (.tuple [spN gA45.sp, .str (S hA45)]) 3 1000 := (ShD.tup (.cons (sp_shN gA_asc) (.cons (ShD.tx (by decide)) .nil))).le (by decide) (by decide)
  have sB1 : ShD K (tup K [spT K gB45.sp, tx hA45]) (.tuple [spN gB45.sp, .str (S hA45)]) 3 1000 := (ShD.tup (.cons (sp_shN gB_asc) (.cons (ShD.tx (by decide)) .nil))).le (by decide) (by decide)
  have eA : grpA K [wCom45] gA45 = tup K [spT K gA45.sp, tx hA45] := by
    unfold grpA
    rw [show gA45.ho = hA45 from rfl, famC.1]
  have eB : grpA K [] gB45 = tup K [spT K gB45.sp, tx hA45] := by
    unfold grpA
    rw [show gB45.ho = hW45 from rfl, famC.2.2.2.1]
  refine GoS.seq (GoS.ite (GoT.or (GoT.test (Go.op (Go.callP (GoA.cons (Go.tup (K := K) ?_)))))))
  refine GoA.cons (Go.cS (l := wCom45) LitS.eq (GoA.nil ⟨Nat.le_of_ble_eq_true rfl, ?_⟩))
  refine GoA.cons (Go.asIns (Go.var rfl ⟨_, _, _, rfl, GoA.nil ⟨([wCom45], gA45), rfl, ⟨ruC_ok, gA.is.ho⟩, ?_⟩⟩))
  rw [eA]
  refine Go.tup (K := K) (GoA.cons (Go.var rfl (GoA.cons (Go.cS (l := hA45) LitS.eq (GoA.nil ⟨Nat.le_of_ble_eq_true rfl, v_neSh sA1 sA1 (by decide) ⟨false, rfl, fun z => (by cases z), fun _ => ?_⟩⟩)))))
  refine GoT.test (Go.op (Go.callP (GoA.cons (Go.tup (K := K) (GoA.nil ⟨Nat.le_of_ble_eq_true rfl, ?_⟩)))))
  refine GoA.cons (Go.asIns (Go.var rfl ⟨_, _, _, rfl, GoA.nil ⟨([], gB45), rfl, ⟨ruN_ok, gB.is.ho⟩, ?_⟩⟩))
  rw [eB]
  refine Go.tup (K := K) (GoA.cons (Go.c (GoA.cons (Go.cS (l := hA45) LitS.eq (GoA.nil ⟨Nat.le_of_ble_eq_true rfl, v_neSh sB1 sB1 (by decide) ⟨false, rfl, fun z => (by cases z), fun _ => GoS.nil ?_⟩⟩)))))
  show GoS _ _ _ _
  have hok : ∀ m : Int, 0 ≤ m → GoesV.Ok ⟨[wCom45], [(gA45, cA), (gB45, cB)], gA45, 1, m⟩ := fun m hm => ⟨ruC_ok, (by show 2 ≤ 1000; decide), fun x hx => by
    simp only [List.mem_cons, List.not_mem_nil, or_false] at hx
    rcases hx with rfl | rfl
    · exact ⟨gA, gA_asc, by show ∀ c ∈ famT [wCom45] hA45, c < 128; rw [famC.1]; decide⟩
    · exact ⟨gB, gB_asc, by show ∀ c ∈ famT [wCom45] hW45, c < 128; rw [famC.2.1]; decide⟩, gA_asc, by show (0 : Int) ≤ 1; decide, hm⟩
  refine GoS.seq (GoS.ite (GoT.test (Go.op (Go.callP (GoA.app (GoA.cons (Go.tup (K := K) ?_)))))))
  refine GoA.cons (Go.cS (l := wCom45) LitS.eq (GoA.nil ⟨Nat.le_of_ble_eq_true rfl, ?_⟩))
  refine GoA.cons (Go.tup (K := K) (GoA.cons (Go.var rfl (GoA.cons (Go.var rfl (GoA.nil ⟨Nat.le_of_ble_eq_true rfl, ?_⟩))))))
  refine GoA.cons (Go.prop (Go.asIns (Go.var rfl ⟨_, _, _, rfl, InsC.ins, gA45, rfl, trivial, GoA.nil ?_⟩)))
  refine GoA.cons (Go.c (GoA.cons (Go.c (GoA.nil ⟨rfl, rfl, ⟨[wCom45], [(gA45, cA), (gB45, cB)], gA45, 1, 2⟩, rfl, hok 2 (by decide), ?_⟩))))
  rw [out1]
  refine Go.c (v_notN (x := .non) ⟨_, rfl, fun z => (by cases z), fun _ => GoS.nil ?_⟩)
  show GoS _ _ _ _
  refine GoS.seq (GoS.ite (GoT.test (Go.op (Go.callP (GoA.app (GoA.cons (Go.tup (K := K) ?_)))))))
  refine GoA.cons (Go.cS (l := wCom45) LitS.eq (GoA.nil ⟨Nat.le_of_ble_eq_true rfl, ?_⟩))
  refine GoA.cons (Go.tup (K := K) (GoA.cons (Go.var rfl (GoA.cons (Go.var rfl (GoA.nil ⟨Nat.le_of_ble_eq_true rfl, ?_⟩))))))
  refine GoA.cons (Go.prop (Go.asIns (Go.var rfl ⟨_, _, _, rfl, InsC.ins, gA45, rfl, trivial, GoA.nil ?_⟩)))
  refine GoA.cons (Go.c (GoA.cons (Go.c (GoA.nil ⟨rfl, rfl, ⟨[wCom45], [(gA45, cA), (gB45, cB)], gA45, 1, 1⟩, rfl, hok 1 (by decide), ?_⟩))))
  rw [out2]
  refine Go.prop (Go.asIns (Go.var rfl ⟨_, _, _, rfl, InsC.ins, gB45, rfl, trivial, ?_⟩))
  refine v_neSh (key_sh gB_asc) (key_sh gB_asc) (by decide) ⟨false, rfl, fun z => (by cases z), fun _ => GoS.nil ?_⟩
  show GoS [some (sql K (a.map it)), some (tup K [tup K [tx wTls45, tx hA45], bo false]), some (insA cA T.C_Crumb (crumbFs K gA45.v)), some (insA cB T.C_Crumb (crumbFs K gB45.v)), none] [] _ _
  refine GoS.seq (GoS.set (Go.tup (K := K) (GoA.cons (Go.tup (K := K) (GoA.cons (Go.cS (l := wTls45) LitS.eq (GoA.cons (Go.cS (l := hB45) LitS.eq (GoA.nil ⟨Nat.le_of_ble_eq_true rfl, ?_⟩)))))))))
  refine GoA.cons (Go.c (GoA.nil ⟨Nat.le_of_ble_eq_true rfl, ?_⟩))
  show GoS [some (sql K (a.map it)), some (tup K [tup K [tx wTls45, tx hB45], bo true]), some (insA cA T.C_Crumb (crumbFs K gA45.v)), some (insA cB T.C_Crumb (crumbFs K gB45.v)), none] [] _ _
  refine GoS.seq (GoS.set (Go.makeKE kg_4_Crumb_init kgA_4_Crumb_init (fun _ _ _ _ => rfl) [bo true, tx [47], bo false, it 1, tup K [it 0, it 0], it 0, no] (fun G => .cons rfl (.cons rfl (.cons rfl (.cons rfl (.cons ⟨T.ka_Crumb_init_born, _, rfl, T.kt_Crumb_init_born _, .cons rfl (.cons rfl .nil)⟩ (.cons rfl (.cons rfl .nil))))))) ?_))
  refine GoA.cons (Go.cS (l := [110]) LitS.eq (GoA.cons (Go.cS (l := [118]) LitS.eq (GoA.cons (Go.cS (l := hA45) LitS.eq (GoA.nil ?_))))))
  refine GoA.cons (Go.c (GoA.cons (Go.cS (l := wNo45) LitS.eq (GoA.cons (Go.var rfl (GoA.nil ⟨rfl, rfl, gC45.v, rfl, gC.is.ok, fun cls fs O2 q => no_raise gC q, fun _ => ?_⟩))))))
  refine GoS.seq (GoS.set (Go.makeKE kg_4_Crumb_init kgA_4_Crumb_init (fun _ _ _ _ => rfl) [bo true, tx [47], bo false, it 1, tup K [it 0, it 0], it 0, no] (fun G => .cons rfl (.cons rfl (.cons rfl (.cons rfl (.cons ⟨T.ka_Crumb_init_born, _, rfl, T.kt_Crumb_init_born _, .cons rfl (.cons rfl .nil)⟩ (.cons rfl (.cons rfl .nil))))))) ?_))
  refine GoA.cons (Go.cS (l := [110]) LitS.eq (GoA.cons (Go.cS (l := [118]) LitS.eq (GoA.cons (Go.cS (l := hN45) LitS.eq (GoA.nil ?_))))))
  refine GoA.cons (Go.c (GoA.cons (Go.cS (l := wNo45) LitS.eq (GoA.cons (Go.var rfl (GoA.nil ⟨rfl, rfl, gD45.v, rfl, gD.is.ok, fun cls fs O2 q => no_raise gD q, fun _ => ?_⟩))))))
  refine GoS.name1 (i := 2) (C := T.C_Crumb) (fs := crumbFs K gC45.v) rfl fun cC => ?_
  refine GoS.name1 (i := 3) (C := T.C_Crumb) (fs := crumbFs K gD45.v) rfl fun cD => ?_
  show GoS [some (sql K (a.map it)), some (tup K [tup K [tx wTls45, tx hB45], bo true]), some (insA cC T.C_Crumb (crumbFs K gC45.v)), some (insA cD T.C_Crumb (crumbFs K gD45.v)), none] [] _ _
  have sC1 : ShD K (tup K [spT K gC45.sp, tx hA45]) (.tuple [spN gC45.sp, .str (S hA45)]) 3 1000 := (ShD.tup (.cons (sp_shN gC_asc) (.cons (ShD.tx (by decide)) .nil))).le (by decide) (by decide)
  have sD1 : ShD K (tup K [spT K gD45.sp, tx hN45]) (.tuple [spN gD45.sp, .str (S hN45)]) 3 1000 := (ShD.tup (.cons (sp_shN gD_asc) (.cons (ShD.tx (by decide)) .nil))).le (by decide) (by decide)
  have eC : grpA K [] gC45 = tup K [spT K gC45.sp, tx hA45] := by
    unfold grpA
    rw [show gC45.ho = hA45 from rfl, famC.2.2.1]
  have eD : grpA K [] gD45 = tup K [spT K gD45.sp, tx hN45] := by
    unfold grpA
    rw [show gD45.ho = hN45 from rfl, famC.2.2.2.2]
  have sL := ShD.lst (K := K) (.cons sC1 (.cons sD1 .nil))
  refine GoS.seq (GoS.ite (GoT.test (Go.op (Go.lst (K := K) (GoA.cons (Go.callP (GoA.cons (Go.tup (K := K) (GoA.nil ⟨Nat.le_of_ble_eq_true rfl, ?_⟩)))))))))
  refine GoA.cons (Go.asIns (Go.var rfl ⟨_, _, _, rfl, GoA.nil ⟨([], gC45), rfl, ⟨ruN_ok, gC.is.ho⟩, ?_⟩⟩))
  rw [eC]
  refine GoA.cons (Go.callP (GoA.cons (Go.tup (K := K) (GoA.nil ⟨Nat.le_of_ble_eq_true rfl, ?_⟩))))
  refine GoA.cons (Go.asIns (Go.var rfl ⟨_, _, _, rfl, GoA.nil ⟨([], gD45), rfl, ⟨ruN_ok, gD.is.ho⟩, ?_⟩⟩))
  rw [eD]
  refine GoA.nil ⟨Nat.le_of_ble_eq_true rfl, ?_⟩
  refine Go.lst (K := K) (GoA.cons (Go.tup (K := K) (GoA.cons (Go.var rfl (GoA.cons (Go.cS (l := hA45) LitS.eq (GoA.nil ⟨Nat.le_of_ble_eq_true rfl, ?_⟩)))))))
  refine GoA.cons (Go.tup (K := K) (GoA.cons (Go.var rfl (GoA.cons (Go.cS (l := hN45) LitS.eq (GoA.nil ⟨Nat.le_of_ble_eq_true rfl, ?_⟩))))))
  refine GoA.nil ⟨Nat.le_of_ble_eq_true rfl, v_neSh sL sL (by decide) ⟨false, rfl, fun z => (by cases z), fun _ => GoS.nil ?_⟩⟩
  show GoS _ _ _ _
  have hok2 : GoesV.Ok ⟨[], [(gC45, cC), (gD45, cD)], gD45, 1, 2⟩ := ⟨ruN_ok, (by show 2 ≤ 1000; decide), fun x hx => by
    simp only [List.mem_cons, List.not_mem_nil, or_false] at hx
    rcases hx with rfl | rfl
    · exact ⟨gC, gC_asc, by show ∀ c ∈ famT [] hA45, c < 128; rw [famC.2.2.1]; decide⟩
    · exact ⟨gD, gD_asc, by show ∀ c ∈ famT [] hN45, c < 128; rw [famC.2.2.2.2]; decide⟩, gD_asc, by show (0 : Int) ≤ 1; decide, by show (0 : Int) ≤ 2; decide⟩
  refine GoS.seq (GoS.ite (GoT.test (Go.op (Go.callP (GoA.app (GoA.cons (Go.tup (K := K) (GoA.nil ⟨Nat.le_of_ble_eq_true rfl, ?_⟩))))))))
  refine GoA.cons (Go.tup (K := K) (GoA.cons (Go.var rfl (GoA.cons (Go.var rfl (GoA.nil ⟨Nat.le_of_ble_eq_true rfl, ?_⟩))))))
  refine GoA.cons (Go.prop (Go.asIns (Go.var rfl ⟨_, _, _, rfl, InsC.ins, gD45, rfl, trivial, GoA.nil ?_⟩)))
  refine GoA.cons (Go.c (GoA.cons (Go.c (GoA.nil ⟨rfl, rfl, ⟨[], [(gC45, cC), (gD45, cD)], gD45, 1, 2⟩, rfl, hok2, ?_⟩))))
  rw [out3]
  refine Go.c (v_notN (x := .non) ⟨_, rfl, fun z => (by cases z), fun _ => GoS.nil ?_⟩)
  show GoS _ _ _ _
  refine GoS.ret (Go.cb (GoA.cons (Go.lcM1 (K := K) (l := cut a none (some 50)) (O9 := []) (f := it) (B := fun _ => bo true) ?_ (fun x hx T9 => ?_) ?_ (GoA.nil (v_all (f := fun _ => true) ?_)))))
  · walk_at "cj16"
    exact cut_map a it none (some 50)
  · exact Go.callP (GoA.cons (Go.var rfl (GoA.nil ⟨x, rfl, trivial, rfl, rfl⟩)))
  · have := cut_len a none (some 50)
    omega
  · exact congrArg bo (List.all_eq_true.mpr fun _ _ => rfl)
end
section
def spz_law (K : PySem.W.Frag) : Sp := fun vs H Q _ => ∃ (a : Addr) (ns : List Int), vs = [.ref a] ∧ SqL K H a (ns.map V.int) ∧ ns.length ≤ 63 ∧ ∀ H', Q (.bl true) H'
theorem okz_law {P : Program} {w : World} {K : PySem.W.Frag} {mg : Str → Option Value} {base : Heap} [IsP P] (T : Txt K mg w) : FnG P w K mg base CX0 14 T.f_law T.d_law ["_law_script"] (spz_law K) := (ok_law T).imp fun vs H Q E h => by
  obtain ⟨a, ns, rfl, hS, hl, q⟩ := h
  refine ⟨ns, H, hl, .cons ⟨a, _, rfl, hS, all2_it ns⟩ .nil, ⟨Same.refl _, Same.refl _, fun _ _ _ h => h, fun _ h => h, fun b h n => absurd h n, fun x hx => (by cases hx), .nil⟩, fun A O' G' H' v hA f hv => ?_⟩
  obtain rfl : A = bo true := hA
  obtain rfl : v = .bl true := hv
  exact q H'
end
theorem all_mk {w : World} {K : PySem.W.Frag} {h : Heap} {mg : Str → Option Value} {fa : Addr} (X : K.In h) (G : h.Ns mainGlobals mg) (hfa : mg "law" = some (.ref fa))
    {C_Line f25 : Addr}
    (oC_Line : PySem.W.nsIn K mainGlobals "Line" = some (some (.ref C_Line)))
    (opg_Line : PySem.W.plainGet K C_Line Str.empty = true)
    (ohd_Line : PySem.W.hasDictIn K C_Line = true)
    (opo_Line : PySem.W.plainOver K C_Line = true)
    (osa_Line : PySem.W.findIn K (.ref C_Line) "__setattr__" = some (some (.builtin "object.__setattr__")))
    (oha_Line : PySem.W.findIn K (.ref C_Line) "__class__" = some (some (.builtin "object.__class__")))
    (ohn_Line : PySem.W.specialIn K (.builtin "object.__class__") "__get__" = some (some (.builtin "getset_descriptor.__get__")))
    (otk_Line : PySem.W.takesIn K (.builtin "object.__class__") = some true)
    (omo_Line : PySem.W.mroIn K C_Line (.type "object") = some true)
    (ocl_Line : PySem.W.isClsIn K C_Line = true)
    (oty_Line : PySem.W.typeIn K (.ref C_Line) = some (.type "type"))
    (osN_Line : PySem.W.subIn K (.type "NoneType") (.ref C_Line) = some false)
    (osb_Line : PySem.W.subIn K (.type "bool") (.ref C_Line) = some false)
    (osi_Line : PySem.W.subIn K (.type "int") (.ref C_Line) = some false)
    (oss_Line : PySem.W.subIn K (.type "str") (.ref C_Line) = some false)
    (osl_Line : PySem.W.subIn K (.type "list") (.ref C_Line) = some false)
    (ost_Line : PySem.W.subIn K (.type "tuple") (.ref C_Line) = some false)
    (osd_Line : PySem.W.subIn K (.type "dict") (.ref C_Line) = some false)
    (omk_Line : PySem.W.makesIn K C_Line = true)
    (oin_Line : PySem.W.findIn K (.ref C_Line) "__init__" = some (some (.ref f25)))
    (ofn_Line : PySem.W.isFn K (.ref f25) = true)
    (okp_Line : PySem.W.keepIn K (.ref C_Line) = true)
    (on_Line_line_settings : PySem.W.findIn K (.ref C_Line) "line_settings" = some none)
    {C_Crumb f48 f43 f44 f45 f42 f50 f47 f46 f49 f51 f41 p_Crumb_space p_Crumb_host p_Crumb_is_exact p_Crumb_path p_Crumb_name p_Crumb_ends p_Crumb_priority p_Crumb_is_secure p_Crumb_seen p_Crumb_key : Addr}
    (oC_Crumb : PySem.W.nsIn K mainGlobals "Crumb" = some (some (.ref C_Crumb)))
    (opg_Crumb : PySem.W.plainGet K C_Crumb Str.empty = true)
    (ohd_Crumb : PySem.W.hasDictIn K C_Crumb = true)
    (opo_Crumb : PySem.W.plainOver K C_Crumb = true)
    (osa_Crumb : PySem.W.findIn K (.ref C_Crumb) "__setattr__" = some (some (.builtin "object.__setattr__")))
    (oha_Crumb : PySem.W.findIn K (.ref C_Crumb) "__class__" = some (some (.builtin "object.__class__")))
    (ohn_Crumb : PySem.W.specialIn K (.builtin "object.__class__") "__get__" = some (some (.builtin "getset_descriptor.__get__")))
    (otk_Crumb : PySem.W.takesIn K (.builtin "object.__class__") = some true)
    (omo_Crumb : PySem.W.mroIn K C_Crumb (.type "object") = some true)
    (ocl_Crumb : PySem.W.isClsIn K C_Crumb = true)
    (oty_Crumb : PySem.W.typeIn K (.ref C_Crumb) = some (.type "type"))
    (osN_Crumb : PySem.W.subIn K (.type "NoneType") (.ref C_Crumb) = some false)
    (osb_Crumb : PySem.W.subIn K (.type "bool") (.ref C_Crumb) = some false)
    (osi_Crumb : PySem.W.subIn K (.type "int") (.ref C_Crumb) = some false)
    (oss_Crumb : PySem.W.subIn K (.type "str") (.ref C_Crumb) = some false)
    (osl_Crumb : PySem.W.subIn K (.type "list") (.ref C_Crumb) = some false)
    (ost_Crumb : PySem.W.subIn K (.type "tuple") (.ref C_Crumb) = some false)
    (osd_Crumb : PySem.W.subIn K (.type "dict") (.ref C_Crumb) = some false)
    (omk_Crumb : PySem.W.makesIn K C_Crumb = true)
    (oin_Crumb : PySem.W.findIn K (.ref C_Crumb) "__init__" = some (some (.ref f41)))
    (ofn_Crumb : PySem.W.isFn K (.ref f41) = true)
    (okp_Crumb : PySem.W.keepIn K (.ref C_Crumb) = true)
    (on_Crumb_own_parts : PySem.W.findIn K (.ref C_Crumb) "own_parts" = some none)
    {pr_Crumb_space : List Value}
    (opa_Crumb_space : PySem.W.findIn K (.ref C_Crumb) "space" = some (some (.ref p_Crumb_space)))
    (opb_Crumb_space : PySem.W.specialIn K (.ref p_Crumb_space) "__get__" = some (some (.builtin "property.__get__")))
    (opc_Crumb_space : PySem.W.takesIn K (.ref p_Crumb_space) = some true)
    (opd_Crumb_space : PySem.W.recIn K p_Crumb_space "property" = some (.ref f48 :: pr_Crumb_space))
    {pr_Crumb_host : List Value}
    (opa_Crumb_host : PySem.W.findIn K (.ref C_Crumb) "host" = some (some (.ref p_Crumb_host)))
    (opb_Crumb_host : PySem.W.specialIn K (.ref p_Crumb_host) "__get__" = some (some (.builtin "property.__get__")))
    (opc_Crumb_host : PySem.W.takesIn K (.ref p_Crumb_host) = some true)
    (opd_Crumb_host : PySem.W.recIn K p_Crumb_host "property" = some (.ref f43 :: pr_Crumb_host))
    {pr_Crumb_is_exact : List Value}
    (opa_Crumb_is_exact : PySem.W.findIn K (.ref C_Crumb) "is_exact" = some (some (.ref p_Crumb_is_exact)))
    (opb_Crumb_is_exact : PySem.W.specialIn K (.ref p_Crumb_is_exact) "__get__" = some (some (.builtin "property.__get__")))
    (opc_Crumb_is_exact : PySem.W.takesIn K (.ref p_Crumb_is_exact) = some true)
    (opd_Crumb_is_exact : PySem.W.recIn K p_Crumb_is_exact "property" = some (.ref f44 :: pr_Crumb_is_exact))
    {pr_Crumb_path : List Value}
    (opa_Crumb_path : PySem.W.findIn K (.ref C_Crumb) "path" = some (some (.ref p_Crumb_path)))
    (opb_Crumb_path : PySem.W.specialIn K (.ref p_Crumb_path) "__get__" = some (some (.builtin "property.__get__")))
    (opc_Crumb_path : PySem.W.takesIn K (.ref p_Crumb_path) = some true)
    (opd_Crumb_path : PySem.W.recIn K p_Crumb_path "property" = some (.ref f45 :: pr_Crumb_path))
    {pr_Crumb_name : List Value}
    (opa_Crumb_name : PySem.W.findIn K (.ref C_Crumb) "name" = some (some (.ref p_Crumb_name)))
    (opb_Crumb_name : PySem.W.specialIn K (.ref p_Crumb_name) "__get__" = some (some (.builtin "property.__get__")))
    (opc_Crumb_name : PySem.W.takesIn K (.ref p_Crumb_name) = some true)
    (opd_Crumb_name : PySem.W.recIn K p_Crumb_name "property" = some (.ref f42 :: pr_Crumb_name))
    {pr_Crumb_ends : List Value}
    (opa_Crumb_ends : PySem.W.findIn K (.ref C_Crumb) "ends" = some (some (.ref p_Crumb_ends)))
    (opb_Crumb_ends : PySem.W.specialIn K (.ref p_Crumb_ends) "__get__" = some (some (.builtin "property.__get__")))
    (opc_Crumb_ends : PySem.W.takesIn K (.ref p_Crumb_ends) = some true)
    (opd_Crumb_ends : PySem.W.recIn K p_Crumb_ends "property" = some (.ref f50 :: pr_Crumb_ends))
    {pr_Crumb_priority : List Value}
    (opa_Crumb_priority : PySem.W.findIn K (.ref C_Crumb) "priority" = some (some (.ref p_Crumb_priority)))
    (opb_Crumb_priority : PySem.W.specialIn K (.ref p_Crumb_priority) "__get__" = some (some (.builtin "property.__get__")))
    (opc_Crumb_priority : PySem.W.takesIn K (.ref p_Crumb_priority) = some true)
    (opd_Crumb_priority : PySem.W.recIn K p_Crumb_priority "property" = some (.ref f47 :: pr_Crumb_priority))
    {pr_Crumb_is_secure : List Value}
    (opa_Crumb_is_secure : PySem.W.findIn K (.ref C_Crumb) "is_secure" = some (some (.ref p_Crumb_is_secure)))
    (opb_Crumb_is_secure : PySem.W.specialIn K (.ref p_Crumb_is_secure) "__get__" = some (some (.builtin "property.__get__")))
    (opc_Crumb_is_secure : PySem.W.takesIn K (.ref p_Crumb_is_secure) = some true)
    (opd_Crumb_is_secure : PySem.W.recIn K p_Crumb_is_secure "property" = some (.ref f46 :: pr_Crumb_is_secure))
    {pr_Crumb_seen : List Value}
    (opa_Crumb_seen : PySem.W.findIn K (.ref C_Crumb) "seen" = some (some (.ref p_Crumb_seen)))
    (opb_Crumb_seen : PySem.W.specialIn K (.ref p_Crumb_seen) "__get__" = some (some (.builtin "property.__get__")))
    (opc_Crumb_seen : PySem.W.takesIn K (.ref p_Crumb_seen) = some true)
    (opd_Crumb_seen : PySem.W.recIn K p_Crumb_seen "property" = some (.ref f49 :: pr_Crumb_seen))
    {pr_Crumb_key : List Value}
    (opa_Crumb_key : PySem.W.findIn K (.ref C_Crumb) "key" = some (some (.ref p_Crumb_key)))
    (opb_Crumb_key : PySem.W.specialIn K (.ref p_Crumb_key) "__get__" = some (some (.builtin "property.__get__")))
    (opc_Crumb_key : PySem.W.takesIn K (.ref p_Crumb_key) = some true)
    (opd_Crumb_key : PySem.W.recIn K p_Crumb_key "property" = some (.ref f51 :: pr_Crumb_key))
    (oz_Line_Crumb : PySem.W.subIn K (.ref C_Line) (.ref C_Crumb) = some false)
    (ozn_Line_Crumb : (C_Line == C_Crumb) = false)
    (oz_Crumb_Line : PySem.W.subIn K (.ref C_Crumb) (.ref C_Line) = some false)
    (ozn_Crumb_Line : (C_Crumb == C_Line) = false)
    {f0 : Addr} {od0 an0 : Option Addr} {sl0 : Array (Option Value)} {oc0 kV0 dc0 pm0 cd0 ct0 : Value}
    (a0 : PySem.W.nsIn K mainGlobals "is_integer" = some (some (.ref f0))) (l0 : K.lookup f0 = some ⟨oc0, od0, .func (PySem.W.fnOf "is_integer" "is_integer" (defArgs S_is_integer) (defBody S_is_integer) (defScope S_is_integer) .none kV0 dc0 pm0 an0 cd0 ct0), sl0⟩) (c0 : PySem.W.codeIn K cd0 "is_integer" = true) (k0 : PySem.W.keepIn K (.ref f0) = true)
    {f1 : Addr} {od1 an1 : Option Addr} {sl1 : Array (Option Value)} {oc1 kV1 dc1 pm1 cd1 ct1 : Value}
    (a1 : PySem.W.nsIn K mainGlobals "is_tick" = some (some (.ref f1))) (l1 : K.lookup f1 = some ⟨oc1, od1, .func (PySem.W.fnOf "is_tick" "is_tick" (defArgs S_is_tick) (defBody S_is_tick) (defScope S_is_tick) .none kV1 dc1 pm1 an1 cd1 ct1), sl1⟩) (c1 : PySem.W.codeIn K cd1 "is_tick" = true) (k1 : PySem.W.keepIn K (.ref f1) = true)
    {f2 : Addr} {od2 an2 : Option Addr} {sl2 : Array (Option Value)} {oc2 kV2 dc2 pm2 cd2 ct2 : Value}
    (a2 : PySem.W.nsIn K mainGlobals "need_tick" = some (some (.ref f2))) (l2 : K.lookup f2 = some ⟨oc2, od2, .func (PySem.W.fnOf "need_tick" "need_tick" (defArgs S_need_tick) (defBody S_need_tick) (defScope S_need_tick) .none kV2 dc2 pm2 an2 cd2 ct2), sl2⟩) (c2 : PySem.W.codeIn K cd2 "need_tick" = true) (k2 : PySem.W.keepIn K (.ref f2) = true)
    {f3 : Addr} {od3 an3 : Option Addr} {sl3 : Array (Option Value)} {oc3 kV3 dc3 pm3 cd3 ct3 : Value}
    (a3 : PySem.W.nsIn K mainGlobals "small_text" = some (some (.ref f3))) (l3 : K.lookup f3 = some ⟨oc3, od3, .func (PySem.W.fnOf "small_text" "small_text" (defArgs S_small_text) (defBody S_small_text) (defScope S_small_text) .none kV3 dc3 pm3 an3 cd3 ct3), sl3⟩) (c3 : PySem.W.codeIn K cd3 "small_text" = true) (k3 : PySem.W.keepIn K (.ref f3) = true)
    {f4 : Addr} {od4 an4 : Option Addr} {sl4 : Array (Option Value)} {oc4 kV4 dc4 pm4 cd4 ct4 : Value}
    (a4 : PySem.W.nsIn K mainGlobals "s1_is_number_word" = some (some (.ref f4))) (l4 : K.lookup f4 = some ⟨oc4, od4, .func (PySem.W.fnOf "s1_is_number_word" "s1_is_number_word" (defArgs S_s1_is_number_word) (defBody S_s1_is_number_word) (defScope S_s1_is_number_word) .none kV4 dc4 pm4 an4 cd4 ct4), sl4⟩) (c4 : PySem.W.codeIn K cd4 "s1_is_number_word" = true) (k4 : PySem.W.keepIn K (.ref f4) = true)
    {f5 : Addr} {od5 an5 : Option Addr} {sl5 : Array (Option Value)} {oc5 kV5 dc5 pm5 cd5 ct5 : Value}
    (a5 : PySem.W.nsIn K mainGlobals "s1_is_small" = some (some (.ref f5))) (l5 : K.lookup f5 = some ⟨oc5, od5, .func (PySem.W.fnOf "s1_is_small" "s1_is_small" (defArgs S_s1_is_small) (defBody S_s1_is_small) (defScope S_s1_is_small) .none kV5 dc5 pm5 an5 cd5 ct5), sl5⟩) (c5 : PySem.W.codeIn K cd5 "s1_is_small" = true) (k5 : PySem.W.keepIn K (.ref f5) = true)
    {f6 : Addr} {od6 an6 : Option Addr} {sl6 : Array (Option Value)} {oc6 kV6 dc6 pm6 cd6 ct6 : Value}
    (a6 : PySem.W.nsIn K mainGlobals "s1_is_label" = some (some (.ref f6))) (l6 : K.lookup f6 = some ⟨oc6, od6, .func (PySem.W.fnOf "s1_is_label" "s1_is_label" (defArgs S_s1_is_label) (defBody S_s1_is_label) (defScope S_s1_is_label) .none kV6 dc6 pm6 an6 cd6 ct6), sl6⟩) (c6 : PySem.W.codeIn K cd6 "s1_is_label" = true) (k6 : PySem.W.keepIn K (.ref f6) = true)
    {f7 : Addr} {od7 an7 : Option Addr} {sl7 : Array (Option Value)} {oc7 kV7 dc7 pm7 cd7 ct7 : Value}
    (a7 : PySem.W.nsIn K mainGlobals "is_address_host" = some (some (.ref f7))) (l7 : K.lookup f7 = some ⟨oc7, od7, .func (PySem.W.fnOf "is_address_host" "is_address_host" (defArgs S_is_address_host) (defBody S_is_address_host) (defScope S_is_address_host) .none kV7 dc7 pm7 an7 cd7 ct7), sl7⟩) (c7 : PySem.W.codeIn K cd7 "is_address_host" = true) (k7 : PySem.W.keepIn K (.ref f7) = true)
    {f8 : Addr} {od8 an8 : Option Addr} {sl8 : Array (Option Value)} {oc8 kV8 dc8 pm8 cd8 ct8 : Value}
    (a8 : PySem.W.nsIn K mainGlobals "is_host" = some (some (.ref f8))) (l8 : K.lookup f8 = some ⟨oc8, od8, .func (PySem.W.fnOf "is_host" "is_host" (defArgs S_is_host) (defBody S_is_host) (defScope S_is_host) .none kV8 dc8 pm8 an8 cd8 ct8), sl8⟩) (c8 : PySem.W.codeIn K cd8 "is_host" = true) (k8 : PySem.W.keepIn K (.ref f8) = true)
    {f9 : Addr} {od9 an9 : Option Addr} {sl9 : Array (Option Value)} {oc9 kV9 dc9 pm9 cd9 ct9 : Value}
    (a9 : PySem.W.nsIn K mainGlobals "s1_may_become_address" = some (some (.ref f9))) (l9 : K.lookup f9 = some ⟨oc9, od9, .func (PySem.W.fnOf "s1_may_become_address" "s1_may_become_address" (defArgs S_s1_may_become_address) (defBody S_s1_may_become_address) (defScope S_s1_may_become_address) .none kV9 dc9 pm9 an9 cd9 ct9), sl9⟩) (c9 : PySem.W.codeIn K cd9 "s1_may_become_address" = true) (k9 : PySem.W.keepIn K (.ref f9) = true)
    {f10 : Addr} {od10 an10 : Option Addr} {sl10 : Array (Option Value)} {oc10 kV10 dc10 pm10 cd10 ct10 : Value}
    (a10 : PySem.W.nsIn K mainGlobals "s1_begins" = some (some (.ref f10))) (l10 : K.lookup f10 = some ⟨oc10, od10, .func (PySem.W.fnOf "s1_begins" "s1_begins" (defArgs S_s1_begins) (defBody S_s1_begins) (defScope S_s1_begins) .none kV10 dc10 pm10 an10 cd10 ct10), sl10⟩) (c10 : PySem.W.codeIn K cd10 "s1_begins" = true) (k10 : PySem.W.keepIn K (.ref f10) = true)
    {f11 : Addr} {od11 an11 : Option Addr} {sl11 : Array (Option Value)} {oc11 kV11 dc11 pm11 cd11 ct11 : Value}
    (a11 : PySem.W.nsIn K mainGlobals "s1_place" = some (some (.ref f11))) (l11 : K.lookup f11 = some ⟨oc11, od11, .func (PySem.W.fnOf "s1_place" "s1_place" (defArgs S_s1_place) (defBody S_s1_place) (defScope S_s1_place) .none kV11 dc11 pm11 an11 cd11 ct11), sl11⟩) (c11 : PySem.W.codeIn K cd11 "s1_place" = true) (k11 : PySem.W.keepIn K (.ref f11) = true)
    {f12 : Addr} {od12 an12 : Option Addr} {sl12 : Array (Option Value)} {oc12 kV12 dc12 pm12 cd12 ct12 : Value}
    (a12 : PySem.W.nsIn K mainGlobals "need_host" = some (some (.ref f12))) (l12 : K.lookup f12 = some ⟨oc12, od12, .func (PySem.W.fnOf "need_host" "need_host" (defArgs S_need_host) (defBody S_need_host) (defScope S_need_host) .none kV12 dc12 pm12 an12 cd12 ct12), sl12⟩) (c12 : PySem.W.codeIn K cd12 "need_host" = true) (k12 : PySem.W.keepIn K (.ref f12) = true)
    {f13 : Addr} {od13 an13 : Option Addr} {sl13 : Array (Option Value)} {oc13 kV13 dc13 pm13 cd13 ct13 : Value}
    (a13 : PySem.W.nsIn K mainGlobals "s1_fits" = some (some (.ref f13))) (l13 : K.lookup f13 = some ⟨oc13, od13, .func (PySem.W.fnOf "s1_fits" "s1_fits" (defArgs S_s1_fits) (defBody S_s1_fits) (defScope S_s1_fits) .none kV13 dc13 pm13 an13 cd13 ct13), sl13⟩) (c13 : PySem.W.codeIn K cd13 "s1_fits" = true) (k13 : PySem.W.keepIn K (.ref f13) = true)
    {f14 : Addr} {od14 an14 : Option Addr} {sl14 : Array (Option Value)} {oc14 kV14 dc14 pm14 cd14 ct14 : Value}
    (a14 : PySem.W.nsIn K mainGlobals "s1_is_path_sign" = some (some (.ref f14))) (l14 : K.lookup f14 = some ⟨oc14, od14, .func (PySem.W.fnOf "s1_is_path_sign" "s1_is_path_sign" (defArgs S_s1_is_path_sign) (defBody S_s1_is_path_sign) (defScope S_s1_is_path_sign) .none kV14 dc14 pm14 an14 cd14 ct14), sl14⟩) (c14 : PySem.W.codeIn K cd14 "s1_is_path_sign" = true) (k14 : PySem.W.keepIn K (.ref f14) = true)
    {f15 : Addr} {od15 an15 : Option Addr} {sl15 : Array (Option Value)} {oc15 kV15 dc15 pm15 cd15 ct15 : Value}
    (a15 : PySem.W.nsIn K mainGlobals "is_path" = some (some (.ref f15))) (l15 : K.lookup f15 = some ⟨oc15, od15, .func (PySem.W.fnOf "is_path" "is_path" (defArgs S_is_path) (defBody S_is_path) (defScope S_is_path) .none kV15 dc15 pm15 an15 cd15 ct15), sl15⟩) (c15 : PySem.W.codeIn K cd15 "is_path" = true) (k15 : PySem.W.keepIn K (.ref f15) = true)
    {f16 : Addr} {od16 an16 : Option Addr} {sl16 : Array (Option Value)} {oc16 kV16 dc16 pm16 cd16 ct16 : Value}
    (a16 : PySem.W.nsIn K mainGlobals "is_origin" = some (some (.ref f16))) (l16 : K.lookup f16 = some ⟨oc16, od16, .func (PySem.W.fnOf "is_origin" "is_origin" (defArgs S_is_origin) (defBody S_is_origin) (defScope S_is_origin) .none kV16 dc16 pm16 an16 cd16 ct16), sl16⟩) (c16 : PySem.W.codeIn K cd16 "is_origin" = true) (k16 : PySem.W.keepIn K (.ref f16) = true)
    {f17 : Addr} {od17 an17 : Option Addr} {sl17 : Array (Option Value)} {oc17 kV17 dc17 pm17 cd17 ct17 : Value}
    (a17 : PySem.W.nsIn K mainGlobals "s1_is_safe" = some (some (.ref f17))) (l17 : K.lookup f17 = some ⟨oc17, od17, .func (PySem.W.fnOf "s1_is_safe" "s1_is_safe" (defArgs S_s1_is_safe) (defBody S_s1_is_safe) (defScope S_s1_is_safe) .none kV17 dc17 pm17 an17 cd17 ct17), sl17⟩) (c17 : PySem.W.codeIn K cd17 "s1_is_safe" = true) (k17 : PySem.W.keepIn K (.ref f17) = true)
    {f18 : Addr} {od18 an18 : Option Addr} {sl18 : Array (Option Value)} {oc18 kV18 dc18 pm18 cd18 ct18 : Value}
    (a18 : PySem.W.nsIn K mainGlobals "s2_has_control" = some (some (.ref f18))) (l18 : K.lookup f18 = some ⟨oc18, od18, .func (PySem.W.fnOf "s2_has_control" "s2_has_control" (defArgs S_s2_has_control) (defBody S_s2_has_control) (defScope S_s2_has_control) .none kV18 dc18 pm18 an18 cd18 ct18), sl18⟩) (c18 : PySem.W.codeIn K cd18 "s2_has_control" = true) (k18 : PySem.W.keepIn K (.ref f18) = true)
    {f19 : Addr} {od19 an19 : Option Addr} {sl19 : Array (Option Value)} {oc19 kV19 dc19 pm19 cd19 ct19 : Value}
    (a19 : PySem.W.nsIn K mainGlobals "s2_is_kept" = some (some (.ref f19))) (l19 : K.lookup f19 = some ⟨oc19, od19, .func (PySem.W.fnOf "s2_is_kept" "s2_is_kept" (defArgs S_s2_is_kept) (defBody S_s2_is_kept) (defScope S_s2_is_kept) .none kV19 dc19 pm19 an19 cd19 ct19), sl19⟩) (c19 : PySem.W.codeIn K cd19 "s2_is_kept" = true) (k19 : PySem.W.keepIn K (.ref f19) = true)
    {f20 : Addr} {od20 an20 : Option Addr} {sl20 : Array (Option Value)} {oc20 kV20 dc20 pm20 cd20 ct20 : Value}
    (a20 : PySem.W.nsIn K mainGlobals "s2_is_value" = some (some (.ref f20))) (l20 : K.lookup f20 = some ⟨oc20, od20, .func (PySem.W.fnOf "s2_is_value" "s2_is_value" (defArgs S_s2_is_value) (defBody S_s2_is_value) (defScope S_s2_is_value) .none kV20 dc20 pm20 an20 cd20 ct20), sl20⟩) (c20 : PySem.W.codeIn K cd20 "s2_is_value" = true) (k20 : PySem.W.keepIn K (.ref f20) = true)
    {f21 : Addr} {od21 an21 : Option Addr} {sl21 : Array (Option Value)} {oc21 kV21 dc21 pm21 cd21 ct21 : Value}
    (a21 : PySem.W.nsIn K mainGlobals "s2_is_age" = some (some (.ref f21))) (l21 : K.lookup f21 = some ⟨oc21, od21, .func (PySem.W.fnOf "s2_is_age" "s2_is_age" (defArgs S_s2_is_age) (defBody S_s2_is_age) (defScope S_s2_is_age) .none kV21 dc21 pm21 an21 cd21 ct21), sl21⟩) (c21 : PySem.W.codeIn K cd21 "s2_is_age" = true) (k21 : PySem.W.keepIn K (.ref f21) = true)
    {f22 : Addr} {od22 an22 : Option Addr} {sl22 : Array (Option Value)} {oc22 kV22 dc22 pm22 cd22 ct22 : Value}
    (a22 : PySem.W.nsIn K mainGlobals "s2_is_same" = some (some (.ref f22))) (l22 : K.lookup f22 = some ⟨oc22, od22, .func (PySem.W.fnOf "s2_is_same" "s2_is_same" (defArgs S_s2_is_same) (defBody S_s2_is_same) (defScope S_s2_is_same) .none kV22 dc22 pm22 an22 cd22 ct22), sl22⟩) (c22 : PySem.W.codeIn K cd22 "s2_is_same" = true) (k22 : PySem.W.keepIn K (.ref f22) = true)
    {f23 : Addr} {od23 an23 : Option Addr} {sl23 : Array (Option Value)} {oc23 kV23 dc23 pm23 cd23 ct23 : Value}
    (a23 : PySem.W.nsIn K mainGlobals "s2_is_priority" = some (some (.ref f23))) (l23 : K.lookup f23 = some ⟨oc23, od23, .func (PySem.W.fnOf "s2_is_priority" "s2_is_priority" (defArgs S_s2_is_priority) (defBody S_s2_is_priority) (defScope S_s2_is_priority) .none kV23 dc23 pm23 an23 cd23 ct23), sl23⟩) (c23 : PySem.W.codeIn K cd23 "s2_is_priority" = true) (k23 : PySem.W.keepIn K (.ref f23) = true)
    {f24 : Addr} {od24 an24 : Option Addr} {sl24 : Array (Option Value)} {oc24 kV24 dc24 pm24 cd24 ct24 : Value}
    (a24 : PySem.W.nsIn K mainGlobals "s2_need" = some (some (.ref f24))) (l24 : K.lookup f24 = some ⟨oc24, od24, .func (PySem.W.fnOf "s2_need" "s2_need" (defArgs S_s2_need) (defBody S_s2_need) (defScope S_s2_need) .none kV24 dc24 pm24 an24 cd24 ct24), sl24⟩) (c24 : PySem.W.codeIn K cd24 "s2_need" = true) (k24 : PySem.W.keepIn K (.ref f24) = true)
    {od25 an25 : Option Addr} {sl25 : Array (Option Value)} {oc25 dc25 pm25 cd25 ct25 : Value} {kd25 : Addr}
    (l25 : K.lookup f25 = some ⟨oc25, od25, .func (PySem.W.fnOf "__init__" "Line.__init__" (defArgs S_Line_init) (defBody S_Line_init) (defScope S_Line_init) .none (.ref kd25) dc25 pm25 an25 cd25 ct25), sl25⟩) (c25 : PySem.W.codeIn K cd25 "Line.__init__" = true) (k25 : PySem.W.keepIn K (.ref f25) = true)
    (kw25_expires : PySem.W.nsIn K kd25 "expires" = some (some (.none)))
    (kw25_age : PySem.W.nsIn K kd25 "age" = some (some (.none)))
    (kw25_domain : PySem.W.nsIn K kd25 "domain" = some (some (.none)))
    (kw25_path : PySem.W.nsIn K kd25 "path" = some (some (.none)))
    (kw25_is_secure : PySem.W.nsIn K kd25 "is_secure" = some (some (.bool false)))
    (kw25_is_hidden : PySem.W.nsIn K kd25 "is_hidden" = some (some (.bool false)))
    (kw25_same : PySem.W.nsIn K kd25 "same" = some (some (.none)))
    (kw25_is_partitioned : PySem.W.nsIn K kd25 "is_partitioned" = some (some (.bool false)))
    (kw25_priority : PySem.W.nsIn K kd25 "priority" = some (some (.none)))
    {f26 : Addr} {od26 an26 : Option Addr} {sl26 : Array (Option Value)} {oc26 kV26 dc26 pm26 cd26 ct26 : Value}
    (a26 : PySem.W.nsIn K mainGlobals "s1_is_rule" = some (some (.ref f26))) (l26 : K.lookup f26 = some ⟨oc26, od26, .func (PySem.W.fnOf "s1_is_rule" "s1_is_rule" (defArgs S_s1_is_rule) (defBody S_s1_is_rule) (defScope S_s1_is_rule) .none kV26 dc26 pm26 an26 cd26 ct26), sl26⟩) (c26 : PySem.W.codeIn K cd26 "s1_is_rule" = true) (k26 : PySem.W.keepIn K (.ref f26) = true)
    {f27 : Addr} {od27 an27 : Option Addr} {sl27 : Array (Option Value)} {oc27 kV27 dc27 pm27 cd27 ct27 : Value}
    (a27 : PySem.W.nsIn K mainGlobals "need_rules" = some (some (.ref f27))) (l27 : K.lookup f27 = some ⟨oc27, od27, .func (PySem.W.fnOf "need_rules" "need_rules" (defArgs S_need_rules) (defBody S_need_rules) (defScope S_need_rules) .none kV27 dc27 pm27 an27 cd27 ct27), sl27⟩) (c27 : PySem.W.codeIn K cd27 "need_rules" = true) (k27 : PySem.W.keepIn K (.ref f27) = true)
    {f28 : Addr} {od28 an28 : Option Addr} {sl28 : Array (Option Value)} {oc28 kV28 dc28 pm28 cd28 ct28 : Value}
    (a28 : PySem.W.nsIn K mainGlobals "s1_matching" = some (some (.ref f28))) (l28 : K.lookup f28 = some ⟨oc28, od28, .func (PySem.W.fnOf "s1_matching" "s1_matching" (defArgs S_s1_matching) (defBody S_s1_matching) (defScope S_s1_matching) .none kV28 dc28 pm28 an28 cd28 ct28), sl28⟩) (c28 : PySem.W.codeIn K cd28 "s1_matching" = true) (k28 : PySem.W.keepIn K (.ref f28) = true)
    {f29 : Addr} {od29 an29 : Option Addr} {sl29 : Array (Option Value)} {oc29 kV29 dc29 pm29 cd29 ct29 : Value}
    (a29 : PySem.W.nsIn K mainGlobals "s1_suffix" = some (some (.ref f29))) (l29 : K.lookup f29 = some ⟨oc29, od29, .func (PySem.W.fnOf "s1_suffix" "s1_suffix" (defArgs S_s1_suffix) (defBody S_s1_suffix) (defScope S_s1_suffix) .none kV29 dc29 pm29 an29 cd29 ct29), sl29⟩) (c29 : PySem.W.codeIn K cd29 "s1_suffix" = true) (k29 : PySem.W.keepIn K (.ref f29) = true)
    {f30 : Addr} {od30 an30 : Option Addr} {sl30 : Array (Option Value)} {oc30 kV30 dc30 pm30 cd30 ct30 : Value}
    (a30 : PySem.W.nsIn K mainGlobals "s1_family" = some (some (.ref f30))) (l30 : K.lookup f30 = some ⟨oc30, od30, .func (PySem.W.fnOf "s1_family" "s1_family" (defArgs S_s1_family) (defBody S_s1_family) (defScope S_s1_family) .none kV30 dc30 pm30 an30 cd30 ct30), sl30⟩) (c30 : PySem.W.codeIn K cd30 "s1_family" = true) (k30 : PySem.W.keepIn K (.ref f30) = true)
    {f31 : Addr} {od31 an31 : Option Addr} {sl31 : Array (Option Value)} {oc31 kV31 dc31 pm31 cd31 ct31 : Value}
    (a31 : PySem.W.nsIn K mainGlobals "need_both" = some (some (.ref f31))) (l31 : K.lookup f31 = some ⟨oc31, od31, .func (PySem.W.fnOf "need_both" "need_both" (defArgs S_need_both) (defBody S_need_both) (defScope S_need_both) .none kV31 dc31 pm31 an31 cd31 ct31), sl31⟩) (c31 : PySem.W.codeIn K cd31 "need_both" = true) (k31 : PySem.W.keepIn K (.ref f31) = true)
    {f32 : Addr} {od32 an32 : Option Addr} {sl32 : Array (Option Value)} {oc32 kV32 dc32 pm32 cd32 ct32 : Value}
    (a32 : PySem.W.nsIn K mainGlobals "family_of" = some (some (.ref f32))) (l32 : K.lookup f32 = some ⟨oc32, od32, .func (PySem.W.fnOf "family_of" "family_of" (defArgs S_family_of) (defBody S_family_of) (defScope S_family_of) .none kV32 dc32 pm32 an32 cd32 ct32), sl32⟩) (c32 : PySem.W.codeIn K cd32 "family_of" = true) (k32 : PySem.W.keepIn K (.ref f32) = true)
    {f33 : Addr} {od33 an33 : Option Addr} {sl33 : Array (Option Value)} {oc33 kV33 dc33 pm33 cd33 ct33 : Value}
    (a33 : PySem.W.nsIn K mainGlobals "s3_prefix" = some (some (.ref f33))) (l33 : K.lookup f33 = some ⟨oc33, od33, .func (PySem.W.fnOf "s3_prefix" "s3_prefix" (defArgs S_s3_prefix) (defBody S_s3_prefix) (defScope S_s3_prefix) .none kV33 dc33 pm33 an33 cd33 ct33), sl33⟩) (c33 : PySem.W.codeIn K cd33 "s3_prefix" = true) (k33 : PySem.W.keepIn K (.ref f33) = true)
    {f34 : Addr} {od34 an34 : Option Addr} {sl34 : Array (Option Value)} {oc34 kV34 dc34 pm34 cd34 ct34 : Value}
    (a34 : PySem.W.nsIn K mainGlobals "s3_wrong_text" = some (some (.ref f34))) (l34 : K.lookup f34 = some ⟨oc34, od34, .func (PySem.W.fnOf "s3_wrong_text" "s3_wrong_text" (defArgs S_s3_wrong_text) (defBody S_s3_wrong_text) (defScope S_s3_wrong_text) .none kV34 dc34 pm34 an34 cd34 ct34), sl34⟩) (c34 : PySem.W.codeIn K cd34 "s3_wrong_text" = true) (k34 : PySem.W.keepIn K (.ref f34) = true)
    {f35 : Addr} {od35 an35 : Option Addr} {sl35 : Array (Option Value)} {oc35 kV35 dc35 pm35 cd35 ct35 : Value}
    (a35 : PySem.W.nsIn K mainGlobals "s3_is_born" = some (some (.ref f35))) (l35 : K.lookup f35 = some ⟨oc35, od35, .func (PySem.W.fnOf "s3_is_born" "s3_is_born" (defArgs S_s3_is_born) (defBody S_s3_is_born) (defScope S_s3_is_born) .none kV35 dc35 pm35 an35 cd35 ct35), sl35⟩) (c35 : PySem.W.codeIn K cd35 "s3_is_born" = true) (k35 : PySem.W.keepIn K (.ref f35) = true)
    {f36 : Addr} {od36 an36 : Option Addr} {sl36 : Array (Option Value)} {oc36 kV36 dc36 pm36 cd36 ct36 : Value}
    (a36 : PySem.W.nsIn K mainGlobals "s3_is_space" = some (some (.ref f36))) (l36 : K.lookup f36 = some ⟨oc36, od36, .func (PySem.W.fnOf "s3_is_space" "s3_is_space" (defArgs S_s3_is_space) (defBody S_s3_is_space) (defScope S_s3_is_space) .none kV36 dc36 pm36 an36 cd36 ct36), sl36⟩) (c36 : PySem.W.codeIn K cd36 "s3_is_space" = true) (k36 : PySem.W.keepIn K (.ref f36) = true)
    {f37 : Addr} {od37 an37 : Option Addr} {sl37 : Array (Option Value)} {oc37 kV37 dc37 pm37 cd37 ct37 : Value}
    (a37 : PySem.W.nsIn K mainGlobals "s3_can_live" = some (some (.ref f37))) (l37 : K.lookup f37 = some ⟨oc37, od37, .func (PySem.W.fnOf "s3_can_live" "s3_can_live" (defArgs S_s3_can_live) (defBody S_s3_can_live) (defScope S_s3_can_live) .none kV37 dc37 pm37 an37 cd37 ct37), sl37⟩) (c37 : PySem.W.codeIn K cd37 "s3_can_live" = true) (k37 : PySem.W.keepIn K (.ref f37) = true)
    {f38 : Addr} {od38 an38 : Option Addr} {sl38 : Array (Option Value)} {oc38 kV38 dc38 pm38 cd38 ct38 : Value}
    (a38 : PySem.W.nsIn K mainGlobals "s3_wrong_place" = some (some (.ref f38))) (l38 : K.lookup f38 = some ⟨oc38, od38, .func (PySem.W.fnOf "s3_wrong_place" "s3_wrong_place" (defArgs S_s3_wrong_place) (defBody S_s3_wrong_place) (defScope S_s3_wrong_place) .none kV38 dc38 pm38 an38 cd38 ct38), sl38⟩) (c38 : PySem.W.codeIn K cd38 "s3_wrong_place" = true) (k38 : PySem.W.keepIn K (.ref f38) = true)
    {f39 : Addr} {od39 an39 : Option Addr} {sl39 : Array (Option Value)} {oc39 kV39 dc39 pm39 cd39 ct39 : Value}
    (a39 : PySem.W.nsIn K mainGlobals "s3_wrong_time" = some (some (.ref f39))) (l39 : K.lookup f39 = some ⟨oc39, od39, .func (PySem.W.fnOf "s3_wrong_time" "s3_wrong_time" (defArgs S_s3_wrong_time) (defBody S_s3_wrong_time) (defScope S_s3_wrong_time) .none kV39 dc39 pm39 an39 cd39 ct39), sl39⟩) (c39 : PySem.W.codeIn K cd39 "s3_wrong_time" = true) (k39 : PySem.W.keepIn K (.ref f39) = true)
    {f40 : Addr} {od40 an40 : Option Addr} {sl40 : Array (Option Value)} {oc40 kV40 dc40 pm40 cd40 ct40 : Value}
    (a40 : PySem.W.nsIn K mainGlobals "s3_wrong_field" = some (some (.ref f40))) (l40 : K.lookup f40 = some ⟨oc40, od40, .func (PySem.W.fnOf "s3_wrong_field" "s3_wrong_field" (defArgs S_s3_wrong_field) (defBody S_s3_wrong_field) (defScope S_s3_wrong_field) .none kV40 dc40 pm40 an40 cd40 ct40), sl40⟩) (c40 : PySem.W.codeIn K cd40 "s3_wrong_field" = true) (k40 : PySem.W.keepIn K (.ref f40) = true)
    {od41 an41 : Option Addr} {sl41 : Array (Option Value)} {oc41 dc41 pm41 cd41 ct41 : Value} {kd41 : Addr}
    (l41 : K.lookup f41 = some ⟨oc41, od41, .func (PySem.W.fnOf "__init__" "Crumb.__init__" (defArgs S_Crumb_init) (defBody S_Crumb_init) (defScope S_Crumb_init) .none (.ref kd41) dc41 pm41 an41 cd41 ct41), sl41⟩) (c41 : PySem.W.codeIn K cd41 "Crumb.__init__" = true) (k41 : PySem.W.keepIn K (.ref f41) = true)
    (kw41_is_exact : PySem.W.nsIn K kd41 "is_exact" = some (some (.bool true)))
    {kt41_path : Tok}
    (kw41_path : PySem.W.nsIn K kd41 "path" = some (some (.str "/" kt41_path)))
    (kw41_is_secure : PySem.W.nsIn K kd41 "is_secure" = some (some (.bool false)))
    (kw41_is_hidden : PySem.W.nsIn K kd41 "is_hidden" = some (some (.bool false)))
    {kt41_same : Tok}
    (kw41_same : PySem.W.nsIn K kd41 "same" = some (some (.str "default" kt41_same)))
    {kt41_priority : Tok}
    (kw41_priority : PySem.W.nsIn K kd41 "priority" = some (some (.int (1) kt41_priority)))
    (kw41_space : PySem.W.nsIn K kd41 "space" = some (some (.none)))
    {kq41_born_0 : Tok} {kq41_born_1 : Tok}
    {ka41_born : Addr} {kn41_born : Nat} {kl41_born : Array (Option Value)}
    (kw41_born : PySem.W.nsIn K kd41 "born" = some (some (.ref ka41_born)))
    (ke41_born : K.lookup ka41_born = some ⟨.type "tuple", none, .seq #[.int (0) kq41_born_0, .int (0) kq41_born_1] kn41_born, kl41_born⟩)
    {kt41_seen : Tok}
    (kw41_seen : PySem.W.nsIn K kd41 "seen" = some (some (.int (0) kt41_seen)))
    (kw41_ends : PySem.W.nsIn K kd41 "ends" = some (some (.none)))
    {od42 an42 : Option Addr} {sl42 : Array (Option Value)} {oc42 dc42 pm42 cd42 ct42 : Value} {kV42 : Value}
    (l42 : K.lookup f42 = some ⟨oc42, od42, .func (PySem.W.fnOf "name" "Crumb.name" (defArgs S_Crumb_name) (defBody S_Crumb_name) (defScope S_Crumb_name) .none kV42 dc42 pm42 an42 cd42 ct42), sl42⟩) (c42 : PySem.W.codeIn K cd42 "Crumb.name" = true) (k42 : PySem.W.keepIn K (.ref f42) = true)
    {od43 an43 : Option Addr} {sl43 : Array (Option Value)} {oc43 dc43 pm43 cd43 ct43 : Value} {kV43 : Value}
    (l43 : K.lookup f43 = some ⟨oc43, od43, .func (PySem.W.fnOf "host" "Crumb.host" (defArgs S_Crumb_host) (defBody S_Crumb_host) (defScope S_Crumb_host) .none kV43 dc43 pm43 an43 cd43 ct43), sl43⟩) (c43 : PySem.W.codeIn K cd43 "Crumb.host" = true) (k43 : PySem.W.keepIn K (.ref f43) = true)
    {od44 an44 : Option Addr} {sl44 : Array (Option Value)} {oc44 dc44 pm44 cd44 ct44 : Value} {kV44 : Value}
    (l44 : K.lookup f44 = some ⟨oc44, od44, .func (PySem.W.fnOf "is_exact" "Crumb.is_exact" (defArgs S_Crumb_is_exact) (defBody S_Crumb_is_exact) (defScope S_Crumb_is_exact) .none kV44 dc44 pm44 an44 cd44 ct44), sl44⟩) (c44 : PySem.W.codeIn K cd44 "Crumb.is_exact" = true) (k44 : PySem.W.keepIn K (.ref f44) = true)
    {od45 an45 : Option Addr} {sl45 : Array (Option Value)} {oc45 dc45 pm45 cd45 ct45 : Value} {kV45 : Value}
    (l45 : K.lookup f45 = some ⟨oc45, od45, .func (PySem.W.fnOf "path" "Crumb.path" (defArgs S_Crumb_path) (defBody S_Crumb_path) (defScope S_Crumb_path) .none kV45 dc45 pm45 an45 cd45 ct45), sl45⟩) (c45 : PySem.W.codeIn K cd45 "Crumb.path" = true) (k45 : PySem.W.keepIn K (.ref f45) = true)
    {od46 an46 : Option Addr} {sl46 : Array (Option Value)} {oc46 dc46 pm46 cd46 ct46 : Value} {kV46 : Value}
    (l46 : K.lookup f46 = some ⟨oc46, od46, .func (PySem.W.fnOf "is_secure" "Crumb.is_secure" (defArgs S_Crumb_is_secure) (defBody S_Crumb_is_secure) (defScope S_Crumb_is_secure) .none kV46 dc46 pm46 an46 cd46 ct46), sl46⟩) (c46 : PySem.W.codeIn K cd46 "Crumb.is_secure" = true) (k46 : PySem.W.keepIn K (.ref f46) = true)
    {od47 an47 : Option Addr} {sl47 : Array (Option Value)} {oc47 dc47 pm47 cd47 ct47 : Value} {kV47 : Value}
    (l47 : K.lookup f47 = some ⟨oc47, od47, .func (PySem.W.fnOf "priority" "Crumb.priority" (defArgs S_Crumb_priority) (defBody S_Crumb_priority) (defScope S_Crumb_priority) .none kV47 dc47 pm47 an47 cd47 ct47), sl47⟩) (c47 : PySem.W.codeIn K cd47 "Crumb.priority" = true) (k47 : PySem.W.keepIn K (.ref f47) = true)
    {od48 an48 : Option Addr} {sl48 : Array (Option Value)} {oc48 dc48 pm48 cd48 ct48 : Value} {kV48 : Value}
    (l48 : K.lookup f48 = some ⟨oc48, od48, .func (PySem.W.fnOf "space" "Crumb.space" (defArgs S_Crumb_space) (defBody S_Crumb_space) (defScope S_Crumb_space) .none kV48 dc48 pm48 an48 cd48 ct48), sl48⟩) (c48 : PySem.W.codeIn K cd48 "Crumb.space" = true) (k48 : PySem.W.keepIn K (.ref f48) = true)
    {od49 an49 : Option Addr} {sl49 : Array (Option Value)} {oc49 dc49 pm49 cd49 ct49 : Value} {kV49 : Value}
    (l49 : K.lookup f49 = some ⟨oc49, od49, .func (PySem.W.fnOf "seen" "Crumb.seen" (defArgs S_Crumb_seen) (defBody S_Crumb_seen) (defScope S_Crumb_seen) .none kV49 dc49 pm49 an49 cd49 ct49), sl49⟩) (c49 : PySem.W.codeIn K cd49 "Crumb.seen" = true) (k49 : PySem.W.keepIn K (.ref f49) = true)
    {od50 an50 : Option Addr} {sl50 : Array (Option Value)} {oc50 dc50 pm50 cd50 ct50 : Value} {kV50 : Value}
    (l50 : K.lookup f50 = some ⟨oc50, od50, .func (PySem.W.fnOf "ends" "Crumb.ends" (defArgs S_Crumb_ends) (defBody S_Crumb_ends) (defScope S_Crumb_ends) .none kV50 dc50 pm50 an50 cd50 ct50), sl50⟩) (c50 : PySem.W.codeIn K cd50 "Crumb.ends" = true) (k50 : PySem.W.keepIn K (.ref f50) = true)
    {od51 an51 : Option Addr} {sl51 : Array (Option Value)} {oc51 dc51 pm51 cd51 ct51 : Value} {kV51 : Value}
    (l51 : K.lookup f51 = some ⟨oc51, od51, .func (PySem.W.fnOf "key" "Crumb.key" (defArgs S_Crumb_key) (defBody S_Crumb_key) (defScope S_Crumb_key) .none kV51 dc51 pm51 an51 cd51 ct51), sl51⟩) (c51 : PySem.W.codeIn K cd51 "Crumb.key" = true) (k51 : PySem.W.keepIn K (.ref f51) = true)
    {f52 : Addr} {od52 an52 : Option Addr} {sl52 : Array (Option Value)} {oc52 kV52 dc52 pm52 cd52 ct52 : Value}
    (a52 : PySem.W.nsIn K mainGlobals "need_crumb" = some (some (.ref f52))) (l52 : K.lookup f52 = some ⟨oc52, od52, .func (PySem.W.fnOf "need_crumb" "need_crumb" (defArgs S_need_crumb) (defBody S_need_crumb) (defScope S_need_crumb) .none kV52 dc52 pm52 an52 cd52 ct52), sl52⟩) (c52 : PySem.W.codeIn K cd52 "need_crumb" = true) (k52 : PySem.W.keepIn K (.ref f52) = true)
    {f53 : Addr} {od53 an53 : Option Addr} {sl53 : Array (Option Value)} {oc53 kV53 dc53 pm53 cd53 ct53 : Value}
    (a53 : PySem.W.nsIn K mainGlobals "s3_has_ended" = some (some (.ref f53))) (l53 : K.lookup f53 = some ⟨oc53, od53, .func (PySem.W.fnOf "s3_has_ended" "s3_has_ended" (defArgs S_s3_has_ended) (defBody S_s3_has_ended) (defScope S_s3_has_ended) .none kV53 dc53 pm53 an53 cd53 ct53), sl53⟩) (c53 : PySem.W.codeIn K cd53 "s3_has_ended" = true) (k53 : PySem.W.keepIn K (.ref f53) = true)
    {f54 : Addr} {od54 an54 : Option Addr} {sl54 : Array (Option Value)} {oc54 kV54 dc54 pm54 cd54 ct54 : Value}
    (a54 : PySem.W.nsIn K mainGlobals "has_ended" = some (some (.ref f54))) (l54 : K.lookup f54 = some ⟨oc54, od54, .func (PySem.W.fnOf "has_ended" "has_ended" (defArgs S_has_ended) (defBody S_has_ended) (defScope S_has_ended) .none kV54 dc54 pm54 an54 cd54 ct54), sl54⟩) (c54 : PySem.W.codeIn K cd54 "has_ended" = true) (k54 : PySem.W.keepIn K (.ref f54) = true)
    {f55 : Addr} {od55 an55 : Option Addr} {sl55 : Array (Option Value)} {oc55 kV55 dc55 pm55 cd55 ct55 : Value}
    (a55 : PySem.W.nsIn K mainGlobals "rank_of" = some (some (.ref f55))) (l55 : K.lookup f55 = some ⟨oc55, od55, .func (PySem.W.fnOf "rank_of" "rank_of" (defArgs S_rank_of) (defBody S_rank_of) (defScope S_rank_of) .none kV55 dc55 pm55 an55 cd55 ct55), sl55⟩) (c55 : PySem.W.codeIn K cd55 "rank_of" = true) (k55 : PySem.W.keepIn K (.ref f55) = true)
    {f56 : Addr} {od56 an56 : Option Addr} {sl56 : Array (Option Value)} {oc56 kV56 dc56 pm56 cd56 ct56 : Value}
    (a56 : PySem.W.nsIn K mainGlobals "group_of" = some (some (.ref f56))) (l56 : K.lookup f56 = some ⟨oc56, od56, .func (PySem.W.fnOf "group_of" "group_of" (defArgs S_group_of) (defBody S_group_of) (defScope S_group_of) .none kV56 dc56 pm56 an56 cd56 ct56), sl56⟩) (c56 : PySem.W.codeIn K cd56 "group_of" = true) (k56 : PySem.W.keepIn K (.ref f56) = true)
    {f57 : Addr} {od57 an57 : Option Addr} {sl57 : Array (Option Value)} {oc57 kV57 dc57 pm57 cd57 ct57 : Value}
    (a57 : PySem.W.nsIn K mainGlobals "swept" = some (some (.ref f57))) (l57 : K.lookup f57 = some ⟨oc57, od57, .func (PySem.W.fnOf "swept" "swept" (defArgs S_swept) (defBody S_swept) (defScope S_swept) .none kV57 dc57 pm57 an57 cd57 ct57), sl57⟩) (c57 : PySem.W.codeIn K cd57 "swept" = true) (k57 : PySem.W.keepIn K (.ref f57) = true)
    {f58 : Addr} {od58 an58 : Option Addr} {sl58 : Array (Option Value)} {oc58 kV58 dc58 pm58 cd58 ct58 : Value}
    (a58 : PySem.W.nsIn K mainGlobals "goes" = some (some (.ref f58))) (l58 : K.lookup f58 = some ⟨oc58, od58, .func (PySem.W.fnOf "goes" "goes" (defArgs S_goes) (defBody S_goes) (defScope S_goes) .none kV58 dc58 pm58 an58 cd58 ct58), sl58⟩) (c58 : PySem.W.codeIn K cd58 "goes" = true) (k58 : PySem.W.keepIn K (.ref f58) = true)
    {f59 : Addr} {od59 an59 : Option Addr} {sl59 : Array (Option Value)} {oc59 kV59 dc59 pm59 cd59 ct59 : Value}
    (a59 : PySem.W.nsIn K mainGlobals "_law_mixed" = some (some (.ref f59))) (l59 : K.lookup f59 = some ⟨oc59, od59, .func (PySem.W.fnOf "_law_mixed" "_law_mixed" (defArgs S__law_mixed) (defBody S__law_mixed) (defScope S__law_mixed) .none kV59 dc59 pm59 an59 cd59 ct59), sl59⟩) (c59 : PySem.W.codeIn K cd59 "_law_mixed" = true) (k59 : PySem.W.keepIn K (.ref f59) = true)
    {f60 : Addr} {od60 an60 : Option Addr} {sl60 : Array (Option Value)} {oc60 kV60 dc60 pm60 cd60 ct60 : Value}
    (a60 : PySem.W.nsIn K mainGlobals "_law_draw" = some (some (.ref f60))) (l60 : K.lookup f60 = some ⟨oc60, od60, .func (PySem.W.fnOf "_law_draw" "_law_draw" (defArgs S__law_draw) (defBody S__law_draw) (defScope S__law_draw) .none kV60 dc60 pm60 an60 cd60 ct60), sl60⟩) (c60 : PySem.W.codeIn K cd60 "_law_draw" = true) (k60 : PySem.W.keepIn K (.ref f60) = true)
    {f61 : Addr} {od61 an61 : Option Addr} {sl61 : Array (Option Value)} {oc61 kV61 dc61 pm61 cd61 ct61 : Value}
    (a61 : PySem.W.nsIn K mainGlobals "_law_digit" = some (some (.ref f61))) (l61 : K.lookup f61 = some ⟨oc61, od61, .func (PySem.W.fnOf "_law_digit" "_law_digit" (defArgs S__law_digit) (defBody S__law_digit) (defScope S__law_digit) .none kV61 dc61 pm61 an61 cd61 ct61), sl61⟩) (c61 : PySem.W.codeIn K cd61 "_law_digit" = true) (k61 : PySem.W.keepIn K (.ref f61) = true)
    {f62 : Addr} {od62 an62 : Option Addr} {sl62 : Array (Option Value)} {oc62 kV62 dc62 pm62 cd62 ct62 : Value}
    (a62 : PySem.W.nsIn K mainGlobals "_law_crumb" = some (some (.ref f62))) (l62 : K.lookup f62 = some ⟨oc62, od62, .func (PySem.W.fnOf "_law_crumb" "_law_crumb" (defArgs S__law_crumb) (defBody S__law_crumb) (defScope S__law_crumb) .none kV62 dc62 pm62 an62 cd62 ct62), sl62⟩) (c62 : PySem.W.codeIn K cd62 "_law_crumb" = true) (k62 : PySem.W.keepIn K (.ref f62) = true)
    {f63 : Addr} {od63 an63 : Option Addr} {sl63 : Array (Option Value)} {oc63 kV63 dc63 pm63 cd63 ct63 : Value}
    (a63 : PySem.W.nsIn K mainGlobals "_law_some_crumbs" = some (some (.ref f63))) (l63 : K.lookup f63 = some ⟨oc63, od63, .func (PySem.W.fnOf "_law_some_crumbs" "_law_some_crumbs" (defArgs S__law_some_crumbs) (defBody S__law_some_crumbs) (defScope S__law_some_crumbs) .none kV63 dc63 pm63 an63 cd63 ct63), sl63⟩) (c63 : PySem.W.codeIn K cd63 "_law_some_crumbs" = true) (k63 : PySem.W.keepIn K (.ref f63) = true)
    {f64 : Addr} {od64 an64 : Option Addr} {sl64 : Array (Option Value)} {oc64 kV64 dc64 pm64 cd64 ct64 : Value}
    (a64 : PySem.W.nsIn K mainGlobals "_law_name_of" = some (some (.ref f64))) (l64 : K.lookup f64 = some ⟨oc64, od64, .func (PySem.W.fnOf "_law_name_of" "_law_name_of" (defArgs S__law_name_of) (defBody S__law_name_of) (defScope S__law_name_of) .none kV64 dc64 pm64 an64 cd64 ct64), sl64⟩) (c64 : PySem.W.codeIn K cd64 "_law_name_of" = true) (k64 : PySem.W.keepIn K (.ref f64) = true)
    {f65 : Addr} {od65 an65 : Option Addr} {sl65 : Array (Option Value)} {oc65 kV65 dc65 pm65 cd65 ct65 : Value}
    (a65 : PySem.W.nsIn K mainGlobals "_law_out" = some (some (.ref f65))) (l65 : K.lookup f65 = some ⟨oc65, od65, .func (PySem.W.fnOf "_law_out" "_law_out" (defArgs S__law_out) (defBody S__law_out) (defScope S__law_out) .none kV65 dc65 pm65 an65 cd65 ct65), sl65⟩) (c65 : PySem.W.codeIn K cd65 "_law_out" = true) (k65 : PySem.W.keepIn K (.ref f65) = true)
    {f66 : Addr} {od66 an66 : Option Addr} {sl66 : Array (Option Value)} {oc66 kV66 dc66 pm66 cd66 ct66 : Value}
    (a66 : PySem.W.nsIn K mainGlobals "_law_swept_right" = some (some (.ref f66))) (l66 : K.lookup f66 = some ⟨oc66, od66, .func (PySem.W.fnOf "_law_swept_right" "_law_swept_right" (defArgs S__law_swept_right) (defBody S__law_swept_right) (defScope S__law_swept_right) .none kV66 dc66 pm66 an66 cd66 ct66), sl66⟩) (c66 : PySem.W.codeIn K cd66 "_law_swept_right" = true) (k66 : PySem.W.keepIn K (.ref f66) = true)
    {f67 : Addr} {od67 an67 : Option Addr} {sl67 : Array (Option Value)} {oc67 kV67 dc67 pm67 cd67 ct67 : Value}
    (a67 : PySem.W.nsIn K mainGlobals "_law_cell_right" = some (some (.ref f67))) (l67 : K.lookup f67 = some ⟨oc67, od67, .func (PySem.W.fnOf "_law_cell_right" "_law_cell_right" (defArgs S__law_cell_right) (defBody S__law_cell_right) (defScope S__law_cell_right) .none kV67 dc67 pm67 an67 cd67 ct67), sl67⟩) (c67 : PySem.W.codeIn K cd67 "_law_cell_right" = true) (k67 : PySem.W.keepIn K (.ref f67) = true)
    {f68 : Addr} {od68 an68 : Option Addr} {sl68 : Array (Option Value)} {oc68 kV68 dc68 pm68 cd68 ct68 : Value}
    (a68 : PySem.W.nsIn K mainGlobals "law" = some (some (.ref f68))) (l68 : K.lookup f68 = some ⟨oc68, od68, .func (PySem.W.fnOf "law" "law" (defArgs S_law) (defBody S_law) (defScope S_law) .none kV68 dc68 pm68 an68 cd68 ct68), sl68⟩) (c68 : PySem.W.codeIn K cd68 "law" = true) (k68 : PySem.W.keepIn K (.ref f68) = true)
    {t_LAST_TICK : Tok} (v_LAST_TICK : PySem.W.nsIn K mainGlobals "LAST_TICK" = some (some (.int (253402300799) t_LAST_TICK)))
    {t_SMALL : Tok} (v_SMALL : PySem.W.nsIn K mainGlobals "SMALL" = some (some (.str cs_SMALL t_SMALL)))
    {t_GREAT : Tok} (v_GREAT : PySem.W.nsIn K mainGlobals "GREAT" = some (some (.str cs_GREAT t_GREAT)))
    {t_DIGITS : Tok} (v_DIGITS : PySem.W.nsIn K mainGlobals "DIGITS" = some (some (.str cs_DIGITS t_DIGITS)))
    {t_MOST_SIGNS : Tok} (v_MOST_SIGNS : PySem.W.nsIn K mainGlobals "MOST_SIGNS" = some (some (.int (100) t_MOST_SIGNS)))
    {t_MOST_LABELS : Tok} (v_MOST_LABELS : PySem.W.nsIn K mainGlobals "MOST_LABELS" = some (some (.int (10) t_MOST_LABELS)))
    {t_MOST_LABEL : Tok} (v_MOST_LABEL : PySem.W.nsIn K mainGlobals "MOST_LABEL" = some (some (.int (20) t_MOST_LABEL)))
    {t_LABEL_SIGNS : Tok} (v_LABEL_SIGNS : PySem.W.nsIn K mainGlobals "LABEL_SIGNS" = some (some (.str cs_LABEL_SIGNS t_LABEL_SIGNS)))
    {t_MOST_PATH : Tok} (v_MOST_PATH : PySem.W.nsIn K mainGlobals "MOST_PATH" = some (some (.int (200) t_MOST_PATH)))
    {t_PATH_SIGNS : Tok} (v_PATH_SIGNS : PySem.W.nsIn K mainGlobals "PATH_SIGNS" = some (some (.str cs_PATH_SIGNS t_PATH_SIGNS)))
    {t_MOST_AGE_pieces : Tok} (v_MOST_AGE_pieces : PySem.W.nsIn K mainGlobals "MOST_AGE_pieces" = some (some (.int (34560000) t_MOST_AGE_pieces)))
    {t_BLANKS : Tok} (v_BLANKS : PySem.W.nsIn K mainGlobals "BLANKS" = some (some (.str cs_BLANKS t_BLANKS)))
    {t_MOST_LINE : Tok} (v_MOST_LINE : PySem.W.nsIn K mainGlobals "MOST_LINE" = some (some (.int (4096) t_MOST_LINE)))
    {t_MOST_RULES : Tok} (v_MOST_RULES : PySem.W.nsIn K mainGlobals "MOST_RULES" = some (some (.int (30) t_MOST_RULES)))
    {t_MOST_AGE_crumbs : Tok} (v_MOST_AGE_crumbs : PySem.W.nsIn K mainGlobals "MOST_AGE_crumbs" = some (some (.int (34560000) t_MOST_AGE_crumbs)))
    {ca_SCHEMES : Addr} {cn_SCHEMES : Nat} {cl_SCHEMES : Array (Option Value)} {ck_SCHEMES_0 ck_SCHEMES_1 : Tok}
    (v_SCHEMES : PySem.W.nsIn K mainGlobals "SCHEMES" = some (some (.ref ca_SCHEMES))) (l_SCHEMES : K.lookup ca_SCHEMES = some ⟨.type "tuple", none, .seq #[.str ⟨#[104, 116, 116, 112]⟩ ck_SCHEMES_0, .str ⟨#[104, 116, 116, 112, 115]⟩ ck_SCHEMES_1] cn_SCHEMES, cl_SCHEMES⟩)
    {ca_SAMES_pieces : Addr} {cn_SAMES_pieces : Nat} {cl_SAMES_pieces : Array (Option Value)} {ck_SAMES_pieces_0 ck_SAMES_pieces_1 ck_SAMES_pieces_2 : Tok}
    (v_SAMES_pieces : PySem.W.nsIn K mainGlobals "SAMES_pieces" = some (some (.ref ca_SAMES_pieces))) (l_SAMES_pieces : K.lookup ca_SAMES_pieces = some ⟨.type "tuple", none, .seq #[.str ⟨#[115, 116, 114, 105, 99, 116]⟩ ck_SAMES_pieces_0, .str ⟨#[108, 97, 120]⟩ ck_SAMES_pieces_1, .str ⟨#[110, 111, 110, 101]⟩ ck_SAMES_pieces_2] cn_SAMES_pieces, cl_SAMES_pieces⟩)
    {ca_SAMES_crumbs : Addr} {cn_SAMES_crumbs : Nat} {cl_SAMES_crumbs : Array (Option Value)} {ck_SAMES_crumbs_0 ck_SAMES_crumbs_1 ck_SAMES_crumbs_2 ck_SAMES_crumbs_3 : Tok}
    (v_SAMES_crumbs : PySem.W.nsIn K mainGlobals "SAMES_crumbs" = some (some (.ref ca_SAMES_crumbs))) (l_SAMES_crumbs : K.lookup ca_SAMES_crumbs = some ⟨.type "tuple", none, .seq #[.str ⟨#[115, 116, 114, 105, 99, 116]⟩ ck_SAMES_crumbs_0, .str ⟨#[108, 97, 120]⟩ ck_SAMES_crumbs_1, .str ⟨#[110, 111, 110, 101]⟩ ck_SAMES_crumbs_2, .str ⟨#[100, 101, 102, 97, 117, 108, 116]⟩ ck_SAMES_crumbs_3] cn_SAMES_crumbs, cl_SAMES_crumbs⟩)
    {ca_PREFIXES : Addr} {cn_PREFIXES : Nat} {cl_PREFIXES : Array (Option Value)} {ck_PREFIXES_0 ck_PREFIXES_1 : Tok}
    (v_PREFIXES : PySem.W.nsIn K mainGlobals "PREFIXES" = some (some (.ref ca_PREFIXES))) (l_PREFIXES : K.lookup ca_PREFIXES = some ⟨.type "tuple", none, .seq #[.str ⟨#[95, 95, 115, 101, 99, 117, 114, 101, 45]⟩ ck_PREFIXES_0, .str ⟨#[95, 95, 104, 111, 115, 116, 45]⟩ ck_PREFIXES_1] cn_PREFIXES, cl_PREFIXES⟩)
    {C_BadTick I_BadTick cda_BadTick cc_BadTick N_BadTick : Addr} {nm_BadTick qn_BadTick fi_BadTick : Str} {bs_BadTick bm_BadTick sub_BadTick : List Value} {sn_BadTick : List Str} {ab_BadTick : Bool} {col_BadTick : Option Bool} {dd_BadTick odi_BadTick ani_BadTick cdd_BadTick cld_BadTick : Option Addr} {m0_BadTick m1_BadTick m2_BadTick m3_BadTick m5_BadTick : Option Value} {oci_BadTick kVi_BadTick doci_BadTick pmi_BadTick cti_BadTick ccl_BadTick clv_BadTick : Value} {osl_BadTick ccs_BadTick csl_BadTick : Array (Option Value)} {vs_BadTick : Array Value} {tf_BadTick : Tok}
    (aC_BadTick : PySem.W.nsIn K mainGlobals "BadTick" = some (some (.ref C_BadTick))) (xL_BadTick : K.lookup C_BadTick = some (excClassObj nm_BadTick qn_BadTick C_BadTick N_BadTick bs_BadTick bm_BadTick true sn_BadTick sub_BadTick ab_BadTick col_BadTick dd_BadTick m0_BadTick m1_BadTick m2_BadTick m3_BadTick m5_BadTick "ValueError.__new__")) (rv_BadTick : PySem.HandSPX.refsVE bm_BadTick = true)
    (sa_BadTick : PySem.W.findIn K (.ref C_BadTick) "__setattr__" = some (some (.builtin "object.__setattr__"))) (ga_BadTick : PySem.W.findIn K (.ref C_BadTick) "__getattribute__" = some (some (.builtin "BaseException.__getattribute__"))) (gg_BadTick : PySem.W.findIn K (.ref C_BadTick) "__getattr__" = some none) (no_BadTick : PySem.W.findIn K (.ref C_BadTick) "given" = some none)
    (fi1_BadTick : PySem.W.findIn K (.ref C_BadTick) "__init__" = some (some (.ref I_BadTick))) (ti_BadTick : PySem.W.typeIn K (.ref I_BadTick) = some (.type "function")) (me_BadTick : PySem.W.mroIn K C_BadTick (.ref C_BadTick) = some true) (an_BadTick : PySem.W.nsIn K cStatics "thirdparty.any" = some none) (up_BadTick : PySem.W.ks_superIn K C_BadTick C_BadTick "__init__" = some (some (.builtin "ValueError.__init__")))
    (iv_BadTick : PySem.W.subIn K (.ref C_BadTick) (.type "ValueError") = some true) (xc_BadTick : PySem.W.subIn K (.ref C_BadTick) (.type "BaseException") = some true) (ty_BadTick : PySem.W.typeIn K (.ref C_BadTick) = some (.type "type")) (ke_BadTick : PySem.W.keepIn K (.ref C_BadTick) = true) (hd_BadTick : PySem.W.hasDictIn K C_BadTick = true) (ic_BadTick : PySem.W.isClsIn K C_BadTick = true)
    (l_BadTick : K.lookup I_BadTick = some ⟨oci_BadTick, odi_BadTick, .func (PySem.W.ksFn "__init__" "BadTick.__init__" (defArgs SI_BadTick) (defBody SI_BadTick) (defScope SI_BadTick) .none kVi_BadTick doci_BadTick pmi_BadTick ani_BadTick (.ref cda_BadTick) cti_BadTick cc_BadTick), osl_BadTick⟩) (cd_BadTick : PySem.W.codeIn K (.ref cda_BadTick) "BadTick.__init__" = true) (lc_BadTick : K.lookup cda_BadTick = some ⟨ccl_BadTick, cdd_BadTick, .fields vs_BadTick, ccs_BadTick⟩) (v2_BadTick : vs_BadTick[2]? = some (.str fi_BadTick tf_BadTick))
    (fl_BadTick : ((PW.main.file : Str) == fi_BadTick) = true) (ll_BadTick : K.lookup cc_BadTick = some ⟨clv_BadTick, cld_BadTick, .cell (some (.ref C_BadTick)), csl_BadTick⟩)
    {C_BadHost I_BadHost cda_BadHost cc_BadHost N_BadHost : Addr} {nm_BadHost qn_BadHost fi_BadHost : Str} {bs_BadHost bm_BadHost sub_BadHost : List Value} {sn_BadHost : List Str} {ab_BadHost : Bool} {col_BadHost : Option Bool} {dd_BadHost odi_BadHost ani_BadHost cdd_BadHost cld_BadHost : Option Addr} {m0_BadHost m1_BadHost m2_BadHost m3_BadHost m5_BadHost : Option Value} {oci_BadHost kVi_BadHost doci_BadHost pmi_BadHost cti_BadHost ccl_BadHost clv_BadHost : Value} {osl_BadHost ccs_BadHost csl_BadHost : Array (Option Value)} {vs_BadHost : Array Value} {tf_BadHost : Tok}
    (aC_BadHost : PySem.W.nsIn K mainGlobals "BadHost" = some (some (.ref C_BadHost))) (xL_BadHost : K.lookup C_BadHost = some (excClassObj nm_BadHost qn_BadHost C_BadHost N_BadHost bs_BadHost bm_BadHost true sn_BadHost sub_BadHost ab_BadHost col_BadHost dd_BadHost m0_BadHost m1_BadHost m2_BadHost m3_BadHost m5_BadHost "ValueError.__new__")) (rv_BadHost : PySem.HandSPX.refsVE bm_BadHost = true)
    (sa_BadHost : PySem.W.findIn K (.ref C_BadHost) "__setattr__" = some (some (.builtin "object.__setattr__"))) (ga_BadHost : PySem.W.findIn K (.ref C_BadHost) "__getattribute__" = some (some (.builtin "BaseException.__getattribute__"))) (gg_BadHost : PySem.W.findIn K (.ref C_BadHost) "__getattr__" = some none) (no_BadHost : PySem.W.findIn K (.ref C_BadHost) "place" = some none)
    (fi1_BadHost : PySem.W.findIn K (.ref C_BadHost) "__init__" = some (some (.ref I_BadHost))) (ti_BadHost : PySem.W.typeIn K (.ref I_BadHost) = some (.type "function")) (me_BadHost : PySem.W.mroIn K C_BadHost (.ref C_BadHost) = some true) (an_BadHost : PySem.W.nsIn K cStatics "thirdparty.any" = some none) (up_BadHost : PySem.W.ks_superIn K C_BadHost C_BadHost "__init__" = some (some (.builtin "ValueError.__init__")))
    (iv_BadHost : PySem.W.subIn K (.ref C_BadHost) (.type "ValueError") = some true) (xc_BadHost : PySem.W.subIn K (.ref C_BadHost) (.type "BaseException") = some true) (ty_BadHost : PySem.W.typeIn K (.ref C_BadHost) = some (.type "type")) (ke_BadHost : PySem.W.keepIn K (.ref C_BadHost) = true) (hd_BadHost : PySem.W.hasDictIn K C_BadHost = true) (ic_BadHost : PySem.W.isClsIn K C_BadHost = true)
    (l_BadHost : K.lookup I_BadHost = some ⟨oci_BadHost, odi_BadHost, .func (PySem.W.ksFn "__init__" "BadHost.__init__" (defArgs SI_BadHost) (defBody SI_BadHost) (defScope SI_BadHost) .none kVi_BadHost doci_BadHost pmi_BadHost ani_BadHost (.ref cda_BadHost) cti_BadHost cc_BadHost), osl_BadHost⟩) (cd_BadHost : PySem.W.codeIn K (.ref cda_BadHost) "BadHost.__init__" = true) (lc_BadHost : K.lookup cda_BadHost = some ⟨ccl_BadHost, cdd_BadHost, .fields vs_BadHost, ccs_BadHost⟩) (v2_BadHost : vs_BadHost[2]? = some (.str fi_BadHost tf_BadHost))
    (fl_BadHost : ((PW.main.file : Str) == fi_BadHost) = true) (ll_BadHost : K.lookup cc_BadHost = some ⟨clv_BadHost, cld_BadHost, .cell (some (.ref C_BadHost)), csl_BadHost⟩)
    {C_BadLine I_BadLine cda_BadLine cc_BadLine N_BadLine : Addr} {nm_BadLine qn_BadLine fi_BadLine : Str} {bs_BadLine bm_BadLine sub_BadLine : List Value} {sn_BadLine : List Str} {ab_BadLine : Bool} {col_BadLine : Option Bool} {dd_BadLine odi_BadLine ani_BadLine cdd_BadLine cld_BadLine : Option Addr} {m0_BadLine m1_BadLine m2_BadLine m3_BadLine m5_BadLine : Option Value} {oci_BadLine kVi_BadLine doci_BadLine pmi_BadLine cti_BadLine ccl_BadLine clv_BadLine : Value} {osl_BadLine ccs_BadLine csl_BadLine : Array (Option Value)} {vs_BadLine : Array Value} {tf_BadLine : Tok}
    (aC_BadLine : PySem.W.nsIn K mainGlobals "BadLine" = some (some (.ref C_BadLine))) (xL_BadLine : K.lookup C_BadLine = some (excClassObj nm_BadLine qn_BadLine C_BadLine N_BadLine bs_BadLine bm_BadLine true sn_BadLine sub_BadLine ab_BadLine col_BadLine dd_BadLine m0_BadLine m1_BadLine m2_BadLine m3_BadLine m5_BadLine "ValueError.__new__")) (rv_BadLine : PySem.HandSPX.refsVE bm_BadLine = true)
    (sa_BadLine : PySem.W.findIn K (.ref C_BadLine) "__setattr__" = some (some (.builtin "object.__setattr__"))) (ga_BadLine : PySem.W.findIn K (.ref C_BadLine) "__getattribute__" = some (some (.builtin "BaseException.__getattribute__"))) (gg_BadLine : PySem.W.findIn K (.ref C_BadLine) "__getattr__" = some none) (no_BadLine : PySem.W.findIn K (.ref C_BadLine) "field" = some none)
    (fi1_BadLine : PySem.W.findIn K (.ref C_BadLine) "__init__" = some (some (.ref I_BadLine))) (ti_BadLine : PySem.W.typeIn K (.ref I_BadLine) = some (.type "function")) (me_BadLine : PySem.W.mroIn K C_BadLine (.ref C_BadLine) = some true) (an_BadLine : PySem.W.nsIn K cStatics "thirdparty.any" = some none) (up_BadLine : PySem.W.ks_superIn K C_BadLine C_BadLine "__init__" = some (some (.builtin "ValueError.__init__")))
    (iv_BadLine : PySem.W.subIn K (.ref C_BadLine) (.type "ValueError") = some true) (xc_BadLine : PySem.W.subIn K (.ref C_BadLine) (.type "BaseException") = some true) (ty_BadLine : PySem.W.typeIn K (.ref C_BadLine) = some (.type "type")) (ke_BadLine : PySem.W.keepIn K (.ref C_BadLine) = true) (hd_BadLine : PySem.W.hasDictIn K C_BadLine = true) (ic_BadLine : PySem.W.isClsIn K C_BadLine = true)
    (l_BadLine : K.lookup I_BadLine = some ⟨oci_BadLine, odi_BadLine, .func (PySem.W.ksFn "__init__" "BadLine.__init__" (defArgs SI_BadLine) (defBody SI_BadLine) (defScope SI_BadLine) .none kVi_BadLine doci_BadLine pmi_BadLine ani_BadLine (.ref cda_BadLine) cti_BadLine cc_BadLine), osl_BadLine⟩) (cd_BadLine : PySem.W.codeIn K (.ref cda_BadLine) "BadLine.__init__" = true) (lc_BadLine : K.lookup cda_BadLine = some ⟨ccl_BadLine, cdd_BadLine, .fields vs_BadLine, ccs_BadLine⟩) (v2_BadLine : vs_BadLine[2]? = some (.str fi_BadLine tf_BadLine))
    (fl_BadLine : ((PW.main.file : Str) == fi_BadLine) = true) (ll_BadLine : K.lookup cc_BadLine = some ⟨clv_BadLine, cld_BadLine, .cell (some (.ref C_BadLine)), csl_BadLine⟩)
    {C_BadRules I_BadRules cda_BadRules cc_BadRules N_BadRules : Addr} {nm_BadRules qn_BadRules fi_BadRules : Str} {bs_BadRules bm_BadRules sub_BadRules : List Value} {sn_BadRules : List Str} {ab_BadRules : Bool} {col_BadRules : Option Bool} {dd_BadRules odi_BadRules ani_BadRules cdd_BadRules cld_BadRules : Option Addr} {m0_BadRules m1_BadRules m2_BadRules m3_BadRules m5_BadRules : Option Value} {oci_BadRules kVi_BadRules doci_BadRules pmi_BadRules cti_BadRules ccl_BadRules clv_BadRules : Value} {osl_BadRules ccs_BadRules csl_BadRules : Array (Option Value)} {vs_BadRules : Array Value} {tf_BadRules : Tok}
    (aC_BadRules : PySem.W.nsIn K mainGlobals "BadRules" = some (some (.ref C_BadRules))) (xL_BadRules : K.lookup C_BadRules = some (excClassObj nm_BadRules qn_BadRules C_BadRules N_BadRules bs_BadRules bm_BadRules true sn_BadRules sub_BadRules ab_BadRules col_BadRules dd_BadRules m0_BadRules m1_BadRules m2_BadRules m3_BadRules m5_BadRules "ValueError.__new__")) (rv_BadRules : PySem.HandSPX.refsVE bm_BadRules = true)
    (sa_BadRules : PySem.W.findIn K (.ref C_BadRules) "__setattr__" = some (some (.builtin "object.__setattr__"))) (ga_BadRules : PySem.W.findIn K (.ref C_BadRules) "__getattribute__" = some (some (.builtin "BaseException.__getattribute__"))) (gg_BadRules : PySem.W.findIn K (.ref C_BadRules) "__getattr__" = some none) (no_BadRules : PySem.W.findIn K (.ref C_BadRules) "index" = some none)
    (fi1_BadRules : PySem.W.findIn K (.ref C_BadRules) "__init__" = some (some (.ref I_BadRules))) (ti_BadRules : PySem.W.typeIn K (.ref I_BadRules) = some (.type "function")) (me_BadRules : PySem.W.mroIn K C_BadRules (.ref C_BadRules) = some true) (an_BadRules : PySem.W.nsIn K cStatics "thirdparty.any" = some none) (up_BadRules : PySem.W.ks_superIn K C_BadRules C_BadRules "__init__" = some (some (.builtin "ValueError.__init__")))
    (iv_BadRules : PySem.W.subIn K (.ref C_BadRules) (.type "ValueError") = some true) (xc_BadRules : PySem.W.subIn K (.ref C_BadRules) (.type "BaseException") = some true) (ty_BadRules : PySem.W.typeIn K (.ref C_BadRules) = some (.type "type")) (ke_BadRules : PySem.W.keepIn K (.ref C_BadRules) = true) (hd_BadRules : PySem.W.hasDictIn K C_BadRules = true) (ic_BadRules : PySem.W.isClsIn K C_BadRules = true)
    (l_BadRules : K.lookup I_BadRules = some ⟨oci_BadRules, odi_BadRules, .func (PySem.W.ksFn "__init__" "BadRules.__init__" (defArgs SI_BadRules) (defBody SI_BadRules) (defScope SI_BadRules) .none kVi_BadRules doci_BadRules pmi_BadRules ani_BadRules (.ref cda_BadRules) cti_BadRules cc_BadRules), osl_BadRules⟩) (cd_BadRules : PySem.W.codeIn K (.ref cda_BadRules) "BadRules.__init__" = true) (lc_BadRules : K.lookup cda_BadRules = some ⟨ccl_BadRules, cdd_BadRules, .fields vs_BadRules, ccs_BadRules⟩) (v2_BadRules : vs_BadRules[2]? = some (.str fi_BadRules tf_BadRules))
    (fl_BadRules : ((PW.main.file : Str) == fi_BadRules) = true) (ll_BadRules : K.lookup cc_BadRules = some ⟨clv_BadRules, cld_BadRules, .cell (some (.ref C_BadRules)), csl_BadRules⟩)
    {C_BadCrumb I_BadCrumb cda_BadCrumb cc_BadCrumb N_BadCrumb : Addr} {nm_BadCrumb qn_BadCrumb fi_BadCrumb : Str} {bs_BadCrumb bm_BadCrumb sub_BadCrumb : List Value} {sn_BadCrumb : List Str} {ab_BadCrumb : Bool} {col_BadCrumb : Option Bool} {dd_BadCrumb odi_BadCrumb ani_BadCrumb cdd_BadCrumb cld_BadCrumb : Option Addr} {m0_BadCrumb m1_BadCrumb m2_BadCrumb m3_BadCrumb m5_BadCrumb : Option Value} {oci_BadCrumb kVi_BadCrumb doci_BadCrumb pmi_BadCrumb cti_BadCrumb ccl_BadCrumb clv_BadCrumb : Value} {osl_BadCrumb ccs_BadCrumb csl_BadCrumb : Array (Option Value)} {vs_BadCrumb : Array Value} {tf_BadCrumb : Tok}
    (aC_BadCrumb : PySem.W.nsIn K mainGlobals "BadCrumb" = some (some (.ref C_BadCrumb))) (xL_BadCrumb : K.lookup C_BadCrumb = some (excClassObj nm_BadCrumb qn_BadCrumb C_BadCrumb N_BadCrumb bs_BadCrumb bm_BadCrumb true sn_BadCrumb sub_BadCrumb ab_BadCrumb col_BadCrumb dd_BadCrumb m0_BadCrumb m1_BadCrumb m2_BadCrumb m3_BadCrumb m5_BadCrumb "ValueError.__new__")) (rv_BadCrumb : PySem.HandSPX.refsVE bm_BadCrumb = true)
    (sa_BadCrumb : PySem.W.findIn K (.ref C_BadCrumb) "__setattr__" = some (some (.builtin "object.__setattr__"))) (ga_BadCrumb : PySem.W.findIn K (.ref C_BadCrumb) "__getattribute__" = some (some (.builtin "BaseException.__getattribute__"))) (gg_BadCrumb : PySem.W.findIn K (.ref C_BadCrumb) "__getattr__" = some none) (no_BadCrumb : PySem.W.findIn K (.ref C_BadCrumb) "field" = some none)
    (fi1_BadCrumb : PySem.W.findIn K (.ref C_BadCrumb) "__init__" = some (some (.ref I_BadCrumb))) (ti_BadCrumb : PySem.W.typeIn K (.ref I_BadCrumb) = some (.type "function")) (me_BadCrumb : PySem.W.mroIn K C_BadCrumb (.ref C_BadCrumb) = some true) (an_BadCrumb : PySem.W.nsIn K cStatics "thirdparty.any" = some none) (up_BadCrumb : PySem.W.ks_superIn K C_BadCrumb C_BadCrumb "__init__" = some (some (.builtin "ValueError.__init__")))
    (iv_BadCrumb : PySem.W.subIn K (.ref C_BadCrumb) (.type "ValueError") = some true) (xc_BadCrumb : PySem.W.subIn K (.ref C_BadCrumb) (.type "BaseException") = some true) (ty_BadCrumb : PySem.W.typeIn K (.ref C_BadCrumb) = some (.type "type")) (ke_BadCrumb : PySem.W.keepIn K (.ref C_BadCrumb) = true) (hd_BadCrumb : PySem.W.hasDictIn K C_BadCrumb = true) (ic_BadCrumb : PySem.W.isClsIn K C_BadCrumb = true)
    (l_BadCrumb : K.lookup I_BadCrumb = some ⟨oci_BadCrumb, odi_BadCrumb, .func (PySem.W.ksFn "__init__" "BadCrumb.__init__" (defArgs SI_BadCrumb) (defBody SI_BadCrumb) (defScope SI_BadCrumb) .none kVi_BadCrumb doci_BadCrumb pmi_BadCrumb ani_BadCrumb (.ref cda_BadCrumb) cti_BadCrumb cc_BadCrumb), osl_BadCrumb⟩) (cd_BadCrumb : PySem.W.codeIn K (.ref cda_BadCrumb) "BadCrumb.__init__" = true) (lc_BadCrumb : K.lookup cda_BadCrumb = some ⟨ccl_BadCrumb, cdd_BadCrumb, .fields vs_BadCrumb, ccs_BadCrumb⟩) (v2_BadCrumb : vs_BadCrumb[2]? = some (.str fi_BadCrumb tf_BadCrumb))
    (fl_BadCrumb : ((PW.main.file : Str) == fi_BadCrumb) = true) (ll_BadCrumb : K.lookup cc_BadCrumb = some ⟨clv_BadCrumb, cld_BadCrumb, .cell (some (.ref C_BadCrumb)), csl_BadCrumb⟩)
    (y_BadTick_BadHost : PySem.W.subIn K (.ref C_BadTick) (.ref C_BadHost) = some false)
    (y_BadTick_BadLine : PySem.W.subIn K (.ref C_BadTick) (.ref C_BadLine) = some false)
    (y_BadTick_BadRules : PySem.W.subIn K (.ref C_BadTick) (.ref C_BadRules) = some false)
    (y_BadTick_BadCrumb : PySem.W.subIn K (.ref C_BadTick) (.ref C_BadCrumb) = some false)
    (y_BadHost_BadTick : PySem.W.subIn K (.ref C_BadHost) (.ref C_BadTick) = some false)
    (y_BadHost_BadLine : PySem.W.subIn K (.ref C_BadHost) (.ref C_BadLine) = some false)
    (y_BadHost_BadRules : PySem.W.subIn K (.ref C_BadHost) (.ref C_BadRules) = some false)
    (y_BadHost_BadCrumb : PySem.W.subIn K (.ref C_BadHost) (.ref C_BadCrumb) = some false)
    (y_BadLine_BadTick : PySem.W.subIn K (.ref C_BadLine) (.ref C_BadTick) = some false)
    (y_BadLine_BadHost : PySem.W.subIn K (.ref C_BadLine) (.ref C_BadHost) = some false)
    (y_BadLine_BadRules : PySem.W.subIn K (.ref C_BadLine) (.ref C_BadRules) = some false)
    (y_BadLine_BadCrumb : PySem.W.subIn K (.ref C_BadLine) (.ref C_BadCrumb) = some false)
    (y_BadRules_BadTick : PySem.W.subIn K (.ref C_BadRules) (.ref C_BadTick) = some false)
    (y_BadRules_BadHost : PySem.W.subIn K (.ref C_BadRules) (.ref C_BadHost) = some false)
    (y_BadRules_BadLine : PySem.W.subIn K (.ref C_BadRules) (.ref C_BadLine) = some false)
    (y_BadRules_BadCrumb : PySem.W.subIn K (.ref C_BadRules) (.ref C_BadCrumb) = some false)
    (y_BadCrumb_BadTick : PySem.W.subIn K (.ref C_BadCrumb) (.ref C_BadTick) = some false)
    (y_BadCrumb_BadHost : PySem.W.subIn K (.ref C_BadCrumb) (.ref C_BadHost) = some false)
    (y_BadCrumb_BadLine : PySem.W.subIn K (.ref C_BadCrumb) (.ref C_BadLine) = some false)
    (y_BadCrumb_BadRules : PySem.W.subIn K (.ref C_BadCrumb) (.ref C_BadRules) = some false)
    (z_all : PySem.W.nsIn K mainGlobals "all" = some none)
    (z_any : PySem.W.nsIn K mainGlobals "any" = some none)
    (z_bool : PySem.W.nsIn K mainGlobals "bool" = some none)
    (z_enumerate : PySem.W.nsIn K mainGlobals "enumerate" = some none)
    (z_int : PySem.W.nsIn K mainGlobals "int" = some none)
    (z_isinstance : PySem.W.nsIn K mainGlobals "isinstance" = some none)
    (z_len : PySem.W.nsIn K mainGlobals "len" = some none)
    (z_list : PySem.W.nsIn K mainGlobals "list" = some none)
    (z_max : PySem.W.nsIn K mainGlobals "max" = some none)
    (z_range : PySem.W.nsIn K mainGlobals "range" = some none)
    (z_repr : PySem.W.nsIn K mainGlobals "repr" = some none)
    (z_sorted : PySem.W.nsIn K mainGlobals "sorted" = some none)
    (z_str : PySem.W.nsIn K mainGlobals "str" = some none)
    (z_super : PySem.W.nsIn K mainGlobals "super" = some none)
    (z_tuple : PySem.W.nsIn K mainGlobals "tuple" = some none)
    (z_zip : PySem.W.nsIn K mainGlobals "zip" = some none)
    : ∃ fd : FuncData, (∀ (s : Shared) (v : Value), BindsTo s fd ⟨[v], []⟩ [("_law_script", v)]) ∧ ∀ base : Heap, K.In base → base.Ns mainGlobals mg → FnG PySem.Challenge.rw_crumbjar_k45_limits.prog w K mg base CX0 14 fa fd ["_law_script"] (spz_law K) := by
  have e := hfa.symm.trans (PySem.W.mg_of X G a68)
  cases e
  let T : Txt K mg w := {
    C_Line := C_Line,
    K_Line := ⟨PySem.W.mg_of X G oC_Line, ⟨opg_Line, ohd_Line, opo_Line, osa_Line⟩, oha_Line, ohn_Line, otk_Line, omo_Line, ocl_Line, oty_Line, osN_Line, osb_Line, osi_Line, oss_Line, osl_Line, ost_Line, osd_Line⟩,
    M_Line := ⟨omk_Line, oin_Line, ofn_Line, okp_Line⟩,
    n_Line_line_settings := on_Line_line_settings,
    C_Crumb := C_Crumb,
    K_Crumb := ⟨PySem.W.mg_of X G oC_Crumb, ⟨opg_Crumb, ohd_Crumb, opo_Crumb, osa_Crumb⟩, oha_Crumb, ohn_Crumb, otk_Crumb, omo_Crumb, ocl_Crumb, oty_Crumb, osN_Crumb, osb_Crumb, osi_Crumb, oss_Crumb, osl_Crumb, ost_Crumb, osd_Crumb⟩,
    M_Crumb := ⟨omk_Crumb, oin_Crumb, ofn_Crumb, okp_Crumb⟩,
    n_Crumb_own_parts := on_Crumb_own_parts,
    p_Crumb_space := p_Crumb_space,
    P_Crumb_space := ⟨opa_Crumb_space, opb_Crumb_space, opc_Crumb_space, ⟨_, opd_Crumb_space⟩⟩,
    p_Crumb_host := p_Crumb_host,
    P_Crumb_host := ⟨opa_Crumb_host, opb_Crumb_host, opc_Crumb_host, ⟨_, opd_Crumb_host⟩⟩,
    p_Crumb_is_exact := p_Crumb_is_exact,
    P_Crumb_is_exact := ⟨opa_Crumb_is_exact, opb_Crumb_is_exact, opc_Crumb_is_exact, ⟨_, opd_Crumb_is_exact⟩⟩,
    p_Crumb_path := p_Crumb_path,
    P_Crumb_path := ⟨opa_Crumb_path, opb_Crumb_path, opc_Crumb_path, ⟨_, opd_Crumb_path⟩⟩,
    p_Crumb_name := p_Crumb_name,
    P_Crumb_name := ⟨opa_Crumb_name, opb_Crumb_name, opc_Crumb_name, ⟨_, opd_Crumb_name⟩⟩,
    p_Crumb_ends := p_Crumb_ends,
    P_Crumb_ends := ⟨opa_Crumb_ends, opb_Crumb_ends, opc_Crumb_ends, ⟨_, opd_Crumb_ends⟩⟩,
    p_Crumb_priority := p_Crumb_priority,
    P_Crumb_priority := ⟨opa_Crumb_priority, opb_Crumb_priority, opc_Crumb_priority, ⟨_, opd_Crumb_priority⟩⟩,
    p_Crumb_is_secure := p_Crumb_is_secure,
    P_Crumb_is_secure := ⟨opa_Crumb_is_secure, opb_Crumb_is_secure, opc_Crumb_is_secure, ⟨_, opd_Crumb_is_secure⟩⟩,
    p_Crumb_seen := p_Crumb_seen,
    P_Crumb_seen := ⟨opa_Crumb_seen, opb_Crumb_seen, opc_Crumb_seen, ⟨_, opd_Crumb_seen⟩⟩,
    p_Crumb_key := p_Crumb_key,
    P_Crumb_key := ⟨opa_Crumb_key, opb_Crumb_key, opc_Crumb_key, ⟨_, opd_Crumb_key⟩⟩,
    z_Line_Crumb := oz_Line_Crumb,
    zn_Line_Crumb := by simpa using ozn_Line_Crumb,
    z_Crumb_Line := oz_Crumb_Line,
    zn_Crumb_Line := by simpa using ozn_Crumb_Line,
    f_is_integer := f0,
    d_is_integer := _,
    F_is_integer := fun_mk (st := S_is_integer) l0 c0 k0,
    g_is_integer := PySem.W.mg_of X G a0,
    f_is_tick := f1,
    d_is_tick := _,
    F_is_tick := fun_mk (st := S_is_tick) l1 c1 k1,
    g_is_tick := PySem.W.mg_of X G a1,
    f_need_tick := f2,
    d_need_tick := _,
    F_need_tick := fun_mk (st := S_need_tick) l2 c2 k2,
    g_need_tick := PySem.W.mg_of X G a2,
    f_small_text := f3,
    d_small_text := _,
    F_small_text := fun_mk (st := S_small_text) l3 c3 k3,
    g_small_text := PySem.W.mg_of X G a3,
    f_s1_is_number_word := f4,
    d_s1_is_number_word := _,
    F_s1_is_number_word := fun_mk (st := S_s1_is_number_word) l4 c4 k4,
    g_s1_is_number_word := PySem.W.mg_of X G a4,
    f_s1_is_small := f5,
    d_s1_is_small := _,
    F_s1_is_small := fun_mk (st := S_s1_is_small) l5 c5 k5,
    g_s1_is_small := PySem.W.mg_of X G a5,
    f_s1_is_label := f6,
    d_s1_is_label := _,
    F_s1_is_label := fun_mk (st := S_s1_is_label) l6 c6 k6,
    g_s1_is_label := PySem.W.mg_of X G a6,
    f_is_address_host := f7,
    d_is_address_host := _,
    F_is_address_host := fun_mk (st := S_is_address_host) l7 c7 k7,
    g_is_address_host := PySem.W.mg_of X G a7,
    f_is_host := f8,
    d_is_host := _,
    F_is_host := fun_mk (st := S_is_host) l8 c8 k8,
    g_is_host := PySem.W.mg_of X G a8,
    f_s1_may_become_address := f9,
    d_s1_may_become_address := _,
    F_s1_may_become_address := fun_mk (st := S_s1_may_become_address) l9 c9 k9,
    g_s1_may_become_address := PySem.W.mg_of X G a9,
    f_s1_begins := f10,
    d_s1_begins := _,
    F_s1_begins := fun_mk (st := S_s1_begins) l10 c10 k10,
    g_s1_begins := PySem.W.mg_of X G a10,
    f_s1_place := f11,
    d_s1_place := _,
    F_s1_place := fun_mk (st := S_s1_place) l11 c11 k11,
    g_s1_place := PySem.W.mg_of X G a11,
    f_need_host := f12,
    d_need_host := _,
    F_need_host := fun_mk (st := S_need_host) l12 c12 k12,
    g_need_host := PySem.W.mg_of X G a12,
    f_s1_fits := f13,
    d_s1_fits := _,
    F_s1_fits := fun_mk (st := S_s1_fits) l13 c13 k13,
    g_s1_fits := PySem.W.mg_of X G a13,
    f_s1_is_path_sign := f14,
    d_s1_is_path_sign := _,
    F_s1_is_path_sign := fun_mk (st := S_s1_is_path_sign) l14 c14 k14,
    g_s1_is_path_sign := PySem.W.mg_of X G a14,
    f_is_path := f15,
    d_is_path := _,
    F_is_path := fun_mk (st := S_is_path) l15 c15 k15,
    g_is_path := PySem.W.mg_of X G a15,
    f_is_origin := f16,
    d_is_origin := _,
    F_is_origin := fun_mk (st := S_is_origin) l16 c16 k16,
    g_is_origin := PySem.W.mg_of X G a16,
    f_s1_is_safe := f17,
    d_s1_is_safe := _,
    F_s1_is_safe := fun_mk (st := S_s1_is_safe) l17 c17 k17,
    g_s1_is_safe := PySem.W.mg_of X G a17,
    f_s2_has_control := f18,
    d_s2_has_control := _,
    F_s2_has_control := fun_mk (st := S_s2_has_control) l18 c18 k18,
    g_s2_has_control := PySem.W.mg_of X G a18,
    f_s2_is_kept := f19,
    d_s2_is_kept := _,
    F_s2_is_kept := fun_mk (st := S_s2_is_kept) l19 c19 k19,
    g_s2_is_kept := PySem.W.mg_of X G a19,
    f_s2_is_value := f20,
    d_s2_is_value := _,
    F_s2_is_value := fun_mk (st := S_s2_is_value) l20 c20 k20,
    g_s2_is_value := PySem.W.mg_of X G a20,
    f_s2_is_age := f21,
    d_s2_is_age := _,
    F_s2_is_age := fun_mk (st := S_s2_is_age) l21 c21 k21,
    g_s2_is_age := PySem.W.mg_of X G a21,
    f_s2_is_same := f22,
    d_s2_is_same := _,
    F_s2_is_same := fun_mk (st := S_s2_is_same) l22 c22 k22,
    g_s2_is_same := PySem.W.mg_of X G a22,
    f_s2_is_priority := f23,
    d_s2_is_priority := _,
    F_s2_is_priority := fun_mk (st := S_s2_is_priority) l23 c23 k23,
    g_s2_is_priority := PySem.W.mg_of X G a23,
    f_s2_need := f24,
    d_s2_need := _,
    F_s2_need := fun_mk (st := S_s2_need) l24 c24 k24,
    g_s2_need := PySem.W.mg_of X G a24,
    f_Line_init := f25,
    d_Line_init := _,
    F_Line_init := fun_mk (st := S_Line_init) l25 c25 k25,
    D_Line_init := ⟨⟨_, _, _, _, _, _, _, _, _, _, rfl, l25, c25, .inl ⟨rfl, rfl⟩, .inr ⟨_, rfl, kwsCons ⟨_, kw25_expires, rfl⟩ (kwsCons ⟨_, kw25_age, rfl⟩ (kwsCons ⟨_, kw25_domain, rfl⟩ (kwsCons ⟨_, kw25_path, rfl⟩ (kwsCons ⟨_, kw25_is_secure, rfl⟩ (kwsCons ⟨_, kw25_is_hidden, rfl⟩ (kwsCons ⟨_, kw25_same, rfl⟩ (kwsCons ⟨_, kw25_is_partitioned, rfl⟩ (kwsCons ⟨_, kw25_priority, rfl⟩ (fun q hq => by cases hq)))))))))⟩⟩, k25⟩,
    f_s1_is_rule := f26,
    d_s1_is_rule := _,
    F_s1_is_rule := fun_mk (st := S_s1_is_rule) l26 c26 k26,
    g_s1_is_rule := PySem.W.mg_of X G a26,
    f_need_rules := f27,
    d_need_rules := _,
    F_need_rules := fun_mk (st := S_need_rules) l27 c27 k27,
    g_need_rules := PySem.W.mg_of X G a27,
    f_s1_matching := f28,
    d_s1_matching := _,
    F_s1_matching := fun_mk (st := S_s1_matching) l28 c28 k28,
    g_s1_matching := PySem.W.mg_of X G a28,
    f_s1_suffix := f29,
    d_s1_suffix := _,
    F_s1_suffix := fun_mk (st := S_s1_suffix) l29 c29 k29,
    g_s1_suffix := PySem.W.mg_of X G a29,
    f_s1_family := f30,
    d_s1_family := _,
    F_s1_family := fun_mk (st := S_s1_family) l30 c30 k30,
    g_s1_family := PySem.W.mg_of X G a30,
    f_need_both := f31,
    d_need_both := _,
    F_need_both := fun_mk (st := S_need_both) l31 c31 k31,
    g_need_both := PySem.W.mg_of X G a31,
    f_family_of := f32,
    d_family_of := _,
    F_family_of := fun_mk (st := S_family_of) l32 c32 k32,
    g_family_of := PySem.W.mg_of X G a32,
    f_s3_prefix := f33,
    d_s3_prefix := _,
    F_s3_prefix := fun_mk (st := S_s3_prefix) l33 c33 k33,
    g_s3_prefix := PySem.W.mg_of X G a33,
    f_s3_wrong_text := f34,
    d_s3_wrong_text := _,
    F_s3_wrong_text := fun_mk (st := S_s3_wrong_text) l34 c34 k34,
    g_s3_wrong_text := PySem.W.mg_of X G a34,
    f_s3_is_born := f35,
    d_s3_is_born := _,
    F_s3_is_born := fun_mk (st := S_s3_is_born) l35 c35 k35,
    g_s3_is_born := PySem.W.mg_of X G a35,
    f_s3_is_space := f36,
    d_s3_is_space := _,
    F_s3_is_space := fun_mk (st := S_s3_is_space) l36 c36 k36,
    g_s3_is_space := PySem.W.mg_of X G a36,
    f_s3_can_live := f37,
    d_s3_can_live := _,
    F_s3_can_live := fun_mk (st := S_s3_can_live) l37 c37 k37,
    g_s3_can_live := PySem.W.mg_of X G a37,
    f_s3_wrong_place := f38,
    d_s3_wrong_place := _,
    F_s3_wrong_place := fun_mk (st := S_s3_wrong_place) l38 c38 k38,
    g_s3_wrong_place := PySem.W.mg_of X G a38,
    f_s3_wrong_time := f39,
    d_s3_wrong_time := _,
    F_s3_wrong_time := fun_mk (st := S_s3_wrong_time) l39 c39 k39,
    g_s3_wrong_time := PySem.W.mg_of X G a39,
    f_s3_wrong_field := f40,
    d_s3_wrong_field := _,
    F_s3_wrong_field := fun_mk (st := S_s3_wrong_field) l40 c40 k40,
    g_s3_wrong_field := PySem.W.mg_of X G a40,
    f_Crumb_init := f41,
    d_Crumb_init := _,
    F_Crumb_init := fun_mk (st := S_Crumb_init) l41 c41 k41,
    ka_Crumb_init_born := ka41_born,
    kt_Crumb_init_born := fun H => .inr ⟨_, _, _, ke41_born, rfl, rfl, by show 2 ≤ sizeLine; decide, .cons ⟨_, rfl⟩ (.cons ⟨_, rfl⟩ (.nil))⟩,
    D_Crumb_init := ⟨⟨_, _, _, _, _, _, _, _, _, _, rfl, l41, c41, .inl ⟨rfl, rfl⟩, .inr ⟨_, rfl, kwsCons ⟨_, kw41_is_exact, rfl⟩ (kwsCons ⟨_, kw41_path, ⟨_, rfl⟩⟩ (kwsCons ⟨_, kw41_is_secure, rfl⟩ (kwsCons ⟨_, kw41_is_hidden, rfl⟩ (kwsCons ⟨_, kw41_same, ⟨_, rfl⟩⟩ (kwsCons ⟨_, kw41_priority, ⟨_, rfl⟩⟩ (kwsCons ⟨_, kw41_space, rfl⟩ (kwsCons ⟨_, kw41_born, rfl⟩ (kwsCons ⟨_, kw41_seen, ⟨_, rfl⟩⟩ (kwsCons ⟨_, kw41_ends, rfl⟩ (fun q hq => by cases hq))))))))))⟩⟩, k41⟩,
    f_Crumb_name := f42,
    d_Crumb_name := _,
    F_Crumb_name := fun_mk (st := S_Crumb_name) l42 c42 k42,
    f_Crumb_host := f43,
    d_Crumb_host := _,
    F_Crumb_host := fun_mk (st := S_Crumb_host) l43 c43 k43,
    f_Crumb_is_exact := f44,
    d_Crumb_is_exact := _,
    F_Crumb_is_exact := fun_mk (st := S_Crumb_is_exact) l44 c44 k44,
    f_Crumb_path := f45,
    d_Crumb_path := _,
    F_Crumb_path := fun_mk (st := S_Crumb_path) l45 c45 k45,
    f_Crumb_is_secure := f46,
    d_Crumb_is_secure := _,
    F_Crumb_is_secure := fun_mk (st := S_Crumb_is_secure) l46 c46 k46,
    f_Crumb_priority := f47,
    d_Crumb_priority := _,
    F_Crumb_priority := fun_mk (st := S_Crumb_priority) l47 c47 k47,
    f_Crumb_space := f48,
    d_Crumb_space := _,
    F_Crumb_space := fun_mk (st := S_Crumb_space) l48 c48 k48,
    f_Crumb_seen := f49,
    d_Crumb_seen := _,
    F_Crumb_seen := fun_mk (st := S_Crumb_seen) l49 c49 k49,
    f_Crumb_ends := f50,
    d_Crumb_ends := _,
    F_Crumb_ends := fun_mk (st := S_Crumb_ends) l50 c50 k50,
    f_Crumb_key := f51,
    d_Crumb_key := _,
    F_Crumb_key := fun_mk (st := S_Crumb_key) l51 c51 k51,
    f_need_crumb := f52,
    d_need_crumb := _,
    F_need_crumb := fun_mk (st := S_need_crumb) l52 c52 k52,
    g_need_crumb := PySem.W.mg_of X G a52,
    f_s3_has_ended := f53,
    d_s3_has_ended := _,
    F_s3_has_ended := fun_mk (st := S_s3_has_ended) l53 c53 k53,
    g_s3_has_ended := PySem.W.mg_of X G a53,
    f_has_ended := f54,
    d_has_ended := _,
    F_has_ended := fun_mk (st := S_has_ended) l54 c54 k54,
    g_has_ended := PySem.W.mg_of X G a54,
    f_rank_of := f55,
    d_rank_of := _,
    F_rank_of := fun_mk (st := S_rank_of) l55 c55 k55,
    g_rank_of := PySem.W.mg_of X G a55,
    f_group_of := f56,
    d_group_of := _,
    F_group_of := fun_mk (st := S_group_of) l56 c56 k56,
    g_group_of := PySem.W.mg_of X G a56,
    f_swept := f57,
    d_swept := _,
    F_swept := fun_mk (st := S_swept) l57 c57 k57,
    g_swept := PySem.W.mg_of X G a57,
    f_goes := f58,
    d_goes := _,
    F_goes := fun_mk (st := S_goes) l58 c58 k58,
    g_goes := PySem.W.mg_of X G a58,
    f__law_mixed := f59,
    d__law_mixed := _,
    F__law_mixed := fun_mk (st := S__law_mixed) l59 c59 k59,
    g__law_mixed := PySem.W.mg_of X G a59,
    f__law_draw := f60,
    d__law_draw := _,
    F__law_draw := fun_mk (st := S__law_draw) l60 c60 k60,
    g__law_draw := PySem.W.mg_of X G a60,
    f__law_digit := f61,
    d__law_digit := _,
    F__law_digit := fun_mk (st := S__law_digit) l61 c61 k61,
    g__law_digit := PySem.W.mg_of X G a61,
    f__law_crumb := f62,
    d__law_crumb := _,
    F__law_crumb := fun_mk (st := S__law_crumb) l62 c62 k62,
    g__law_crumb := PySem.W.mg_of X G a62,
    f__law_some_crumbs := f63,
    d__law_some_crumbs := _,
    F__law_some_crumbs := fun_mk (st := S__law_some_crumbs) l63 c63 k63,
    g__law_some_crumbs := PySem.W.mg_of X G a63,
    f__law_name_of := f64,
    d__law_name_of := _,
    F__law_name_of := fun_mk (st := S__law_name_of) l64 c64 k64,
    g__law_name_of := PySem.W.mg_of X G a64,
    f__law_out := f65,
    d__law_out := _,
    F__law_out := fun_mk (st := S__law_out) l65 c65 k65,
    g__law_out := PySem.W.mg_of X G a65,
    f__law_swept_right := f66,
    d__law_swept_right := _,
    F__law_swept_right := fun_mk (st := S__law_swept_right) l66 c66 k66,
    g__law_swept_right := PySem.W.mg_of X G a66,
    f__law_cell_right := f67,
    d__law_cell_right := _,
    F__law_cell_right := fun_mk (st := S__law_cell_right) l67 c67 k67,
    g__law_cell_right := PySem.W.mg_of X G a67,
    f_law := fa,
    d_law := _,
    F_law := fun_mk (st := S_law) l68 c68 k68,
    g_law := PySem.W.mg_of X G a68,
    c_LAST_TICK := ⟨_, PySem.W.mg_of X G v_LAST_TICK⟩,
    c_SMALL := ⟨_, PySem.W.mg_of X G v_SMALL⟩,
    c_GREAT := ⟨_, PySem.W.mg_of X G v_GREAT⟩,
    c_DIGITS := ⟨_, PySem.W.mg_of X G v_DIGITS⟩,
    c_MOST_SIGNS := ⟨_, PySem.W.mg_of X G v_MOST_SIGNS⟩,
    c_MOST_LABELS := ⟨_, PySem.W.mg_of X G v_MOST_LABELS⟩,
    c_MOST_LABEL := ⟨_, PySem.W.mg_of X G v_MOST_LABEL⟩,
    c_LABEL_SIGNS := ⟨_, PySem.W.mg_of X G v_LABEL_SIGNS⟩,
    c_MOST_PATH := ⟨_, PySem.W.mg_of X G v_MOST_PATH⟩,
    c_PATH_SIGNS := ⟨_, PySem.W.mg_of X G v_PATH_SIGNS⟩,
    c_MOST_AGE_pieces := ⟨_, PySem.W.mg_of X G v_MOST_AGE_pieces⟩,
    c_BLANKS := ⟨_, PySem.W.mg_of X G v_BLANKS⟩,
    c_MOST_LINE := ⟨_, PySem.W.mg_of X G v_MOST_LINE⟩,
    c_MOST_RULES := ⟨_, PySem.W.mg_of X G v_MOST_RULES⟩,
    c_MOST_AGE_crumbs := ⟨_, PySem.W.mg_of X G v_MOST_AGE_crumbs⟩,
    a_SCHEMES := ca_SCHEMES,
    q_SCHEMES := PySem.W.mg_of X G v_SCHEMES,
    s_SCHEMES := fun H => .inr ⟨_, _, _, l_SCHEMES, rfl, rfl, by show 2 ≤ sizeLine; decide, (.cons ⟨_, rfl⟩ (.cons ⟨_, rfl⟩ .nil))⟩,
    t_SCHEMES := fun H => .inr (.inl ⟨rfl, _, l_SCHEMES, rfl, rfl⟩),
    a_SAMES_pieces := ca_SAMES_pieces,
    q_SAMES_pieces := PySem.W.mg_of X G v_SAMES_pieces,
    s_SAMES_pieces := fun H => .inr ⟨_, _, _, l_SAMES_pieces, rfl, rfl, by show 3 ≤ sizeLine; decide, (.cons ⟨_, rfl⟩ (.cons ⟨_, rfl⟩ (.cons ⟨_, rfl⟩ .nil)))⟩,
    t_SAMES_pieces := fun H => .inr (.inl ⟨rfl, _, l_SAMES_pieces, rfl, rfl⟩),
    a_SAMES_crumbs := ca_SAMES_crumbs,
    q_SAMES_crumbs := PySem.W.mg_of X G v_SAMES_crumbs,
    s_SAMES_crumbs := fun H => .inr ⟨_, _, _, l_SAMES_crumbs, rfl, rfl, by show 4 ≤ sizeLine; decide, (.cons ⟨_, rfl⟩ (.cons ⟨_, rfl⟩ (.cons ⟨_, rfl⟩ (.cons ⟨_, rfl⟩ .nil))))⟩,
    t_SAMES_crumbs := fun H => .inr (.inl ⟨rfl, _, l_SAMES_crumbs, rfl, rfl⟩),
    a_PREFIXES := ca_PREFIXES,
    q_PREFIXES := PySem.W.mg_of X G v_PREFIXES,
    s_PREFIXES := fun H => .inr ⟨_, _, _, l_PREFIXES, rfl, rfl, by show 2 ≤ sizeLine; decide, (.cons ⟨_, rfl⟩ (.cons ⟨_, rfl⟩ .nil))⟩,
    t_PREFIXES := fun H => .inr (.inl ⟨rfl, _, l_PREFIXES, rfl, rfl⟩),
    C_BadTick := C_BadTick,
    I_BadTick := I_BadTick,
    E_BadTick := ⟨PySem.W.mg_of X G aC_BadTick, ⟨⟨⟨nm_BadTick, qn_BadTick, N_BadTick, bs_BadTick, bm_BadTick, sn_BadTick, sub_BadTick, ab_BadTick, col_BadTick, dd_BadTick, m0_BadTick, m1_BadTick, m2_BadTick, m3_BadTick, m5_BadTick, xL_BadTick, rv_BadTick⟩, sa_BadTick, xc_BadTick, ty_BadTick, ke_BadTick⟩, fi1_BadTick, ti_BadTick, me_BadTick, an_BadTick, up_BadTick, iv_BadTick, by decide +kernel⟩, ⟨_, _, _, _, _, _, _, _, _, _, _, _, _, _, _, _, _, _, _, l_BadTick, cd_BadTick, lc_BadTick, v2_BadTick, fl_BadTick, ll_BadTick⟩, no_BadTick, PySem.W.mg_none_of X G z_super, ⟨ga_BadTick, gg_BadTick, xc_BadTick, hd_BadTick⟩, ic_BadTick⟩,
    C_BadHost := C_BadHost,
    I_BadHost := I_BadHost,
    E_BadHost := ⟨PySem.W.mg_of X G aC_BadHost, ⟨⟨⟨nm_BadHost, qn_BadHost, N_BadHost, bs_BadHost, bm_BadHost, sn_BadHost, sub_BadHost, ab_BadHost, col_BadHost, dd_BadHost, m0_BadHost, m1_BadHost, m2_BadHost, m3_BadHost, m5_BadHost, xL_BadHost, rv_BadHost⟩, sa_BadHost, xc_BadHost, ty_BadHost, ke_BadHost⟩, fi1_BadHost, ti_BadHost, me_BadHost, an_BadHost, up_BadHost, iv_BadHost, by decide +kernel⟩, ⟨_, _, _, _, _, _, _, _, _, _, _, _, _, _, _, _, _, _, _, l_BadHost, cd_BadHost, lc_BadHost, v2_BadHost, fl_BadHost, ll_BadHost⟩, no_BadHost, PySem.W.mg_none_of X G z_super, ⟨ga_BadHost, gg_BadHost, xc_BadHost, hd_BadHost⟩, ic_BadHost⟩,
    C_BadLine := C_BadLine,
    I_BadLine := I_BadLine,
    E_BadLine := ⟨PySem.W.mg_of X G aC_BadLine, ⟨⟨⟨nm_BadLine, qn_BadLine, N_BadLine, bs_BadLine, bm_BadLine, sn_BadLine, sub_BadLine, ab_BadLine, col_BadLine, dd_BadLine, m0_BadLine, m1_BadLine, m2_BadLine, m3_BadLine, m5_BadLine, xL_BadLine, rv_BadLine⟩, sa_BadLine, xc_BadLine, ty_BadLine, ke_BadLine⟩, fi1_BadLine, ti_BadLine, me_BadLine, an_BadLine, up_BadLine, iv_BadLine, by decide +kernel⟩, ⟨_, _, _, _, _, _, _, _, _, _, _, _, _, _, _, _, _, _, _, l_BadLine, cd_BadLine, lc_BadLine, v2_BadLine, fl_BadLine, ll_BadLine⟩, no_BadLine, PySem.W.mg_none_of X G z_super, ⟨ga_BadLine, gg_BadLine, xc_BadLine, hd_BadLine⟩, ic_BadLine⟩,
    C_BadRules := C_BadRules,
    I_BadRules := I_BadRules,
    E_BadRules := ⟨PySem.W.mg_of X G aC_BadRules, ⟨⟨⟨nm_BadRules, qn_BadRules, N_BadRules, bs_BadRules, bm_BadRules, sn_BadRules, sub_BadRules, ab_BadRules, col_BadRules, dd_BadRules, m0_BadRules, m1_BadRules, m2_BadRules, m3_BadRules, m5_BadRules, xL_BadRules, rv_BadRules⟩, sa_BadRules, xc_BadRules, ty_BadRules, ke_BadRules⟩, fi1_BadRules, ti_BadRules, me_BadRules, an_BadRules, up_BadRules, iv_BadRules, by decide +kernel⟩, ⟨_, _, _, _, _, _, _, _, _, _, _, _, _, _, _, _, _, _, _, l_BadRules, cd_BadRules, lc_BadRules, v2_BadRules, fl_BadRules, ll_BadRules⟩, no_BadRules, PySem.W.mg_none_of X G z_super, ⟨ga_BadRules, gg_BadRules, xc_BadRules, hd_BadRules⟩, ic_BadRules⟩,
    C_BadCrumb := C_BadCrumb,
    I_BadCrumb := I_BadCrumb,
    E_BadCrumb := ⟨PySem.W.mg_of X G aC_BadCrumb, ⟨⟨⟨nm_BadCrumb, qn_BadCrumb, N_BadCrumb, bs_BadCrumb, bm_BadCrumb, sn_BadCrumb, sub_BadCrumb, ab_BadCrumb, col_BadCrumb, dd_BadCrumb, m0_BadCrumb, m1_BadCrumb, m2_BadCrumb, m3_BadCrumb, m5_BadCrumb, xL_BadCrumb, rv_BadCrumb⟩, sa_BadCrumb, xc_BadCrumb, ty_BadCrumb, ke_BadCrumb⟩, fi1_BadCrumb, ti_BadCrumb, me_BadCrumb, an_BadCrumb, up_BadCrumb, iv_BadCrumb, by decide +kernel⟩, ⟨_, _, _, _, _, _, _, _, _, _, _, _, _, _, _, _, _, _, _, l_BadCrumb, cd_BadCrumb, lc_BadCrumb, v2_BadCrumb, fl_BadCrumb, ll_BadCrumb⟩, no_BadCrumb, PySem.W.mg_none_of X G z_super, ⟨ga_BadCrumb, gg_BadCrumb, xc_BadCrumb, hd_BadCrumb⟩, ic_BadCrumb⟩,
    y_BadTick_BadHost := y_BadTick_BadHost,
    y_BadTick_BadLine := y_BadTick_BadLine,
    y_BadTick_BadRules := y_BadTick_BadRules,
    y_BadTick_BadCrumb := y_BadTick_BadCrumb,
    y_BadHost_BadTick := y_BadHost_BadTick,
    y_BadHost_BadLine := y_BadHost_BadLine,
    y_BadHost_BadRules := y_BadHost_BadRules,
    y_BadHost_BadCrumb := y_BadHost_BadCrumb,
    y_BadLine_BadTick := y_BadLine_BadTick,
    y_BadLine_BadHost := y_BadLine_BadHost,
    y_BadLine_BadRules := y_BadLine_BadRules,
    y_BadLine_BadCrumb := y_BadLine_BadCrumb,
    y_BadRules_BadTick := y_BadRules_BadTick,
    y_BadRules_BadHost := y_BadRules_BadHost,
    y_BadRules_BadLine := y_BadRules_BadLine,
    y_BadRules_BadCrumb := y_BadRules_BadCrumb,
    y_BadCrumb_BadTick := y_BadCrumb_BadTick,
    y_BadCrumb_BadHost := y_BadCrumb_BadHost,
    y_BadCrumb_BadLine := y_BadCrumb_BadLine,
    y_BadCrumb_BadRules := y_BadCrumb_BadRules,
    n_all := PySem.W.mg_none_of X G z_all,
    n_any := PySem.W.mg_none_of X G z_any,
    n_bool := PySem.W.mg_none_of X G z_bool,
    n_enumerate := PySem.W.mg_none_of X G z_enumerate,
    n_int := PySem.W.mg_none_of X G z_int,
    n_isinstance := PySem.W.mg_none_of X G z_isinstance,
    n_len := PySem.W.mg_none_of X G z_len,
    n_list := PySem.W.mg_none_of X G z_list,
    n_max := PySem.W.mg_none_of X G z_max,
    n_range := PySem.W.mg_none_of X G z_range,
    n_repr := PySem.W.mg_none_of X G z_repr,
    n_sorted := PySem.W.mg_none_of X G z_sorted,
    n_str := PySem.W.mg_none_of X G z_str,
    n_super := PySem.W.mg_none_of X G z_super,
    n_tuple := PySem.W.mg_none_of X G z_tuple,
    n_zip := PySem.W.mg_none_of X G z_zip }
  exact ⟨PySem.W.fnOf "law" "law" (defArgs S_law) (defBody S_law) (defScope S_law) .none kV68 dc68 pm68 an68 cd68 ct68, fun s v => .of_eq rfl, fun base _ _ => okz_law T⟩
end LawK45
open PySem PySem.W PyProof.Rows
set_option maxHeartbeats 0 in
theorem PySem.Challenge.cw_crumbjar_k45_limits_holds : PySem.Challenge.rw_crumbjar_k45_limits.Holds := by
  w_on; o_law; k_head; (case hw => w_witness2)
  k_fill
  refine Cj.walk_G (l := PySem.Challenge.rw_crumbjar_k45_limits) (n := 63) (k := 14) (x := "_law_script") (CX := fun _ => L2.CX0) (sp := fun w => LawK45.spz_law _) rfl (by decide) rfl ⟨rfl, by decide, by decide⟩ (fun w h Y => PySem.W.kIn_of Y) ?F (fun _ _ a ns hl _ hS => ⟨a, ns, rfl, hS, hl, fun _ => rfl⟩) (fun _ _ _ _ _ h => h)
  case F =>
    intro w mg fa h KX G hmg
    refine' LawK45.all_mk KX G hmg ?oC_Line ?opg_Line ?ohd_Line ?opo_Line ?osa_Line ?oha_Line ?ohn_Line ?otk_Line ?omo_Line ?ocl_Line ?oty_Line ?osN_Line ?osb_Line ?osi_Line ?oss_Line ?osl_Line ?ost_Line ?osd_Line ?omk_Line ?oin_Line ?ofn_Line ?okp_Line ?on_Line_line_settings ?oC_Crumb ?opg_Crumb ?ohd_Crumb ?opo_Crumb ?osa_Crumb ?oha_Crumb ?ohn_Crumb ?otk_Crumb ?omo_Crumb ?ocl_Crumb ?oty_Crumb ?osN_Crumb ?osb_Crumb ?osi_Crumb ?oss_Crumb ?osl_Crumb ?ost_Crumb ?osd_Crumb ?omk_Crumb ?oin_Crumb ?ofn_Crumb ?okp_Crumb ?on_Crumb_own_parts ?opa_Crumb_space ?opb_Crumb_space ?opc_Crumb_space ?opd_Crumb_space ?opa_Crumb_host ?opb_Crumb_host ?opc_Crumb_host ?opd_Crumb_host ?opa_Crumb_is_exact ?opb_Crumb_is_exact ?opc_Crumb_is_exact ?opd_Crumb_is_exact ?opa_Crumb_path ?opb_Crumb_path ?opc_Crumb_path ?opd_Crumb_path ?opa_Crumb_name ?opb_Crumb_name ?opc_Crumb_name ?opd_Crumb_name ?opa_Crumb_ends ?opb_Crumb_ends ?opc_Crumb_ends ?opd_Crumb_ends ?opa_Crumb_priority ?opb_Crumb_priority ?opc_Crumb_priority ?opd_Crumb_priority ?opa_Crumb_is_secure ?opb_Crumb_is_secure ?opc_Crumb_is_secure ?opd_Crumb_is_secure ?opa_Crumb_seen ?opb_Crumb_seen ?opc_Crumb_seen ?opd_Crumb_seen ?opa_Crumb_key ?opb_Crumb_key ?opc_Crumb_key ?opd_Crumb_key ?oz_Line_Crumb ?ozn_Line_Crumb ?oz_Crumb_Line ?ozn_Crumb_Line ?a0 ?l0 ?c0 ?k0 ?a1 ?l1 ?c1 ?k1 ?a2 ?l2 ?c2 ?k2 ?a3 ?l3 ?c3 ?k3 ?a4 ?l4 ?c4 ?k4 ?a5 ?l5 ?c5 ?k5 ?a6 ?l6 ?c6 ?k6 ?a7 ?l7 ?c7 ?k7 ?a8 ?l8 ?c8 ?k8 ?a9 ?l9 ?c9 ?k9 ?a10 ?l10 ?c10 ?k10 ?a11 ?l11 ?c11 ?k11 ?a12 ?l12 ?c12 ?k12 ?a13 ?l13 ?c13 ?k13 ?a14 ?l14 ?c14 ?k14 ?a15 ?l15 ?c15 ?k15 ?a16 ?l16 ?c16 ?k16 ?a17 ?l17 ?c17 ?k17 ?a18 ?l18 ?c18 ?k18 ?a19 ?l19 ?c19 ?k19 ?a20 ?l20 ?c20 ?k20 ?a21 ?l21 ?c21 ?k21 ?a22 ?l22 ?c22 ?k22 ?a23 ?l23 ?c23 ?k23 ?a24 ?l24 ?c24 ?k24 ?l25 ?c25 ?k25 ?kw25_expires ?kw25_age ?kw25_domain ?kw25_path ?kw25_is_secure ?kw25_is_hidden ?kw25_same ?kw25_is_partitioned ?kw25_priority ?a26 ?l26 ?c26 ?k26 ?a27 ?l27 ?c27 ?k27 ?a28 ?l28 ?c28 ?k28 ?a29 ?l29 ?c29 ?k29 ?a30 ?l30 ?c30 ?k30 ?a31 ?l31 ?c31 ?k31 ?a32 ?l32 ?c32 ?k32 ?a33 ?l33 ?c33 ?k33 ?a34 ?l34 ?c34 ?k34 ?a35 ?l35 ?c35 ?k35 ?a36 ?l36 ?c36 ?k36 ?a37 ?l37 ?c37 ?k37 ?a38 ?l38 ?c38 ?k38 ?a39 ?l39 ?c39 ?k39 ?a40 ?l40 ?c40 ?k40 ?l41 ?c41 ?k41 ?kw41_is_exact ?kw41_path ?kw41_is_secure ?kw41_is_hidden ?kw41_same ?kw41_priority ?kw41_space ?kw41_born ?ke41_born ?kw41_seen ?kw41_ends ?l42 ?c42 ?k42 ?l43 ?c43 ?k43 ?l44 ?c44 ?k44 ?l45 ?c45 ?k45 ?l46 ?c46 ?k46 ?l47 ?c47 ?k47 ?l48 ?c48 ?k48 ?l49 ?c49 ?k49 ?l50 ?c50 ?k50 ?l51 ?c51 ?k51 ?a52 ?l52 ?c52 ?k52 ?a53 ?l53 ?c53 ?k53 ?a54 ?l54 ?c54 ?k54 ?a55 ?l55 ?c55 ?k55 ?a56 ?l56 ?c56 ?k56 ?a57 ?l57 ?c57 ?k57 ?a58 ?l58 ?c58 ?k58 ?a59 ?l59 ?c59 ?k59 ?a60 ?l60 ?c60 ?k60 ?a61 ?l61 ?c61 ?k61 ?a62 ?l62 ?c62 ?k62 ?a63 ?l63 ?c63 ?k63 ?a64 ?l64 ?c64 ?k64 ?a65 ?l65 ?c65 ?k65 ?a66 ?l66 ?c66 ?k66 ?a67 ?l67 ?c67 ?k67 ?a68 ?l68 ?c68 ?k68 ?v_LAST_TICK ?v_SMALL ?v_GREAT ?v_DIGITS ?v_MOST_SIGNS ?v_MOST_LABELS ?v_MOST_LABEL ?v_LABEL_SIGNS ?v_MOST_PATH ?v_PATH_SIGNS ?v_MOST_AGE_pieces ?v_BLANKS ?v_MOST_LINE ?v_MOST_RULES ?v_MOST_AGE_crumbs ?v_SCHEMES ?l_SCHEMES ?v_SAMES_pieces ?l_SAMES_pieces ?v_SAMES_crumbs ?l_SAMES_crumbs ?v_PREFIXES ?l_PREFIXES ?aC_BadTick ?xL_BadTick ?rv_BadTick ?sa_BadTick ?ga_BadTick ?gg_BadTick ?no_BadTick ?fi1_BadTick ?ti_BadTick ?me_BadTick ?an_BadTick ?up_BadTick ?iv_BadTick ?xc_BadTick ?ty_BadTick ?ke_BadTick ?hd_BadTick ?ic_BadTick ?l_BadTick ?cd_BadTick ?lc_BadTick ?v2_BadTick ?fl_BadTick ?ll_BadTick ?aC_BadHost ?xL_BadHost ?rv_BadHost ?sa_BadHost ?ga_BadHost ?gg_BadHost ?no_BadHost ?fi1_BadHost ?ti_BadHost ?me_BadHost ?an_BadHost ?up_BadHost ?iv_BadHost ?xc_BadHost ?ty_BadHost ?ke_BadHost ?hd_BadHost ?ic_BadHost ?l_BadHost ?cd_BadHost ?lc_BadHost ?v2_BadHost ?fl_BadHost ?ll_BadHost ?aC_BadLine ?xL_BadLine ?rv_BadLine ?sa_BadLine ?ga_BadLine ?gg_BadLine ?no_BadLine ?fi1_BadLine ?ti_BadLine ?me_BadLine ?an_BadLine ?up_BadLine ?iv_BadLine ?xc_BadLine ?ty_BadLine ?ke_BadLine ?hd_BadLine ?ic_BadLine ?l_BadLine ?cd_BadLine ?lc_BadLine ?v2_BadLine ?fl_BadLine ?ll_BadLine ?aC_BadRules ?xL_BadRules ?rv_BadRules ?sa_BadRules ?ga_BadRules ?gg_BadRules ?no_BadRules ?fi1_BadRules ?ti_BadRules ?me_BadRules ?an_BadRules ?up_BadRules ?iv_BadRules ?xc_BadRules ?ty_BadRules ?ke_BadRules ?hd_BadRules ?ic_BadRules ?l_BadRules ?cd_BadRules ?lc_BadRules ?v2_BadRules ?fl_BadRules ?ll_BadRules ?aC_BadCrumb ?xL_BadCrumb ?rv_BadCrumb ?sa_BadCrumb ?ga_BadCrumb ?gg_BadCrumb ?no_BadCrumb ?fi1_BadCrumb ?ti_BadCrumb ?me_BadCrumb ?an_BadCrumb ?up_BadCrumb ?iv_BadCrumb ?xc_BadCrumb ?ty_BadCrumb ?ke_BadCrumb ?hd_BadCrumb ?ic_BadCrumb ?l_BadCrumb ?cd_BadCrumb ?lc_BadCrumb ?v2_BadCrumb ?fl_BadCrumb ?ll_BadCrumb ?y_BadTick_BadHost ?y_BadTick_BadLine ?y_BadTick_BadRules ?y_BadTick_BadCrumb ?y_BadHost_BadTick ?y_BadHost_BadLine ?y_BadHost_BadRules ?y_BadHost_BadCrumb ?y_BadLine_BadTick ?y_BadLine_BadHost ?y_BadLine_BadRules ?y_BadLine_BadCrumb ?y_BadRules_BadTick ?y_BadRules_BadHost ?y_BadRules_BadLine ?y_BadRules_BadCrumb ?y_BadCrumb_BadTick ?y_BadCrumb_BadHost ?y_BadCrumb_BadLine ?y_BadCrumb_BadRules ?z_all ?z_any ?z_bool ?z_enumerate ?z_int ?z_isinstance ?z_len ?z_list ?z_max ?z_range ?z_repr ?z_sorted ?z_str ?z_super ?z_tuple ?z_zip
    (case oC_Line => k_is)
    (case opg_Line => k_is)
    (case ohd_Line => k_is)
    (case opo_Line => k_is)
    (case osa_Line => k_is)
    (case oha_Line => k_is)
    (case ohn_Line => k_is)
    (case otk_Line => k_is)
    (case omo_Line => k_is)
    (case ocl_Line => k_is)
    (case oty_Line => k_is)
    (case osN_Line => k_is)
    (case osb_Line => k_is)
    (case osi_Line => k_is)
    (case oss_Line => k_is)
    (case osl_Line => k_is)
    (case ost_Line => k_is)
    (case osd_Line => k_is)
    (case omk_Line => k_is)
    (case oin_Line => k_is)
    (case ofn_Line => k_is)
    (case okp_Line => k_is)
    (case on_Line_line_settings => k_is)
    (case oC_Crumb => k_is)
    (case opg_Crumb => k_is)
    (case ohd_Crumb => k_is)
    (case opo_Crumb => k_is)
    (case osa_Crumb => k_is)
    (case oha_Crumb => k_is)
    (case ohn_Crumb => k_is)
    (case otk_Crumb => k_is)
    (case omo_Crumb => k_is)
    (case ocl_Crumb => k_is)
    (case oty_Crumb => k_is)
    (case osN_Crumb => k_is)
    (case osb_Crumb => k_is)
    (case osi_Crumb => k_is)
    (case oss_Crumb => k_is)
    (case osl_Crumb => k_is)
    (case ost_Crumb => k_is)
    (case osd_Crumb => k_is)
    (case omk_Crumb => k_is)
    (case oin_Crumb => k_is)
    (case ofn_Crumb => k_is)
    (case okp_Crumb => k_is)
    (case on_Crumb_own_parts => k_is)
    (case opa_Crumb_space => k_is)
    (case opb_Crumb_space => k_is)
    (case opc_Crumb_space => k_is)
    (case opd_Crumb_space => k_is)
    (case opa_Crumb_host => k_is)
    (case opb_Crumb_host => k_is)
    (case opc_Crumb_host => k_is)
    (case opd_Crumb_host => k_is)
    (case opa_Crumb_is_exact => k_is)
    (case opb_Crumb_is_exact => k_is)
    (case opc_Crumb_is_exact => k_is)
    (case opd_Crumb_is_exact => k_is)
    (case opa_Crumb_path => k_is)
    (case opb_Crumb_path => k_is)
    (case opc_Crumb_path => k_is)
    (case opd_Crumb_path => k_is)
    (case opa_Crumb_name => k_is)
    (case opb_Crumb_name => k_is)
    (case opc_Crumb_name => k_is)
    (case opd_Crumb_name => k_is)
    (case opa_Crumb_ends => k_is)
    (case opb_Crumb_ends => k_is)
    (case opc_Crumb_ends => k_is)
    (case opd_Crumb_ends => k_is)
    (case opa_Crumb_priority => k_is)
    (case opb_Crumb_priority => k_is)
    (case opc_Crumb_priority => k_is)
    (case opd_Crumb_priority => k_is)
    (case opa_Crumb_is_secure => k_is)
    (case opb_Crumb_is_secure => k_is)
    (case opc_Crumb_is_secure => k_is)
    (case opd_Crumb_is_secure => k_is)
    (case opa_Crumb_seen => k_is)
    (case opb_Crumb_seen => k_is)
    (case opc_Crumb_seen => k_is)
    (case opd_Crumb_seen => k_is)
    (case opa_Crumb_key => k_is)
    (case opb_Crumb_key => k_is)
    (case opc_Crumb_key => k_is)
    (case opd_Crumb_key => k_is)
    (case oz_Line_Crumb => k_is)
    (case ozn_Line_Crumb => exact rfl)
    (case oz_Crumb_Line => k_is)
    (case ozn_Crumb_Line => exact rfl)
    (case a0 => k_is)
    (case l0 => k_is)
    (case c0 => k_is)
    (case k0 => k_is)
    (case a1 => k_is)
    (case l1 => k_is)
    (case c1 => k_is)
    (case k1 => k_is)
    (case a2 => k_is)
    (case l2 => k_is)
    (case c2 => k_is)
    (case k2 => k_is)
    (case a3 => k_is)
    (case l3 => k_is)
    (case c3 => k_is)
    (case k3 => k_is)
    (case a4 => k_is)
    (case l4 => k_is)
    (case c4 => k_is)
    (case k4 => k_is)
    (case a5 => k_is)
    (case l5 => k_is)
    (case c5 => k_is)
    (case k5 => k_is)
    (case a6 => k_is)
    (case l6 => k_is)
    (case c6 => k_is)
    (case k6 => k_is)
    (case a7 => k_is)
    (case l7 => k_is)
    (case c7 => k_is)
    (case k7 => k_is)
    (case a8 => k_is)
    (case l8 => k_is)
    (case c8 => k_is)
    (case k8 => k_is)
    (case a9 => k_is)
    (case l9 => k_is)
    (case c9 => k_is)
    (case k9 => k_is)
    (case a10 => k_is)
    (case l10 => k_is)
    (case c10 => k_is)
    (case k10 => k_is)
    (case a11 => k_is)
    (case l11 => k_is)
    (case c11 => k_is)
    (case k11 => k_is)
    (case a12 => k_is)
    (case l12 => k_is)
    (case c12 => k_is)
    (case k12 => k_is)
    (case a13 => k_is)
    (case l13 => k_is)
    (case c13 => k_is)
    (case k13 => k_is)
    (case a14 => k_is)
    (case l14 => k_is)
    (case c14 => k_is)
    (case k14 => k_is)
    (case a15 => k_is)
    (case l15 => k_is)
    (case c15 => k_is)
    (case k15 => k_is)
    (case a16 => k_is)
    (case l16 => k_is)
    (case c16 => k_is)
    (case k16 => k_is)
    (case a17 => k_is)
    (case l17 => k_is)
    (case c17 => k_is)
    (case k17 => k_is)
    (case a18 => k_is)
    (case l18 => k_is)
    (case c18 => k_is)
    (case k18 => k_is)
    (case a19 => k_is)
    (case l19 => k_is)
    (case c19 => k_is)
    (case k19 => k_is)
    (case a20 => k_is)
    (case l20 => k_is)
    (case c20 => k_is)
    (case k20 => k_is)
    (case a21 => k_is)
    (case l21 => k_is)
    (case c21 => k_is)
    (case k21 => k_is)
    (case a22 => k_is)
    (case l22 => k_is)
    (case c22 => k_is)
    (case k22 => k_is)
    (case a23 => k_is)
    (case l23 => k_is)
    (case c23 => k_is)
    (case k23 => k_is)
    (case a24 => k_is)
    (case l24 => k_is)
    (case c24 => k_is)
    (case k24 => k_is)
    (case l25 => k_is)
    (case c25 => k_is)
    (case k25 => k_is)
    (case kw25_expires => k_is)
    (case kw25_age => k_is)
    (case kw25_domain => k_is)
    (case kw25_path => k_is)
    (case kw25_is_secure => k_is)
    (case kw25_is_hidden => k_is)
    (case kw25_same => k_is)
    (case kw25_is_partitioned => k_is)
    (case kw25_priority => k_is)
    (case a26 => k_is)
    (case l26 => k_is)
    (case c26 => k_is)
    (case k26 => k_is)
    (case a27 => k_is)
    (case l27 => k_is)
    (case c27 => k_is)
    (case k27 => k_is)
    (case a28 => k_is)
    (case l28 => k_is)
    (case c28 => k_is)
    (case k28 => k_is)
    (case a29 => k_is)
    (case l29 => k_is)
    (case c29 => k_is)
    (case k29 => k_is)
    (case a30 => k_is)
    (case l30 => k_is)
    (case c30 => k_is)
    (case k30 => k_is)
    (case a31 => k_is)
    (case l31 => k_is)
    (case c31 => k_is)
    (case k31 => k_is)
    (case a32 => k_is)
    (case l32 => k_is)
    (case c32 => k_is)
    (case k32 => k_is)
    (case a33 => k_is)
    (case l33 => k_is)
    (case c33 => k_is)
    (case k33 => k_is)
    (case a34 => k_is)
    (case l34 => k_is)
    (case c34 => k_is)
    (case k34 => k_is)
    (case a35 => k_is)
    (case l35 => k_is)
    (case c35 => k_is)
    (case k35 => k_is)
    (case a36 => k_is)
    (case l36 => k_is)
    (case c36 => k_is)
    (case k36 => k_is)
    (case a37 => k_is)
    (case l37 => k_is)
    (case c37 => k_is)
    (case k37 => k_is)
    (case a38 => k_is)
    (case l38 => k_is)
    (case c38 => k_is)
    (case k38 => k_is)
    (case a39 => k_is)
    (case l39 => k_is)
    (case c39 => k_is)
    (case k39 => k_is)
    (case a40 => k_is)
    (case l40 => k_is)
    (case c40 => k_is)
    (case k40 => k_is)
    (case l41 => k_is)
    (case c41 => k_is)
    (case k41 => k_is)
    (case kw41_is_exact => k_is)
    (case kw41_path => k_is)
    (case kw41_is_secure => k_is)
    (case kw41_is_hidden => k_is)
    (case kw41_same => k_is)
    (case kw41_priority => k_is)
    (case kw41_space => k_is)
    (case kw41_born => k_is)
    (case ke41_born => k_is)
    (case kw41_seen => k_is)
    (case kw41_ends => k_is)
    (case l42 => k_is)
    (case c42 => k_is)
    (case k42 => k_is)
    (case l43 => k_is)
    (case c43 => k_is)
    (case k43 => k_is)
    (case l44 => k_is)
    (case c44 => k_is)
    (case k44 => k_is)
    (case l45 => k_is)
    (case c45 => k_is)
    (case k45 => k_is)
    (case l46 => k_is)
    (case c46 => k_is)
    (case k46 => k_is)
    (case l47 => k_is)
    (case c47 => k_is)
    (case k47 => k_is)
    (case l48 => k_is)
    (case c48 => k_is)
    (case k48 => k_is)
    (case l49 => k_is)
    (case c49 => k_is)
    (case k49 => k_is)
    (case l50 => k_is)
    (case c50 => k_is)
    (case k50 => k_is)
    (case l51 => k_is)
    (case c51 => k_is)
    (case k51 => k_is)
    (case a52 => k_is)
    (case l52 => k_is)
    (case c52 => k_is)
    (case k52 => k_is)
    (case a53 => k_is)
    (case l53 => k_is)
    (case c53 => k_is)
    (case k53 => k_is)
    (case a54 => k_is)
    (case l54 => k_is)
    (case c54 => k_is)
    (case k54 => k_is)
    (case a55 => k_is)
    (case l55 => k_is)
    (case c55 => k_is)
    (case k55 => k_is)
    (case a56 => k_is)
    (case l56 => k_is)
    (case c56 => k_is)
    (case k56 => k_is)
    (case a57 => k_is)
    (case l57 => k_is)
    (case c57 => k_is)
    (case k57 => k_is)
    (case a58 => k_is)
    (case l58 => k_is)
    (case c58 => k_is)
    (case k58 => k_is)
    (case a59 => k_is)
    (case l59 => k_is)
    (case c59 => k_is)
    (case k59 => k_is)
    (case a60 => k_is)
    (case l60 => k_is)
    (case c60 => k_is)
    (case k60 => k_is)
    (case a61 => k_is)
    (case l61 => k_is)
    (case c61 => k_is)
    (case k61 => k_is)
    (case a62 => k_is)
    (case l62 => k_is)
    (case c62 => k_is)
    (case k62 => k_is)
    (case a63 => k_is)
    (case l63 => k_is)
    (case c63 => k_is)
    (case k63 => k_is)
    (case a64 => k_is)
    (case l64 => k_is)
    (case c64 => k_is)
    (case k64 => k_is)
    (case a65 => k_is)
    (case l65 => k_is)
    (case c65 => k_is)
    (case k65 => k_is)
    (case a66 => k_is)
    (case l66 => k_is)
    (case c66 => k_is)
    (case k66 => k_is)
    (case a67 => k_is)
    (case l67 => k_is)
    (case c67 => k_is)
    (case k67 => k_is)
    (case a68 => k_is)
    (case l68 => k_is)
    (case c68 => k_is)
    (case k68 => k_is)
    (case v_LAST_TICK => k_is)
    (case v_SMALL => k_is)
    (case v_GREAT => k_is)
    (case v_DIGITS => k_is)
    (case v_MOST_SIGNS => k_is)
    (case v_MOST_LABELS => k_is)
    (case v_MOST_LABEL => k_is)
    (case v_LABEL_SIGNS => k_is)
    (case v_MOST_PATH => k_is)
    (case v_PATH_SIGNS => k_is)
    (case v_MOST_AGE_pieces => k_is)
    (case v_BLANKS => k_is)
    (case v_MOST_LINE => k_is)
    (case v_MOST_RULES => k_is)
    (case v_MOST_AGE_crumbs => k_is)
    (case v_SCHEMES => k_is)
    (case l_SCHEMES => k_is)
    (case v_SAMES_pieces => k_is)
    (case l_SAMES_pieces => k_is)
    (case v_SAMES_crumbs => k_is)
    (case l_SAMES_crumbs => k_is)
    (case v_PREFIXES => k_is)
    (case l_PREFIXES => k_is)
    (case aC_BadTick => k_is)
    (case xL_BadTick => k_is)
    (case rv_BadTick => decide +kernel)
    (case sa_BadTick => k_is)
    (case ga_BadTick => k_is)
    (case gg_BadTick => k_is)
    (case no_BadTick => k_is)
    (case fi1_BadTick => k_is)
    (case ti_BadTick => k_is)
    (case me_BadTick => k_is)
    (case an_BadTick => k_is)
    (case up_BadTick => ks_is)
    (case iv_BadTick => k_is)
    (case xc_BadTick => k_is)
    (case ty_BadTick => k_is)
    (case ke_BadTick => k_is)
    (case hd_BadTick => k_is)
    (case ic_BadTick => k_is)
    (case l_BadTick => k_is)
    (case cd_BadTick => k_is)
    (case lc_BadTick => k_is)
    (case v2_BadTick => exact rfl)
    (case fl_BadTick => decide +kernel)
    (case ll_BadTick => k_is)
    (case aC_BadHost => k_is)
    (case xL_BadHost => k_is)
    (case rv_BadHost => decide +kernel)
    (case sa_BadHost => k_is)
    (case ga_BadHost => k_is)
    (case gg_BadHost => k_is)
    (case no_BadHost => k_is)
    (case fi1_BadHost => k_is)
    (case ti_BadHost => k_is)
    (case me_BadHost => k_is)
    (case an_BadHost => k_is)
    (case up_BadHost => ks_is)
    (case iv_BadHost => k_is)
    (case xc_BadHost => k_is)
    (case ty_BadHost => k_is)
    (case ke_BadHost => k_is)
    (case hd_BadHost => k_is)
    (case ic_BadHost => k_is)
    (case l_BadHost => k_is)
    (case cd_BadHost => k_is)
    (case lc_BadHost => k_is)
    (case v2_BadHost => exact rfl)
    (case fl_BadHost => decide +kernel)
    (case ll_BadHost => k_is)
    (case aC_BadLine => k_is)
    (case xL_BadLine => k_is)
    (case rv_BadLine => decide +kernel)
    (case sa_BadLine => k_is)
    (case ga_BadLine => k_is)
    (case gg_BadLine => k_is)
    (case no_BadLine => k_is)
    (case fi1_BadLine => k_is)
    (case ti_BadLine => k_is)
    (case me_BadLine => k_is)
    (case an_BadLine => k_is)
    (case up_BadLine => ks_is)
    (case iv_BadLine => k_is)
    (case xc_BadLine => k_is)
    (case ty_BadLine => k_is)
    (case ke_BadLine => k_is)
    (case hd_BadLine => k_is)
    (case ic_BadLine => k_is)
    (case l_BadLine => k_is)
    (case cd_BadLine => k_is)
    (case lc_BadLine => k_is)
    (case v2_BadLine => exact rfl)
    (case fl_BadLine => decide +kernel)
    (case ll_BadLine => k_is)
    (case aC_BadRules => k_is)
    (case xL_BadRules => k_is)
    (case rv_BadRules => decide +kernel)
    (case sa_BadRules => k_is)
    (case ga_BadRules => k_is)
    (case gg_BadRules => k_is)
    (case no_BadRules => k_is)
    (case fi1_BadRules => k_is)
    (case ti_BadRules => k_is)
    (case me_BadRules => k_is)
    (case an_BadRules => k_is)
    (case up_BadRules => ks_is)
    (case iv_BadRules => k_is)
    (case xc_BadRules => k_is)
    (case ty_BadRules => k_is)
    (case ke_BadRules => k_is)
    (case hd_BadRules => k_is)
    (case ic_BadRules => k_is)
    (case l_BadRules => k_is)
    (case cd_BadRules => k_is)
    (case lc_BadRules => k_is)
    (case v2_BadRules => exact rfl)
    (case fl_BadRules => decide +kernel)
    (case ll_BadRules => k_is)
    (case aC_BadCrumb => k_is)
    (case xL_BadCrumb => k_is)
    (case rv_BadCrumb => decide +kernel)
    (case sa_BadCrumb => k_is)
    (case ga_BadCrumb => k_is)
    (case gg_BadCrumb => k_is)
    (case no_BadCrumb => k_is)
    (case fi1_BadCrumb => k_is)
    (case ti_BadCrumb => k_is)
    (case me_BadCrumb => k_is)
    (case an_BadCrumb => k_is)
    (case up_BadCrumb => ks_is)
    (case iv_BadCrumb => k_is)
    (case xc_BadCrumb => k_is)
    (case ty_BadCrumb => k_is)
    (case ke_BadCrumb => k_is)
    (case hd_BadCrumb => k_is)
    (case ic_BadCrumb => k_is)
    (case l_BadCrumb => k_is)
    (case cd_BadCrumb => k_is)
    (case lc_BadCrumb => k_is)
    (case v2_BadCrumb => exact rfl)
    (case fl_BadCrumb => decide +kernel)
    (case ll_BadCrumb => k_is)
    (case y_BadTick_BadHost => k_is)
    (case y_BadTick_BadLine => k_is)
    (case y_BadTick_BadRules => k_is)
    (case y_BadTick_BadCrumb => k_is)
    (case y_BadHost_BadTick => k_is)
    (case y_BadHost_BadLine => k_is)
    (case y_BadHost_BadRules => k_is)
    (case y_BadHost_BadCrumb => k_is)
    (case y_BadLine_BadTick => k_is)
    (case y_BadLine_BadHost => k_is)
    (case y_BadLine_BadRules => k_is)
    (case y_BadLine_BadCrumb => k_is)
    (case y_BadRules_BadTick => k_is)
    (case y_BadRules_BadHost => k_is)
    (case y_BadRules_BadLine => k_is)
    (case y_BadRules_BadCrumb => k_is)
    (case y_BadCrumb_BadTick => k_is)
    (case y_BadCrumb_BadHost => k_is)
    (case y_BadCrumb_BadLine => k_is)
    (case y_BadCrumb_BadRules => k_is)
    (case z_all => k_is)
    (case z_any => k_is)
    (case z_bool => k_is)
    (case z_enumerate => k_is)
    (case z_int => k_is)
    (case z_isinstance => k_is)
    (case z_len => k_is)
    (case z_list => k_is)
    (case z_max => k_is)
    (case z_range => k_is)
    (case z_repr => k_is)
    (case z_sorted => k_is)
    (case z_str => k_is)
    (case z_super => k_is)
    (case z_tuple => k_is)
    (case z_zip => k_is)
