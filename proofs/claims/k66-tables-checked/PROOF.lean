import PyProof.Rows.All
import Wide.All
import OpenK.AllK
import Wide.FinOn
import HandS.ForMost
import HandS.Codes
import HandS.Walk
import HandS.Flow
import HandS.IsInst
import HandS.StrMore
import HandS.Style
import HandS.TupAny
import HandS.WordsExc
import HandS.Replace
import HandS.ReplaceLit
import HandS.ReplaceDef
import HandS.ReplaceList
import HandS.Star
import HandS.Strs
import HandS.More
import HandS.SortKw
import HandS.TupMul
import KE.GoesEnumKw
import KE.GoesEnum
import KE.KMinKey
import HandS.ExcSuper
import HandS.TryMany
import HandS.TupLe
import PyProof.FString5
import HandS.RaiseMore
import HandS.Wide
import PyProof.ReprRoads
import HandS.Nested
import KE.KExcSuper
import HandS.ExcInit
import HandS.ExcField
import HandS.Deep
import PyProof.StrBlock2
import KE.KIntText
import KE.GoesMore
import PyProof.StrLawsFirst
import HandS.Property
import HandS.MakeKwOnly
import HandS.Small
import PyProof.DictUpdate
import KE.KDictOf
import HandS.Sort
import HandS.Conv
import KE.KDictList
import HandS.DictEq
import KE.KExcIs
import HandS.ExcIs
import HandS.IterVal
import HandS.Lambda
import HandS.EndTab
import KE.KNestM
import KE.KDflt
import HandS.Flt
import PySem.Challenge.RW_crumbjar_k66_tables_checked
set_option Elab.async false
set_option linter.all false
set_option maxRecDepth 100000
set_option maxHeartbeats 4000000
namespace Cj
open PySem PySem.Spec PyProof.Rows L2
/-! the rules that lean on the written part, told with K (a comprehension's block has the same K) -/
section
variable {X : Cx} {K : PySem.W.Frag}
theorem kIxL (h : X.K = K) : IxR X (rIxL K) := by subst h; exact ix_list
theorem kIxT (h : X.K = K) : IxR X (rIxT K) := by subst h; exact ix_tup
theorem kSlL (h : X.K = K) : SlR X (rSlL K) := by subst h; exact sl_list
theorem kSlA (h : X.K = K) : SlR X (rSlA K) := by subst h; exact sl_tupA
theorem kIn (h : X.K = K) : OpR X (compareOp .In) (rIn K false) := by subst h; exact op_in_seq
theorem kNi (h : X.K = K) : OpR X (compareOp .NotIn) (rIn K true) := by subst h; exact op_notIn_seq
theorem kEq (h : X.K = K) (hu : X.A.units + 64 < cLine) : OpR X (compareOp .Eq) (rEqD K) := by subst h; exact op_eqD hu
theorem kNe (h : X.K = K) (hu : X.A.units + 64 < cLine) : OpR X (compareOp .NotEq) (rNeD K) := by subst h; exact op_neD hu
theorem kCatA (h : X.K = K) : OpR X (binaryOp .Add) (rCatA K) := by subst h; exact op_catA
def rLenQ (K : PySem.W.Frag) : List V → Hp → VK → Prop := fun xs H Q => ∃ p ys, xs = [.ref p] ∧ (SqL K H p ys ∨ SqT K H p ys) ∧ Q (.int ys.length) H
theorem kLen (h : X.K = K) : CallR X (.builtin "len") (rLenQ K) := by subst h; exact call_len_seq
theorem kSum (h : X.K = K) (hc : X.calm = true) : CallR X (.builtin "sum") (rSum K) := by subst h; exact cr_sum hc
theorem kAll (h : X.K = K) (hc : X.calm = true) : CallR X (.builtin "all") (rAll K) := by subst h; exact cr_all hc
theorem kAny (h : X.K = K) (hc : X.calm = true) : CallR X (.builtin "any") (rAny K) := by subst h; exact cr_any hc
theorem kMax (h : X.K = K) (hc : X.calm = true) : CallR X (.builtin "max") (rMax K) := by subst h; exact cr_max hc
theorem kMin (h : X.K = K) (hc : X.calm = true) : CallR X (.builtin "min") (rMin K) := by subst h; exact cr_min hc
theorem kIsi (h : X.K = K) : CallR X (.builtin "isinstance") (rIsi K) := by subst h; exact call_isi
def rTupQ (K : PySem.W.Frag) : List V → Hp → VK → Prop := fun xs H Q => ∃ p ys, xs = [.ref p] ∧ ((SqL K H p ys ∧ ∀ l, H l = none → Q (.ref l) (upd H l (.tup ys))) ∨ (SqT K H p ys ∧ Q (.ref p) H))
theorem kTup (h : X.K = K) : CallR X (.type "tuple") (rTupQ K) := by subst h; exact call_tuple_of
def rLstQ (K : PySem.W.Frag) : List V → Hp → VK → Prop := fun xs H Q => ∃ p ys, xs = [.ref p] ∧ (SqL K H p ys ∨ SqT K H p ys) ∧ ∀ l, H l = none → Q (.ref l) (upd H l (.lst ys))
theorem kLst (h : X.K = K) : CallR X (.type "list") (rLstQ K) := by subst h; exact call_list_of
def rJoinQ (K : PySem.W.Frag) : V → List V → Hp → VK → Prop := fun x xs H Q => ∃ a p, ∃ ys : List Str, x = .str a ∧ xs = [.ref p] ∧ (SqL K H p (ys.map V.str) ∨ SqT K H p (ys.map V.str)) ∧ (ys.map (·.length)).sum + ys.length * a.length ≤ 16777216 ∧ Q (.str (Txt.join a ys)) H
theorem kJoin (h : X.K = K) : MtR X "str.join" (rJoinQ K) := by subst h; exact mt_join
theorem kSorted (h : X.K = K) : CallR X (.builtin "sorted") (rSorted K) := by subst h; exact cr_sorted
theorem kSortedS (h : X.K = K) : CallR X (.builtin "sorted") (rSortedS K) := by subst h; exact cr_sortedS
variable {tg a b e l : Expr} {ta tb tl : TE} {tas : TA} {rest : List Expr} {p pos tpos : Pos} {elts : List Expr} {kk : Nat}
theorem kpList (h : X.K = K) (hl : PE X l tl) : PI X tg l (iList K tl) := by subst h; exact pi_list hl
theorem kpTup (h : X.K = K) (hl : PE X l tl) : PI X tg l (iTup K tl) := by subst h; exact pi_tup hl
theorem kpEnum (h : X.K = K) (hg : Gl X "enumerate") (hm : X.mg "enumerate" = none) (ha : PA X [e] tas) (hs : starEach [e] X.env = [(false, eval e X.env)] := by rfl) :
    PI X (.Tuple elts kk tpos) (.Call (.Name "enumerate" p) [e] [] pos) (iEnum K tas) := by subst h; exact pi_enum hg hm ha hs
theorem keOr (h : X.K = K) (ha : PE X a ta) (hb : PE X (.BoolOp .Or (b :: rest) pos) tb) : PE X (.BoolOp .Or (a :: b :: rest) pos) (tOrT K ta tb) := by subst h; exact pe_orT ha hb
theorem keAnd (h : X.K = K) (ha : PE X a ta) (hb : PE X (.BoolOp .And (b :: rest) pos) tb) : PE X (.BoolOp .And (a :: b :: rest) pos) (tAndT K ta tb) := by subst h; exact pe_andT ha hb
theorem keNot (h : X.K = K) (ha : PE X a ta) : PE X (.UnaryOp .Not a pos) (tNotT K ta) := by subst h; exact pe_notT ha
def tTruQ (K : PySem.W.Frag) (ta : TE) : TT := fun σ H Q => ta σ H fun x H' => ∃ k, TruV K x H' k ∧ Q k H'
theorem ktTru (h : X.K = K) (ha : PE X a ta) (he : ∀ whole, isTrue a X.env whole = (do let v ← whole; standAt a.pos; holding [v] (truthy v)) := by intro _; rfl) : PT X a (tTruQ K ta) := by subst h; exact pt_truth ha he
theorem kgTup {es : List Expr} {k : Nat} {t : TGs} {n : Nat} {pos : Pos} (h : X.K = K) (hc : X.calm = true) (hp : PGs X es t) (hn : (assignEach es X.env).length = n) (hst : (assignEach es X.env).findIdx? (·.1) = none) : PG X (.Tuple es k pos) (gTup K n t) := by subst h; exact pg_tup hc hp hn hst
theorem kBm {o e : Expr} {es : List Expr} {to : TE} {t : TA} {name : Str} {apos cpos : Pos} {T id : String} {r : V → List V → Hp → VK → Prop} (h : X.K = K) (pa : PlainAttrs T) (slot : Slot T name id) (hty : typeOf (.builtin id) = pure (.type "method_descriptor")) (hm : MtR X id r) (ho : PE X o to) (ha : PA X (e :: es) t)
    (hb : attributeBase o name X.env (eval o X.env) = eval o X.env := by rfl)
    (hf : ((backTo cpos (starEach (e :: es) X.env)).all (fun x => !x.1) && (backToKw cpos (keywordEach [] X.env)).all (fun x => x.1.isSome) && decide ((e :: es).length + ([] : List Keyword).length + (if ([] : List Keyword).isEmpty then 0 else 1) < 30)) = true := by rfl)
    (hl : (apos.endLine == cpos.line) = true := by rfl) (hs : starEach (e :: es) X.env = (false, eval e X.env) :: starEach es X.env := by rfl) (hp : (backTo cpos (starEach es X.env)).any (·.1) = false := by rfl) :
    PE X (.Call (.Attribute o name apos) (e :: es) [] cpos) (tBM K T r to t) := by subst h; exact pe_bm pa slot hty hm ho ha hb hf hl hs hp
end

/-- all that was tracked but d is as it was -/
def Sx (d : Addr) (H H' : Hp) : Prop := ∀ b o, b ≠ d → H b = some o → H' b = some o
theorem Sx.refl (d : Addr) (H : Hp) : Sx d H H := fun _ _ _ h => h
theorem Sx.trans {d : Addr} {H H1 H2 : Hp} (a : Sx d H H1) (b : Sx d H1 H2) : Sx d H H2 := fun c o n h => b c o n (a c o n h)
theorem Sx.of {d : Addr} {H H' : Hp} (a : Same H H') : Sx d H H' := fun b o _ h => a b o h
theorem Sx.seq {K : PySem.W.Frag} {d : Addr} {H H' : Hp} {a : Addr} {xs : List V} (e : Sx d H H') (n : a ≠ d) (h : SqL K H a xs) : SqL K H' a xs := by
  rcases h with (h | ⟨o, h⟩) | h
  · exact .inl (.inl (e _ _ n h))
  · exact .inl (.inr ⟨o, e _ _ n h⟩)
  · exact .inr h
theorem same_upd {H : Hp} {p : Addr} {o : HO} (h : H p = none) : Same H (upd H p o) := fun b x e => by
  rw [upd_ne (ne_of_none e h)]
  exact e
theorem same_back {H H' : Hp} {p : Addr} (e : Same H H') (h : H' p = none) : H p = none := e.free h
/-- the source of drawn numbers stands at d, having turned n times at most -/
def Dr (d : Addr) (n : Nat) (H : Hp) : Prop := ∃ left cell turns : Int,
  H d = some (.dK [(.inr ("left" : Str), .int left), (.inr ("cell" : Str), .int cell), (.inr ("turns" : Str), .int turns)]) ∧ 0 ≤ turns ∧ turns ≤ n
theorem Dr.mono {d : Addr} {n m : Nat} {H : Hp} (h : Dr d n H) (e : n ≤ m) : Dr d m H := by
  obtain ⟨a, b, c, h1, h2, h3⟩ := h
  exact ⟨a, b, c, h1, h2, by omega⟩
theorem Dr.same {d : Addr} {n : Nat} {H H' : Hp} (h : Dr d n H) (e : Same H H') : Dr d n H' := by
  obtain ⟨a, b, c, h1, h2, h3⟩ := h
  exact ⟨a, b, c, e _ _ h1, h2, h3⟩
theorem Dr.ne {d p : Addr} {n : Nat} {H : Hp} (h : Dr d n H) (e : H p = none) : p ≠ d := by
  obtain ⟨a, b, c, h1, _⟩ := h
  exact (ne_of_none h1 e).symm
theorem same_sx {d : Addr} {H0 Ha Hb Hc : Hp} (a : Same H0 Ha) (n : Ha d = none) (b : Same Ha Hb) (c : Sx d Hb Hc) : Same H0 Hc := fun x o h => c x o (ne_of_none (a x o h) n) (b x o (a x o h))
theorem Sx.upd {d : Addr} {H H' : Hp} {o : HO} (e : Sx d H H') : Sx d H (upd H' d o) := fun b x n h => by
  rw [upd_ne n]
  exact e b x n h

open SX (S S_len S_cat S_inj)
theorem ifT {c : Bool} {A B : Prop} (hc : c = true) (h : A) : if c = true then A else B := by
  rw [if_pos hc]
  exact h
theorem ifF {c : Bool} {A B : Prop} (hc : c = false) (h : B) : if c = true then A else B := by
  rw [hc, if_neg Bool.false_ne_true]
  exact h
theorem if2 {c : Bool} {A B : Prop} (h1 : c = true → A) (h2 : c = false → B) : if c = true then A else B := by
  cases c with
  | true => exact ifT rfl (h1 rfl)
  | false => exact ifF rfl (h2 rfl)
theorem dS (a b : List Nat) : decide (V.str (S a) = V.str (S b)) = decide (a = b) := by
  by_cases e : a = b
  · subst e
    rw [decide_eq_true rfl, decide_eq_true rfl]
  · rw [decide_eq_false e, decide_eq_false fun z => e (S_inj (V.str.inj z))]
theorem dI (a b : Int) : decide (V.int a = V.int b) = decide (a = b) := by
  by_cases e : a = b
  · subst e
    rw [decide_eq_true rfl, decide_eq_true rfl]
  · rw [decide_eq_false e, decide_eq_false fun z => e (V.int.inj z)]
theorem dB (a b : Bool) : decide (V.bl a = V.bl b) = (a == b) := by
  cases a <;> cases b <;> rfl
theorem ndB (a : Bool) : (!decide (V.bl a = V.bl a)) = false := by
  rw [decide_eq_true rfl]
  rfl
/-- sizes -/
theorem szS {l : List Nat} (h : l.length ≤ 100000) : (S l).length ≤ sizeLine := by
  rw [S_len]
  exact Nat.le_trans h (by decide)
theorem sz {n : Nat} (h : n ≤ 100000) : n ≤ sizeLine := Nat.le_trans h (by decide)
theorem szlt {n : Nat} (h : n ≤ 100000) : n < sizeLine := Nat.lt_of_le_of_lt h (by decide)
theorem szadd {a b : List Nat} (h : a.length + b.length ≤ 100000) : (S a).length + (S b).length ≤ sizeLine := by
  rw [S_len, S_len]
  exact Nat.le_trans h (by decide)
/-! texts as lists of signs -/
theorem at_S {a b : List Nat} {i : Nat} (hb : b ≠ []) : StrLaws.At (S a) (S b) (S a).length i ↔ TL.pre b (a.drop i) = true := TL.at_iff (x := S a) (y := S b) hb i
theorem startswith_S (a b : List Nat) : Txt.startswith (S a) (S b) = b.isPrefixOf a := by
  have e : Txt.startswith (S a) (S b) = (decide (0 + b.length ≤ a.length) && (a.toArray.extract 0 (0 + b.length) == b.toArray)) := by
    have h1 : Txt.startswith (S a) (S b) = (decide (0 + (S b).length ≤ (S a).length) && ((S a).cps.extract 0 (0 + (S b).length) == (S b).cps)) := rfl
    rw [h1, S_len, S_len]
  rw [e]
  apply Bool.eq_iff_iff.mpr
  rw [List.isPrefixOf_iff_prefix, Bool.and_eq_true, decide_eq_true_eq, beq_iff_eq, Nat.zero_add]
  constructor
  · rintro ⟨h1, h2⟩
    have h3 : (a.toArray.extract 0 b.length).toList = b := by rw [h2]
    rw [Array.toList_extract] at h3
    have h4 : a.take b.length = b := by simpa [List.extract_eq_take_drop] using h3
    have h5 := List.take_append_drop b.length a
    rw [h4] at h5
    exact ⟨_, h5⟩
  · rintro ⟨t, rfl⟩
    refine ⟨by simp, ?_⟩
    apply Array.toList_inj.mp
    rw [Array.toList_extract]
    simp [List.extract_eq_take_drop]
theorem endswith_S (a b : List Nat) : Txt.endswith (S a) (S b) = b.isSuffixOf a := by
  have e : Txt.endswith (S a) (S b) = (decide (0 + b.length ≤ a.length) && (a.toArray.extract (a.length - b.length) (a.length - b.length + b.length) == b.toArray)) := by
    have h1 : Txt.endswith (S a) (S b) = (decide (0 + (S b).length ≤ (S a).length) && ((S a).cps.extract ((S a).length - (S b).length) ((S a).length - (S b).length + (S b).length) == (S b).cps)) := rfl
    rw [h1, S_len, S_len]
  rw [e]
  apply Bool.eq_iff_iff.mpr
  rw [List.isSuffixOf_iff_suffix, Bool.and_eq_true, decide_eq_true_eq, beq_iff_eq, Nat.zero_add]
  constructor
  · rintro ⟨h1, h2⟩
    have h3 : (a.toArray.extract (a.length - b.length) (a.length - b.length + b.length)).toList = b := by rw [h2]
    rw [Array.toList_extract] at h3
    have h4 : a.drop (a.length - b.length) = b := by
      have h5 : (a.drop (a.length - b.length)).take b.length = b := by simpa [List.extract_eq_take_drop] using h3
      rw [List.take_of_length_le (by rw [List.length_drop]; omega)] at h5
      exact h5
    have h5 := List.take_append_drop (a.length - b.length) a
    rw [h4] at h5
    exact ⟨_, h5⟩
  · rintro ⟨t, rfl⟩
    refine ⟨by simp, ?_⟩
    apply Array.toList_inj.mp
    rw [Array.toList_extract]
    have e2 : (t ++ b).length - b.length = t.length := by simp
    rw [e2]
    simp [List.extract_eq_take_drop]
/-- the cut of a list -/
def cut {α : Type} (l : List α) (lo hi : Option Int) : List α := (l.drop (HT.sIx l.length 0 lo)).take (HT.sIx l.length l.length hi - HT.sIx l.length 0 lo)
theorem cutS_S (l : List Nat) (lo hi : Option Int) : cutS (S l) lo hi = S (cut l lo hi) := by
  unfold cutS cut
  rw [S_len]
theorem cutV_map {α : Type} (l : List α) (f : α → V) (lo hi : Option Int) : cutV (l.map f) lo hi = (cut l lo hi).map f := by
  unfold cutV cut
  rw [List.length_map, List.map_take, List.map_drop]
theorem cut_len {α : Type} (l : List α) (lo hi : Option Int) : (cut l lo hi).length ≤ l.length := by
  unfold cut
  rw [List.length_take, List.length_drop]
  omega
/-- [:k] -/
theorem cut_to {α : Type} (l : List α) (k : Nat) : cut l none (some (k : Int)) = l.take k := by
  unfold cut
  rw [HT.sIx_none, HT.sIx_nat, List.drop_zero, Nat.sub_zero]
  by_cases h : k ≤ l.length
  · rw [Nat.min_eq_left h]
  · rw [Nat.min_eq_right (by omega), List.take_of_length_le (Nat.le_refl _), List.take_of_length_le (by omega)]
/-- [k:] -/
theorem cut_from {α : Type} (l : List α) (k : Nat) : cut l (some (k : Int)) none = l.drop k := by
  unfold cut
  rw [HT.sIx_none, HT.sIx_nat]
  by_cases h : k ≤ l.length
  · rw [Nat.min_eq_left h, List.take_of_length_le (by rw [List.length_drop]; exact Nat.le_refl _)]
  · rw [Nat.min_eq_right (by omega), List.drop_of_length_le (Nat.le_refl _), List.drop_of_length_le (by omega), List.take_nil]
/-- [:-1] -/
theorem cut_init {α : Type} (l : List α) : cut l none (some (-1)) = l.dropLast := by
  unfold cut
  rw [HT.sIx_none]
  have e : HT.sIx l.length l.length (some (-1)) = l.length - 1 := by
    have h1 : HT.sIx l.length l.length (some (-1)) = (if (-1 : Int) < 0 then ((-1 : Int) + (l.length : Int)).toNat else min (-1 : Int).toNat l.length) := rfl
    rw [h1, if_pos (by decide)]
    omega
  rw [e, List.drop_zero, Nat.sub_zero, List.dropLast_eq_take]
theorem atI_neg1 {α : Type} {l : List α} {v : α} (h : l.getLast? = some v) : atI l (-1) = some v := by
  have hne : l ≠ [] := fun z => by
    rw [z] at h
    cases h
  have e : l = l.dropLast ++ [v] := by
    have h1 := List.dropLast_concat_getLast hne
    have h2 : l.getLast hne = v := Option.some.inj ((List.getLast?_eq_some_getLast hne).symm.trans h)
    rw [h2] at h1
    exact h1.symm
  rw [e]
  exact atI_last _ v
theorem cut_t1 {α : Type} (l : List α) : cut l none (some 1) = l.take 1 := cut_to l 1
theorem cut_f1 {α : Type} (l : List α) : cut l (some 1) none = l.drop 1 := cut_from l 1
theorem and_false {c : Bool} {A B : Prop} (h : c = true → B → A) (k : B) : if c = true then A else B := by
  cases c with
  | true => exact ifT rfl (h rfl k)
  | false => exact ifF rfl k

/-- a comprehension over a text's signs, one value each -/
theorem lc_str {z : List Nat} {f : Nat → V} {j : Nat} {te : TE} {vs : List Nat} {σ : L2.St} {H1 : Hp} {D : Addr} {Qd : Hp → Prop} (hD : H1 D = none) (hz : z.length ≤ 100000)
    (hw : ∀ x, wipe ((wipe σ vs).set j (some x)) vs = wipe σ vs)
    (hs : ∀ c ∈ z, ∀ H', Same H1 H' → ∀ Q : VK, (∀ H'', Same H' H'' → Q (f c) H'') → te ((wipe σ vs).set j (some (.str (S [c])))) H' Q)
    (hd : ∀ H', Same H1 H' → H' D = some (.lst (z.map f)) → Qd H') :
    ∃ W : Nat → Nat → Hp → Prop, (∃ m, W 0 m (upd H1 D (.lst []))) ∧ ∀ i m H, W i m H →
      ((Its (S z)).stop i H ∧ Qd H) ∨ ((Its (S z)).go i H ∧ ∃ Nx : Hp → Prop, (∀ H', Nx H' → ∃ m', m' < m ∧ W (i + 1) m' H') ∧ ∀ x H', (Its (S z)).yld i H x H' → gName j x (wipe σ vs) H' fun σ2 H2 => wipe σ2 vs = wipe σ vs ∧ tYes σ2 H2 fun b H3 =>
        if b = true then te σ2 H3 fun y H4 => ∃ acc, H4 D = some (.lst acc) ∧ acc.length < sizeLine ∧ Nx (upd H4 D (.lst (acc ++ [y]))) else Nx H3) := by
  have size : (S z).cps.size = z.length := by simp [S]
  refine lc_it (n := (S z).cps.size) walk_str (fun i H' => Same H1 H' ∧ H' D = some (.lst ((z.take i).map f))) ⟨same_upd hD, by rw [upd_same]; rfl⟩ (fun _ _ _ _ => trivial) (fun i x H H' hi hP hY => ?_) (fun H' hP => ?_)
  · obtain ⟨rfl, c, hc, rfl⟩ := hY
    have hc' : z[i]? = some c := by
      have : (S z).cps[i]? = z[i]? := by simp [S]
      rw [← this]
      exact hc
    refine ⟨hw _, ?_⟩
    refine hs c (List.mem_of_getElem? hc') _ hP.1 _ fun H'' s'' => ⟨_, s'' _ _ hP.2, szlt ?_, ?_, ?_⟩
    · rw [List.length_map, List.length_take]
      omega
    · intro b o e
      have nb : b ≠ D := ne_of_none e hD
      rw [upd_ne nb]
      exact s'' _ _ (hP.1 _ _ e)
    · rw [upd_same, List.take_add_one, hc', List.map_append]
      rfl
  · refine hd H' hP.1 ?_
    rw [hP.2, size, List.take_length]
/-- .. over a list, one value each -/
theorem lc_lst {K : PySem.W.Frag} {a : Addr} {xs : List V} {f : V → V} {j : Nat} {te : TE} {vs : List Nat} {σ : L2.St} {H1 : Hp} {D : Addr} {Qd : Hp → Prop} (hD : H1 D = none) (hz : xs.length ≤ 100000) (hx : SqL K H1 a xs)
    (hw : ∀ x, wipe ((wipe σ vs).set j (some x)) vs = wipe σ vs)
    (hs : ∀ c ∈ xs, ∀ H', Same H1 H' → ∀ Q : VK, (∀ H'', Same H' H'' → Q (f c) H'') → te ((wipe σ vs).set j (some c)) H' Q)
    (hd : ∀ H', Same H1 H' → H' D = some (.lst (xs.map f)) → Qd H') :
    ∃ W : Nat → Nat → Hp → Prop, (∃ m, W 0 m (upd H1 D (.lst []))) ∧ ∀ i m H, W i m H →
      ((Itl K a).stop i H ∧ Qd H) ∨ ((Itl K a).go i H ∧ ∃ Nx : Hp → Prop, (∀ H', Nx H' → ∃ m', m' < m ∧ W (i + 1) m' H') ∧ ∀ x H', (Itl K a).yld i H x H' → gName j x (wipe σ vs) H' fun σ2 H2 => wipe σ2 vs = wipe σ vs ∧ tYes σ2 H2 fun b H3 =>
        if b = true then te σ2 H3 fun y H4 => ∃ acc, H4 D = some (.lst acc) ∧ acc.length < sizeLine ∧ Nx (upd H4 D (.lst (acc ++ [y]))) else Nx H3) := by
  refine lc_it (n := xs.length) walk_list (fun i H' => Same H1 H' ∧ H' D = some (.lst ((xs.take i).map f))) ⟨same_upd hD, by rw [upd_same]; rfl⟩ (fun _ _ _ hP => hP.1.seq hx) (fun i x H H' hi hP hY => ?_) (fun H' hP => ?_)
  · obtain ⟨rfl, hc⟩ := hY
    refine ⟨hw _, ?_⟩
    refine hs x (List.mem_of_getElem? hc) _ hP.1 _ fun H'' s'' => ⟨_, s'' _ _ hP.2, szlt ?_, ?_, ?_⟩
    · rw [List.length_map, List.length_take]
      omega
    · intro b o e
      have nb : b ≠ D := ne_of_none e hD
      rw [upd_ne nb]
      exact s'' _ _ (hP.1 _ _ e)
    · rw [upd_same, List.take_add_one, hc, List.map_append]
      rfl
  · refine hd H' hP.1 ?_
    rw [hP.2, List.take_length]
theorem map_bl {α : Type} (l : List α) (p : α → Bool) : l.map (fun c => V.bl (p c)) = (l.map p).map V.bl := by
  rw [List.map_map]
  rfl
theorem all_map {α : Type} (l : List α) (p : α → Bool) : (l.map p).all id = l.all p := by
  rw [List.all_map]
  rfl
/-- isinstance(x, str) of a text -/
theorem isi_str {K : PySem.W.Frag} {x : Str} {H : Hp} {Q : VK} (q : Q (.bl true) H) : rIsi K [.str x, .ty "str"] H Q :=
  ⟨.str x, .ty "str", .type "str", .type "str", true, rfl, .ty _, .base (.str _), kit_ty (by decide +kernel), q⟩
/-- an item of a written list at a drawn place -/
theorem at_some {xs : List V} {i : Int} (h0 : 0 ≤ i) (h1 : i < xs.length) : ∃ v, atI xs i = some v ∧ v ∈ xs := by
  have h2 : i.toNat < xs.length := by omega
  refine ⟨xs[i.toNat], ?_, List.getElem_mem h2⟩
  exact at_of (by omega) (List.getElem?_eq_getElem h2)
theorem qb {Q : VK} {H : Hp} {a b : Bool} (e : a = b) (q : Q (.bl a) H) : Q (.bl b) H := e ▸ q
theorem qs {Q : VK} {H : Hp} {a b : List Nat} (e : a = b) (q : Q (.str (S a)) H) : Q (.str (S b)) H := e ▸ q
/-- no text: isinstance(x, str) is False -/
def NotStr (K : PySem.W.Frag) (H : Hp) (v : V) : Prop := ∃ T : String, TyX K H v (.type T) ∧ kitB T "str" = some false

/-! lists of texts, compared -/
abbrev vS (l : List Nat) : V := .str (S l)
def dS1 (l : List Nat) : PyData := .str (S l)
def dL (ws : List (List Nat)) : PyData := .list (ws.map dS1)
theorem dpAll_S {K : PySem.W.Frag} {H : Hp} : ∀ ws : List (List Nat), DpAll K H (ws.map vS) (ws.map dS1)
  | [] => .nil
  | _ :: r => .cons (.str _) (dpAll_S r)
theorem dp_L {K : PySem.W.Frag} {H : Hp} {a : Addr} {ws : List (List Nat)} (h : SqL K H a (ws.map vS)) : Dp K H (.ref a) (dL ws) := .lst h (dpAll_S ws)
def Asc (l : List Nat) : Prop := ∀ c ∈ l, c < 128
theorem asc_ok {l : List Nat} (h : Asc l) : PyData.strOk (S l) = true := by
  show (l.toArray.all (· < 0x110000)) = true
  rw [← Array.all_toList, List.all_eq_true]
  exact fun c hc => decide_eq_true (Nat.lt_trans (h c hc) (by decide))
theorem canLay_S : ∀ ws : List (List Nat), (∀ w ∈ ws, Asc w) → PyData.canLayAll0 (ws.map dS1) = true
  | [], _ => rfl
  | w :: r, h => by
    rw [List.map_cons, PyData.canLayAll0, canLay_S r fun x hx => h x (List.mem_cons_of_mem _ hx)]
    have h1 : PyData.canLay0 (dS1 w) = true := by
      show PyData.canLay0 (.str (S w)) = true
      rw [PyData.canLay0]
      exact asc_ok (h w List.mem_cons_self)
    rw [h1]
    rfl
theorem depth_S : ∀ ws : List (List Nat), PyData.depthAll (ws.map dS1) ≤ 1
  | [] => by
    show 0 ≤ 1
    decide
  | w :: r => by
    rw [List.map_cons, PyData.depthAll]
    have h1 := depth_S r
    have h2 : PyData.depth (dS1 w) ≤ 1 := by
      show PyData.depth (.str (S w)) ≤ 1
      rw [PyData.depth]
      decide
    omega
theorem shaped_L {ws : List (List Nat)} (h : ∀ w ∈ ws, Asc w) : SeqAt.shaped (dL ws) = true := by
  unfold SeqAt.shaped dL
  rw [PyData.canLay0, canLay_S ws h, PyData.depth, decide_eq_true]
  · rfl
  · have := depth_S ws
    omega
theorem eqvAll_S : ∀ a b : List (List Nat), PyData.eqvAll (a.map dS1) (b.map dS1) = decide (a = b)
  | [], [] => rfl
  | [], _ :: _ => rfl
  | _ :: _, [] => rfl
  | x :: a, y :: b => by
    rw [List.map_cons, List.map_cons, PyData.eqvAll, eqvAll_S a b]
    have h1 : PyData.eqv (dS1 x) (dS1 y) = decide (x = y) := by
      show PyData.eqv (.str (S x)) (.str (S y)) = _
      rw [PyData.eqv]
      exact SX.S_beq_eq
    rw [h1]
    apply Bool.eq_iff_iff.mpr
    rw [Bool.and_eq_true, decide_eq_true_eq, decide_eq_true_eq, decide_eq_true_eq, List.cons.injEq]
theorem eqv_L (a b : List (List Nat)) : PyData.eqv (dL a) (dL b) = decide (a = b) := by
  unfold dL
  rw [PyData.eqv]
  exact eqvAll_S a b
/-- the parts of a text between single signs -/
def parts (c : Nat) (l : List Nat) : List (List Nat) := TL.spl [c] 0 [] l
theorem split_S {c : Nat} (hc : c < 256) (l : List Nat) : (Txt.split (S l) (S [c])).map V.str = (parts c l).map vS := by
  rw [SX.split_S (a := l) (b := [c]) (by simp) (by simpa using hc), List.map_map]
  rfl
theorem spl_acc (c : Nat) : ∀ (l acc : List Nat), ∃ p r, TL.spl [c] 0 acc l = (acc ++ p) :: r ∧ TL.spl [c] 0 [] l = p :: r
  | [], acc => ⟨[], [], by rw [TL.spl_nil, List.append_nil], by rw [TL.spl_nil]⟩
  | x :: l, acc => by
    by_cases h : TL.pre [c] (x :: l) = true
    · exact ⟨[], TL.spl [c] ([c].length - 1) [] l, by rw [TL.spl_hit h, List.append_nil], by rw [TL.spl_hit h]⟩
    · have h' : TL.pre [c] (x :: l) = false := by simpa using h
      obtain ⟨p, r, e1, e2⟩ := spl_acc c l (acc ++ [x])
      obtain ⟨p', r', e3, e4⟩ := spl_acc c l ([] ++ [x])
      rw [e2] at e4
      cases e4
      exact ⟨x :: p, r, by rw [TL.spl_miss h', e1]; simp, by rw [TL.spl_miss h', e3]; simp⟩
theorem parts_nil (c : Nat) : parts c [] = [[]] := TL.spl_nil _ _ _
theorem parts_hit (c : Nat) (l : List Nat) : parts c (c :: l) = [] :: parts c l := by
  unfold parts
  rw [TL.spl_hit (by simp [TL.pre])]
  rfl
theorem parts_miss {c x : Nat} (h : x ≠ c) (l : List Nat) : ∃ p r, parts c l = p :: r ∧ parts c (x :: l) = (x :: p) :: r := by
  obtain ⟨p, r, e1, e2⟩ := spl_acc c l ([] ++ [x])
  refine ⟨p, r, e2, ?_⟩
  unfold parts
  rw [TL.spl_miss (by simp [TL.pre, h]), e1]
  rfl
theorem parts_ne (c : Nat) (l : List Nat) : parts c l ≠ [] := by
  obtain ⟨p, r, _, e⟩ := spl_acc c l []
  unfold parts
  rw [e]
  exact List.cons_ne_nil _ _
theorem parts_len (c : Nat) : ∀ l : List Nat, (parts c l).length ≤ l.length + 1
  | [] => by rw [parts_nil]; simp
  | x :: l => by
    have ih := parts_len c l
    by_cases h : x = c
    · subst h
      rw [parts_hit]
      simp only [List.length_cons]
      omega
    · obtain ⟨p, r, e1, e2⟩ := parts_miss h l
      rw [e1] at ih
      rw [e2]
      simp only [List.length_cons] at ih ⊢
      omega
theorem parts_cut (c : Nat) : ∀ a b : List Nat, parts c (a ++ c :: b) = parts c a ++ parts c b
  | [], b => by
    rw [List.nil_append, parts_hit, parts_nil]
    rfl
  | x :: a, b => by
    rw [List.cons_append]
    by_cases h : x = c
    · subst h
      rw [parts_hit, parts_hit, parts_cut]
      rfl
    · obtain ⟨p, r, e1, e2⟩ := parts_miss h a
      obtain ⟨p', r', e3, e4⟩ := parts_miss h (a ++ c :: b)
      rw [parts_cut, e1] at e3
      rw [e4, e2]
      cases e3
      rfl
theorem parts_one {c : Nat} : ∀ {l : List Nat}, c ∉ l → parts c l = [l]
  | [], _ => parts_nil c
  | x :: l, h => by
    rw [List.mem_cons, not_or] at h
    obtain ⟨p, r, e1, e2⟩ := parts_miss (fun z => h.1 z.symm) l
    rw [parts_one h.2] at e1
    cases e1
    exact e2
/-- glued again -/
theorem join_parts (c : Nat) : ∀ l : List Nat, TL.joinL [c] (parts c l) = l
  | [] => by
    rw [parts_nil]
    rfl
  | x :: l => by
    have ih := join_parts c l
    by_cases h : x = c
    · subst h
      rw [parts_hit]
      obtain ⟨p, r, e⟩ : ∃ p r, parts x l = p :: r := by
        cases e : parts x l with
        | nil => exact absurd e (parts_ne x l)
        | cons p r => exact ⟨p, r, rfl⟩
      rw [e] at ih ⊢
      show [] ++ ([x] ++ TL.joinL [x] (p :: r)) = x :: l
      rw [ih]
      rfl
    · obtain ⟨p, r, e1, e2⟩ := parts_miss h l
      rw [e1] at ih
      rw [e2]
      cases r with
      | nil =>
        have ih : p = l := ih
        rw [← ih]
        rfl
      | cons q r =>
        have ih : p ++ ([c] ++ TL.joinL [c] (q :: r)) = l := ih
        rw [← ih]
        rfl
theorem join_S (y : List Nat) (ws : List (List Nat)) : Txt.join (S y) (ws.map S) = S (TL.joinL y ws) := by
  rw [TL.join_eq]
  refine TL.ext_tl ?_
  rw [TL.tl_join, SX.map_S_tl]
theorem parts_asc (c : Nat) : ∀ {l : List Nat}, Asc l → ∀ w ∈ parts c l, Asc w
  | [], h, w, hw => by
    rw [parts_nil] at hw
    rcases List.mem_cons.mp hw with rfl | hw
    · exact h
    · cases hw
  | x :: l, h, w, hw => by
    have hl : Asc l := fun c hc => h c (List.mem_cons_of_mem _ hc)
    by_cases e : x = c
    · subst e
      rw [parts_hit] at hw
      rcases List.mem_cons.mp hw with rfl | hw
      · exact fun _ z => nomatch z
      · exact parts_asc x hl w hw
    · obtain ⟨p, r, e1, e2⟩ := parts_miss e l
      have ih := parts_asc c hl
      rw [e1] at ih
      rw [e2] at hw
      rcases List.mem_cons.mp hw with rfl | hw
      · intro z hz
        rcases List.mem_cons.mp hz with rfl | hz
        · exact h _ List.mem_cons_self
        · exact ih p List.mem_cons_self z hz
      · exact ih w (List.mem_cons_of_mem _ hw)
theorem empty_S : ("" : Str) = S [] := by decide +kernel
theorem join_size (c : Nat) : ∀ ws : List (List Nat), (ws.map (·.length)).sum + ws.length ≤ (TL.joinL [c] ws).length + 1
  | [] => by simp
  | [x] => by
    show [x.length].sum + 1 ≤ x.length + 1
    simp
  | x :: y :: r => by
    have ih := join_size c (y :: r)
    show (x.length :: (y :: r).map (·.length)).sum + ((y :: r).length + 1) ≤ (x ++ ([c] ++ TL.joinL [c] (y :: r))).length + 1
    rw [List.sum_cons, List.length_append, List.length_append, List.length_singleton]
    omega
theorem size_join {c : Nat} {ws : List (List Nat)} (h : (TL.joinL [c] ws).length ≤ 1000000) : ((ws.map S).map (·.length)).sum + (ws.map S).length * (S [c]).length ≤ 16777216 := by
  have := join_size c ws
  rw [SX.lens, List.length_map, S_len, List.length_singleton, Nat.mul_one]
  omega
theorem join_app (c : Nat) : ∀ {A B : List (List Nat)}, A ≠ [] → B ≠ [] → TL.joinL [c] (A ++ B) = TL.joinL [c] A ++ c :: TL.joinL [c] B
  | [], _, h, _ => absurd rfl h
  | [x], [], _, h => absurd rfl h
  | [x], y :: B, _, _ => rfl
  | x :: y :: A, B, _, h => by
    have ih := join_app c (A := y :: A) (B := B) (List.cons_ne_nil _ _) h
    show x ++ ([c] ++ TL.joinL [c] (y :: A ++ B)) = x ++ ([c] ++ TL.joinL [c] (y :: A)) ++ c :: TL.joinL [c] B
    rw [ih]
    simp
theorem parts_cut_iff {c : Nat} (p u : List Nat) : (∃ t, p = u ++ c :: t) ↔ (parts c p).length > (parts c u).length ∧ (parts c p).take (parts c u).length = parts c u := by
  constructor
  · rintro ⟨t, rfl⟩
    rw [parts_cut, List.length_append, List.take_left']
    · have : 1 ≤ (parts c t).length := by
        cases e : parts c t with
        | nil => exact absurd e (parts_ne c t)
        | cons x r => simp
      exact ⟨by omega, rfl⟩
    · rfl
  · rintro ⟨h1, h2⟩
    have h3 : (parts c p).drop (parts c u).length ≠ [] := fun z => by
      have := congrArg List.length z
      rw [List.length_drop, List.length_nil] at this
      omega
    refine ⟨TL.joinL [c] ((parts c p).drop (parts c u).length), ?_⟩
    have h4 := join_app c (parts_ne c u) h3
    have h5 : parts c u ++ (parts c p).drop (parts c u).length = parts c p := by
      conv => rhs; rw [← List.take_append_drop (parts c u).length (parts c p)]
      rw [h2]
    rw [h5, join_parts, join_parts] at h4
    exact h4
theorem parts_each (c : Nat) : ∀ {l : List Nat}, ∀ w ∈ parts c l, w.length ≤ l.length
  | [], w, h => by
    rw [parts_nil] at h
    rcases List.mem_cons.mp h with rfl | h
    · exact Nat.le_refl _
    · cases h
  | x :: l, w, h => by
    by_cases e : x = c
    · subst e
      rw [parts_hit] at h
      rcases List.mem_cons.mp h with rfl | h
      · exact Nat.zero_le _
      · exact Nat.le_succ_of_le (parts_each x w h)
    · obtain ⟨p, r, e1, e2⟩ := parts_miss e l
      rw [e2] at h
      rcases List.mem_cons.mp h with rfl | h
      · exact Nat.succ_le_succ (parts_each c p (by rw [e1]; exact List.mem_cons_self))
      · exact Nat.le_succ_of_le (parts_each c w (by rw [e1]; exact List.mem_cons_of_mem _ h))

/-- a comprehension over a list, with a test -/
theorem lc_fil {K : PySem.W.Frag} {a : Addr} {xs : List V} {b : V → Bool} {j : Nat} {tt : TT} {te : TE} {vs : List Nat} {σ : L2.St} {H1 : Hp} {D : Addr} {Qd : Hp → Prop} (hD : H1 D = none) (hz : xs.length ≤ 100000) (hx : SqL K H1 a xs)
    (hw : ∀ x, wipe ((wipe σ vs).set j (some x)) vs = wipe σ vs)
    (hs : ∀ c ∈ xs, ∀ H', Same H1 H' → ∀ Q : Bool → Hp → Prop, (∀ H'', Same H' H'' → Q (b c) H'') → tt ((wipe σ vs).set j (some c)) H' Q)
    (he : ∀ c ∈ xs, ∀ H', Same H1 H' → ∀ Q : VK, Q c H' → te ((wipe σ vs).set j (some c)) H' Q)
    (hd : ∀ H', Same H1 H' → H' D = some (.lst (xs.filter b)) → Qd H') :
    ∃ W : Nat → Nat → Hp → Prop, (∃ m, W 0 m (upd H1 D (.lst []))) ∧ ∀ i m H, W i m H →
      ((Itl K a).stop i H ∧ Qd H) ∨ ((Itl K a).go i H ∧ ∃ Nx : Hp → Prop, (∀ H', Nx H' → ∃ m', m' < m ∧ W (i + 1) m' H') ∧ ∀ x H', (Itl K a).yld i H x H' → gName j x (wipe σ vs) H' fun σ2 H2 => wipe σ2 vs = wipe σ vs ∧ tt σ2 H2 fun b H3 =>
        if b = true then te σ2 H3 fun y H4 => ∃ acc, H4 D = some (.lst acc) ∧ acc.length < sizeLine ∧ Nx (upd H4 D (.lst (acc ++ [y]))) else Nx H3) := by
  refine lc_it (n := xs.length) walk_list (fun i H' => Same H1 H' ∧ H' D = some (.lst ((xs.take i).filter b))) ⟨same_upd hD, by rw [upd_same]; rfl⟩ (fun _ _ _ hP => hP.1.seq hx) (fun i x H H' hi hP hY => ?_) (fun H' hP => ?_)
  · obtain ⟨rfl, hc⟩ := hY
    have mx := List.mem_of_getElem? hc
    refine ⟨hw _, ?_⟩
    refine hs x mx _ hP.1 _ fun H'' s'' => ?_
    have e1 : xs.take (i + 1) = xs.take i ++ [x] := by rw [List.take_add_one, hc]; rfl
    refine if2 (fun hb => ?_) (fun hb => ?_)
    · refine he x mx H'' (hP.1.trans s'') _ ⟨_, s'' _ _ hP.2, szlt ?_, ?_, ?_⟩
      · have := List.length_filter_le b (xs.take i)
        rw [List.length_take] at this
        omega
      · intro c o e
        rw [upd_ne (ne_of_none e hD)]
        exact s'' _ _ (hP.1 _ _ e)
      · rw [upd_same, e1, List.filter_append, List.filter_cons_of_pos hb]
        rfl
    · refine ⟨hP.1.trans s'', ?_⟩
      rw [s'' _ _ hP.2, e1, List.filter_append, List.filter_cons_of_neg (by rw [hb]; exact Bool.false_ne_true), List.filter_nil, List.append_nil]
  · refine hd H' hP.1 ?_
    rw [hP.2, List.take_length]
theorem putK_len {κ : Type} [DecidableEq κ] (kvs : List (κ × V)) (k : κ) (v : V) : (putK kvs k v).length ≤ kvs.length + 1 := by
  unfold putK
  by_cases a : (kvs.any fun kv => decide (kv.1 = k)) = true
  · rw [if_pos a, List.length_map]
    omega
  · rw [if_neg a, List.length_append]
    exact Nat.le_refl _
theorem dgetT {H : Hp} {a b : Addr} {kvs : List (List Key × V)} {k : List Key} {v : V} (e : H a = some (.dT kvs)) (eb : H b = some (.tup (k.map kV))) (g : valV kvs k = some v) : DGet H a (.ref b) (some v) := g ▸ DGet.t e eb

/-! lists of numbers -/
def nV (l : List Nat) : List V := l.map fun n => .int (n : Nat)
theorem nV_app (a b : List Nat) : nV (a ++ b) = nV a ++ nV b := List.map_append
theorem nV_len (a : List Nat) : (nV a).length = a.length := List.length_map _
def zs (l : List Nat) : List Int := l.map fun n : Nat => (n : Int)
theorem nV_zs (l : List Nat) : nV l = (zs l).map V.int := by
  unfold nV zs
  rw [List.map_map]
  rfl
def dN1 (n : Nat) : PyData := .int n
def dN (l : List Nat) : PyData := .list (l.map dN1)
theorem dpAll_N {K : PySem.W.Frag} {H : Hp} : ∀ l : List Nat, DpAll K H (nV l) (l.map dN1)
  | [] => .nil
  | n :: r => .cons (.int (n : Nat)) (dpAll_N r)
theorem dp_N {K : PySem.W.Frag} {H : Hp} {a : Addr} {l : List Nat} (h : SqL K H a (nV l)) : Dp K H (.ref a) (dN l) := .lst h (dpAll_N l)
theorem canLay_N : ∀ l : List Nat, PyData.canLayAll0 (l.map dN1) = true
  | [] => rfl
  | n :: r => by
    rw [List.map_cons, PyData.canLayAll0, canLay_N r]
    have h1 : PyData.canLay0 (dN1 n) = true := by
      show PyData.canLay0 (.int n) = true
      rw [PyData.canLay0]
    rw [h1]
    rfl
theorem depth_N : ∀ l : List Nat, PyData.depthAll (l.map dN1) ≤ 1
  | [] => by
    show 0 ≤ 1
    decide
  | n :: r => by
    rw [List.map_cons, PyData.depthAll]
    have h1 := depth_N r
    have h2 : PyData.depth (dN1 n) ≤ 1 := by
      show PyData.depth (.int n) ≤ 1
      rw [PyData.depth]
      decide
    omega
theorem shaped_N (l : List Nat) : SeqAt.shaped (dN l) = true := by
  unfold SeqAt.shaped dN
  rw [PyData.canLay0, canLay_N l, PyData.depth, decide_eq_true]
  · rfl
  · have := depth_N l
    omega
theorem eqvAll_N : ∀ a b : List Nat, PyData.eqvAll (a.map dN1) (b.map dN1) = decide (a = b)
  | [], [] => rfl
  | [], _ :: _ => rfl
  | _ :: _, [] => rfl
  | x :: a, y :: b => by
    rw [List.map_cons, List.map_cons, PyData.eqvAll, eqvAll_N a b]
    have h1 : PyData.eqv (dN1 x) (dN1 y) = decide (x = y) := by
      show PyData.eqv (.int x) (.int y) = _
      rw [PyData.eqv]
      apply Bool.eq_iff_iff.mpr
      rw [decide_eq_true_eq]
      constructor
      · intro h
        have h' : (x : Int) = (y : Int) := by simpa using h
        exact Int.ofNat.inj h'
      · intro h
        rw [h]
        simp
    rw [h1]
    apply Bool.eq_iff_iff.mpr
    rw [Bool.and_eq_true, decide_eq_true_eq, decide_eq_true_eq, decide_eq_true_eq, List.cons.injEq]
theorem eqv_N (a b : List Nat) : PyData.eqv (dN a) (dN b) = decide (a = b) := by
  unfold dN
  rw [PyData.eqv]
  exact eqvAll_N a b
def maxL (l : List Nat) : Nat := l.foldr max 0
theorem maxL_le : ∀ {l : List Nat} {x : Nat}, x ∈ l → x ≤ maxL l
  | y :: r, x, h => by
    show x ≤ max y (maxL r)
    rcases List.mem_cons.mp h with rfl | h
    · omega
    · have := maxL_le h
      omega
theorem maxL_mem : ∀ {l : List Nat}, l ≠ [] → maxL l ∈ l
  | [y], _ => by
    show max y 0 ∈ [y]
    simp
  | y :: z :: r, _ => by
    have ih := maxL_mem (l := z :: r) (List.cons_ne_nil _ _)
    show max y (maxL (z :: r)) ∈ y :: z :: r
    by_cases h : maxL (z :: r) ≤ y
    · rw [Nat.max_eq_left h]
      exact List.mem_cons_self
    · rw [Nat.max_eq_right (by omega)]
      exact List.mem_cons_of_mem _ ih
theorem maxL_is {l : List Nat} {m : Int} (h1 : m ∈ zs l) (h2 : ∀ y ∈ zs l, y ≤ m) : m = (maxL l : Nat) := by
  obtain ⟨k, hk, rfl⟩ := List.mem_map.mp h1
  have a := maxL_le hk
  have b := h2 _ (List.mem_map.mpr ⟨maxL l, maxL_mem (fun z => by rw [z] at hk; cases hk), rfl⟩)
  omega
theorem join_drop_len (c : Nat) (ws : List (List Nat)) (k : Nat) : (TL.joinL [c] (ws.drop k)).length ≤ (TL.joinL [c] ws).length := by
  by_cases h1 : ws.take k = []
  · have e : ws.drop k = ws := by
      conv => rhs; rw [← List.take_append_drop k ws, h1]
      rfl
    rw [e]
    exact Nat.le_refl _
  · by_cases h2 : ws.drop k = []
    · rw [h2]
      exact Nat.zero_le _
    · have e := join_app c h1 h2
      rw [List.take_append_drop] at e
      rw [e, List.length_append, List.length_cons]
      omega
theorem count_S (c : Nat) (l : List Nat) : Txt.count (S l) (S [c]) = ((parts c l).length : Int) - 1 := by
  have e : Txt.count (S l) ⟨#[c]⟩ = PyProof.Rows.cnt c (S l).cps.toList := PyProof.Rows.count_is _ _
  have e1 : Txt.count (S l) (S [c]) = PyProof.Rows.cnt c l := e
  rw [e1]
  have step : ∀ l : List Nat, PyProof.Rows.cnt c l = ((parts c l).length : Int) - 1 := by
    intro l
    induction l with
    | nil =>
      rw [parts_nil]
      rfl
    | cons x r ih =>
      rw [PyProof.Rows.cnt_cons, ih]
      by_cases h : x = c
      · subst h
        rw [parts_hit, if_pos rfl, List.length_cons]
        omega
      · obtain ⟨p, q, e1, e2⟩ := parts_miss h r
        rw [e1, e2, if_neg h]
        simp only [List.length_cons]
        omega
  exact step l
/-- [-k:] -/
theorem cut_neg {α : Type} (l : List α) {k : Nat} (h0 : 1 ≤ k) (h : k ≤ l.length) : cut l (some (-(k : Int))) none = l.drop (l.length - k) := by
  unfold cut
  rw [HT.sIx_none]
  have e : HT.sIx l.length 0 (some (-(k : Int))) = l.length - k := by
    have h1 : HT.sIx l.length 0 (some (-(k : Int))) = (if (-(k : Int)) < 0 then (-(k : Int) + (l.length : Int)).toNat else min (-(k : Int)).toNat l.length) := rfl
    rw [h1, if_pos (by omega)]
    omega
  rw [e, List.take_of_length_le (by rw [List.length_drop]; omega)]

/-! a def with a star parameter -/
section
variable {P : Program} {w : World} {K : PySem.W.Frag} {mg : Str → Option Value} {base : Heap}
theorem okS {x qual pv : Str} {st : Stmt} {f : Addr} {fd : FuncData} {N ps : List Str} {k : Nat} {sp : Sp} (F : Fun K x qual st f fd) (S : FnScope N (ps ++ [pv]) (defScope st))
    (hb : ∀ (kV doc pm cdv ct : Value) (an : Option Addr) (us rest : List Value), us.length = ps.length → bindArgs (PySem.W.fnOf x qual (defArgs st) (defBody st) (defScope st) .none kV doc pm an cdv ct) ⟨us ++ rest, []⟩ = (newTuple rest >>= fun t => pure (ps.zip us ++ [(pv, t)])))
    (body : ∀ (cdv : Value) (A : Around) (outer : List Env) (s : Shared) (H : Hp) (vs : List V) (Q : VK) (E : XK), Room k (A.deeper (envOfC qual (defScope st) s.heap.objs.size f cdv)) → sp vs H Q E →
      ∃ t, PSs (cxOf CX0 P w K mg base N qual (defScope st) f cdv A outer s H E).nox (defBody st) t ∧ t { nx := fun _ H' => Q .non H', rt := Q } (start N vs) H) :
    FnR P w K mg base CX0 (k + 1) f (fun vs H Q E => ∃ ws rest, vs = ws ++ rest ∧ ws.length = ps.length ∧ rest.length ≤ sizeLine ∧ ∀ p, H p = Option.none → sp (ws ++ [V.ref p]) (upd H p (.tup rest)) Q E) := by
  obtain ⟨oc, od, kV, doc, pm, an, cdv, ct, osl, rfl, lk, hcd⟩ := F.ex
  refine StX.fn_star lk hcd S StX.cxUp_none (hb kV doc pm cdv ct an) fun A outer s H vs Q E hr hsp => ?_
  obtain ⟨t, h, q⟩ := body cdv A outer s H vs Q E hr hsp
  exact ⟨t, h.nox, q⟩
end
section
variable {X : Cx} {CX : CXT} {k : Nat} {f : Addr} {sp : Sp} {E : XK} {x : Str} {e : Expr} {es : List Expr} {t : TA} {p pos : Pos}
def tCallS (sp : Sp) (E : XK) (t : TA) : TE := fun σ H Q => t σ H fun vs H1 => sp vs H1 Q E
theorem pe_callR (F : FnR X.prog X.w X.K X.mg X.base CX k f sp) (hr : Room k X.A) (hg : Gl X x) (hm : X.mg x = some (.ref f)) (hk : PySem.W.keepIn X.K (.ref f) = true) (hx : Passes CX X E) (ha : PA X (e :: es) t)
    (hd : (x == ("__debug__" : Str)) = false := by decide) (he : starEach (e :: es) X.env = (false, eval e X.env) :: starEach es X.env := by rfl) (hp : (backTo pos (starEach es X.env)).any (·.1) = false := by rfl) :
    PE X (.Call (.Name x p) (e :: es) [] pos) (tCallS sp E t) := by
  refine ⟨fun pins s σ H Q I h => wpAny_Call_Name_kw (ld_glob I hg hm ?_ hd)⟩
  refine PySem.W.callWith_K (h₀ := X.base) I.ok.mod.kin hk (thn (ha.run pos pins s σ H _ I h) fun us s1 ⟨vs, H1, I1, r, q⟩ => ⟨I1.kIn, ?_⟩) he hp
  exact wpAny_call (run_fnR F hr hx I1 r q)
end

/-! enumerate(tuple) -/
namespace ET
theorem meets_en {v : Value} {o : Obj} {G : Heap → Prop} (B : Begins v o G) :
    Meets (Builtin.«enumerate.__new__» ⟨[.type "enumerate", v], []⟩) (fun _ R s => G s.heap ∧
      R (.ok (.ret (.ref (s.heap.push o).objs.size))) { s with heap := (s.heap.push o).push { cls := .type "enumerate", data := .fields #[.none, .bool false, .ref s.heap.objs.size, rawInt 0, .none, .none] } }) := by
  refine .of_wp fun prog w A R s h => ?_
  obtain ⟨hp, g, d, tk, os⟩ := s
  obtain ⟨k1, h⟩ := h
  have hsub := sub_enumerate
  have it1 : ∀ {A' : Around} {E : Value → Shared → Prop} {Q : Value → Shared → Prop}, Q (.ref hp.objs.size) ⟨hp.push o, g, d, tk, os⟩ → wpAny (model prog w) A' (pyIter v) Q E ⟨hp, g, d, tk, os⟩ := fun q => B.iter prog w _ _ ⟨hp, g, d, tk, os⟩ _ k1 q
  wp_walk using it1
  refine wpAny_stack_any fun st => wpAny_pure ?_
  split
  · rename_i c _ _ _ _ _
    cases (c == Value.type "enumerate") <;> (wp_walk using it1; exact ⟨_, rfl, h⟩)
  · wp_walk using it1
    exact ⟨_, rfl, h⟩
section
variable {prog : Program} {w : World} {A : Around} {E : Value → Shared → Prop} {s : Shared}
theorem call_en {v : Value} {o : Obj} {G : Heap → Prop} {Q : Value → Shared → Prop} (B : Begins v o G) (k1 : G s.heap)
    (q : ∀ h', IsEnum h' (s.heap.objs.size + 1) s.heap.objs.size 0 .none → h'.get? s.heap.objs.size = some o → (∀ b o, s.heap.get? b = some o → h'.get? b = some o) → Q (.ref (s.heap.objs.size + 1)) { s with heap := h' }) :
    wpAny (model prog w) A (call (.type "enumerate") [v]) Q E s := by
  refine callType_new F.called_enumerate (by decide) (F.typeCall_enumerate_1 _) (F.newCall_enumerate_1 _) (fun o => F.args_object_init_2 o _) F.entry_enumerate_new (meets_en B) ⟨k1, ?_⟩
  have n1 : (s.heap.push o).objs.size = s.heap.objs.size + 1 := Heap.size_push ..
  have p1 : ((s.heap.push o).push { cls := .type "enumerate", data := .fields #[.none, .bool false, .ref s.heap.objs.size, rawInt 0, .none, .none] }).get? (s.heap.push o).objs.size = some _ := Heap.get?_push_size _ rfl
  show _ ∧ _
  rw [n1] at p1
  rw [n1]
  exact ⟨⟨_, p1, rfl⟩, q _ p1 (Heap.get?_push_of_some _ (Heap.get?_push_size _ B.free)) fun b o x => Heap.get?_push_of_some _ (Heap.get?_push_of_some _ x)⟩
end
/-- the tuple at a, each item in a new pair -/
def ItN (K : PySem.W.Frag) (a : Addr) : It :=
  ⟨fun i H => ∃ (xs : List V) (x : V), SqT K H a xs ∧ xs[i]? = some x,
    fun i H v H' => ∃ T x, v = .ref T ∧ H T = none ∧ H' = upd H T (.tup [.int (i : Nat), x]) ∧ ∀ xs, SqT K H a xs → xs[i]? = some x,
    fun i H => ∃ xs : List V, SqT K H a xs ∧ xs.length = i⟩
theorem turn_en {P : Program} {w : World} {K : PySem.W.Frag} {elts : List Expr} {kk : Nat} {tpos : Pos} (a e it : Addr) (na : a ≠ it) (ne : e ≠ it) (nea : e ≠ a) :
    Turn P w K (.Tuple elts kk tpos) (ItN K a) [e, it] e (fun i h => (∃ old, IsEnum h e it ((i : Nat) : Int) old) ∧ h.IsTupleIter it a i) where
  mem := by simp
  obj := fun i h st b hb => by
    obtain ⟨⟨old, c1⟩, ⟨o, c2, _, d2⟩⟩ := st
    have e' : b = e ∨ b = it := by simpa using hb
    rcases e' with rfl | rfl
    · exact ⟨_, c1, fun v q => nomatch q⟩
    · exact ⟨o, c2, fun v q => by rw [d2] at q; cases q⟩
  keep := fun i h h' st k => by
    obtain ⟨⟨old, c1⟩, c2⟩ := st
    exact ⟨⟨old, k _ (by simp) _ c1⟩, c2.at fun o q => k _ (by simp) o q⟩
  item := by
    intro X hP hw hK hc i pins s σ H E I hf st hg
    subst hP hw hK
    obtain ⟨⟨old, c1⟩, c2⟩ := st
    obtain ⟨xs, x, qx, hx⟩ := hg
    obtain ⟨us, ru, pu, _⟩ := I.tuple qx
    obtain ⟨u, hu, r1⟩ := ru.get hx
    have le : e < s.heap.objs.size := Heap.lt_size c1
    have li : it < s.heap.objs.size := c2.elim fun _ q => Heap.lt_size q.1
    have D := Draws.tuple (prog := X.prog) (w := X.w) (A := X.A.in1) (I.ok.hd hc) it a na us.toArray
    have hi : i < us.toArray.size := by
      have hu' : us[i]? = some u := by simpa using hu
      have := (List.getElem?_eq_some_iff.mp hu').1
      simpa using this
    refine wpAny_pyNext_enum_itemC D c1 ⟨c2, (show s.heap.IsTuple a us.toArray from pu)⟩ hi ne (by simp [ne, nea]) fun y h' tk hy d1 d2 d3 d4 hk => ?_
    have ey : y = u := by
      have h1 : us[i]? = some y := by simpa using hy
      have h2 : us[i]? = some u := by simpa using hu
      rw [h1] at h2
      exact Option.some.inj h2
    subst ey
    refine ⟨_, rfl, wpAny_letOwnedTupleGo_enum (s := { s with heap := h', toks := tk + 1 }) d1 fun h2 e1 sb => ?_⟩
    have nT : h2.get? s.heap.objs.size = some { cls := .type "tuple", data := .seq #[.int i tk, y] } := (sb.2 _ (Nat.ne_of_gt le)).trans d3
    have new : ObjOk X.prog X.w (upd H s.heap.objs.size (.tup [.int (i : Nat), x])) h2 s.heap.objs.size (.tup [.int (i : Nat), x]) :=
      ⟨by show 2 ≤ sizeLine; decide, [.int i tk, y], .cons ⟨_, rfl⟩ (.cons r1 .nil), ⟨_, nT, rfl, _, rfl⟩⟩
    have I1 : Inv X pins σ (upd H s.heap.objs.size (.tup [.int (i : Nat), x])) { s with heap := h2, toks := tk + 1 } := by
      refine I.turnedNew (ch := [e, it]) (fun b o hb q => (sb.2 b ?_).trans (hk b o ?_ ?_ q)) hf (Nat.le_refl _) new
      all_goals exact fun q' => hb (by simp [q'])
    refine ⟨.ref s.heap.objs.size, _, I1, rfl, ⟨_, x, rfl, I.hok.fresh (Nat.le_refl _), rfl, fun l hl => by rw [I.tuple_inj hl qx]; exact hx⟩, ⟨⟨y, ?_⟩, d2.1.at fun o q => (sb.2 it (Ne.symm ne)).trans q⟩, fun b hb => ?_⟩
    · have e2 : ((i + 1 : Nat) : Int) = (i : Int) + 1 := by omega
      rw [e2]
      exact e1
    · have lt : b < s.heap.objs.size := by
        have e' : b = e ∨ b = it := by simpa using hb
        rcases e' with rfl | rfl
        · exact le
        · exact li
      rw [upd_ne (Nat.ne_of_lt lt)]
      exact (hf b hb).1
  done := by
    intro X hP hw hK hc i pins s σ H E I hf st hg
    subst hP hw hK
    obtain ⟨⟨old, c1⟩, c2⟩ := st
    obtain ⟨xs, qx, hx⟩ := hg
    obtain ⟨us, ru, pu, _⟩ := I.tuple qx
    have hl := ru.length
    have D := Draws.tuple (prog := X.prog) (w := X.w) (A := X.A.in1) (I.ok.hd hc) it a na us.toArray
    have hi : us.toArray.size = i := by simp; omega
    refine wpAny_pyNext_enum_endD D c1 (by rw [hi]; exact ⟨c2, (show s.heap.IsTuple a us.toArray from pu)⟩) fun h' eb => ⟨rfl, I.turnedL (t' := s.toks) (ch := [e, it]) (fun b o hb q => eb b o ?_ q) hf⟩
    exact fun q' => hb (by simp [q'])
  self := fun A i s Q E st h => let ⟨⟨_, c1⟩, _⟩ := st; wpAny_pyIter_enum c1 h
theorem walk_en {K : PySem.W.Frag} {a : Addr} {xs : List V} : Walk (ItN K a) xs.length (fun H => SqT K H a xs) (YPair (fun i => some (.int (i : Nat))) (fun i => xs[i]?)) := by
  refine ⟨fun i _ hi q => ⟨xs, xs[i], q, by simp [hi]⟩, fun _ q => ⟨xs, q, rfl⟩, fun i H v H' _ q y => ?_⟩
  obtain ⟨T, x, h1, h2, h3, h4⟩ := y
  exact ⟨T, .int (i : Nat), x, h1, h2, h3, rfl, h4 xs q⟩
def iEn (K : PySem.W.Frag) (ta : TA) : TI := fun σ H R => ta σ H fun vs H1 => ∃ a xs, vs = [.ref a] ∧ SqT K H1 a xs ∧ R (ItN K a) H1
theorem pi_en {X : Cx} {K : PySem.W.Frag} {e : Expr} {ta : TA} {p pos tpos : Pos} {elts : List Expr} {kk : Nat} (hK : X.K = K) (hg : Gl X "enumerate") (hm : X.mg "enumerate" = none) (ha : PA X [e] ta) (hs : starEach [e] X.env = [(false, eval e X.env)] := by rfl) :
    PI X (.Tuple elts kk tpos) (.Call (.Name "enumerate" p) [e] [] pos) (iEn K ta) := by
  subst hK
  refine ⟨fun pins s σ H R I h => ?_⟩
  refine Call_ (ld_blt I hg hm boot_enumerate (PyProof.Rows.callWith_type1 (thn (ha.run pos pins s σ H _ I h) fun us s1 ⟨vs, H1, I1, r1, q1⟩ => ?_) hs rfl))
  obtain ⟨a, xs, ex, hq, q⟩ := q1
  subst ex
  cases r1 with
  | cons r rr =>
    cases rr
    cases r
    obtain ⟨vs, rv, pv, _⟩ := I1.tuple hq
    have pt : s1.heap.IsTuple a vs.toArray := pv
    have la : a < s1.heap.objs.size := pt.elim fun _ q => Heap.lt_size q.1
    refine call_en (begins_tuple a vs.toArray) pt fun h' c1 c2 hk => wpAny_pyIter_enum c1 ?_
    refine ⟨s1.heap.objs.size + 1, [s1.heap.objs.size + 1, s1.heap.objs.size], _, _, H1, rfl, I1.kept (t' := s1.toks) hk, turn_en a (s1.heap.objs.size + 1) s1.heap.objs.size (Nat.ne_of_lt la) (Nat.succ_ne_self _) (Nat.ne_of_gt (Nat.lt_succ_of_lt la)), ⟨⟨.none, c1⟩, ⟨_, c2, rfl, rfl⟩⟩, fun b hb => ?_, q⟩
    have e' : b = s1.heap.objs.size + 1 ∨ b = s1.heap.objs.size := by simpa using hb
    have le : s1.heap.objs.size ≤ b := by
      rcases e' with w | w <;> (rw [w]; first | exact Nat.le_refl _ | exact Nat.le_add_right _ _)
    exact I1.fpOk le (I1.hok.fresh le)
end ET

/-! zip(xs, ys, strict=True) over two lists of one length -/
namespace ZS
section
variable {prog : Program} {w : World} {A : Around} {E : Value → Shared → Prop} {s : Shared}
abbrev Zs (h : Heap) (z TI TO : Addr) (f : Value) : Prop :=
  h.get? z = some { cls := .type "zip", dict := none, data := .fields #[f, .bool false, .bool true, .ref TI, .ref TO], slots := #[] }
theorem noe_item {it l : Addr} {i : Nat} {items : Array Value} {x : Value} {Q : Option Value → Shared → Prop} (a1 : s.heap.IsListIter it l i) (a2 : s.heap.IsList l items) (a3 : items[i]? = some x)
    (q : ∀ h', h'.IsListIter it l (i + 1) → Heap.SameBut it s.heap h' → Q (some x) { s with heap := h' }) : wpAny (model prog w) A (Builtin.SmallTypes.nextOrEnd (.ref it)) Q E s := by
  unfold Builtin.SmallTypes.nextOrEnd
  exact wpAny_bind (wpAny_attempt (wpAny_nextOf_list_item a1 a2 a3 fun h' b1 b2 => wpAny_pure (q h' b1 b2)))
theorem noe_end {it l : Addr} {i : Nat} {items : Array Value} {Q : Option Value → Shared → Prop} (hh : A.handled = none) (a1 : s.heap.IsListIter it l i) (a2 : s.heap.IsList l items) (a3 : items[i]? = none)
    (q : ∀ h', Heap.ExtBut it s.heap h' → Q none { s with heap := h' }) : wpAny (model prog w) A (Builtin.SmallTypes.nextOrEnd (.ref it)) Q E s := by
  unfold Builtin.SmallTypes.nextOrEnd
  refine wpAny_bind (wpAny_attempt (wpAny_nextOf_list_end hh a1 a2 a3 fun h' e b1 b2 => ?_))
  obtain ⟨o, c1, c2⟩ := b2
  refine wpAny_bind (wpAny_isInstance (T := "StopIteration") (b := true) ⟨o, c1, c2⟩ isSubtype_stop ?_)
  exact wpAny_pure (q h' b1)
variable {z TI TO i1 i2 l1 l2 : Addr} {k : Nat} {xs ys : Array Value} {x y a b : Value}
theorem zs_item {Q : Value → Shared → Prop} (D : ZipApart z TI TO i1 i2 l1 l2)
    (cz : Zs s.heap z TI TO .none) (cI : IsPair s.heap TI (.ref i1) (.ref i2)) (cO : IsPair s.heap TO a b)
    (e1 : s.heap.IsListIter i1 l1 k) (e2 : s.heap.IsListIter i2 l2 k) (d1 : s.heap.IsList l1 xs) (d2 : s.heap.IsList l2 ys) (gx : xs[k]? = some x) (gy : ys[k]? = some y)
    (q : ∀ h', Zs h' z TI TO (rawInt s.heap.objs.size) → IsPair h' TO x y → h'.IsListIter i1 l1 (k + 1) → h'.IsListIter i2 l2 (k + 1) → IsPair h' s.heap.objs.size x y → h'.objs.size = s.heap.objs.size + 1 →
      (∀ c o, c ≠ z → c ≠ TO → c ≠ i1 → c ≠ i2 → s.heap.get? c = some o → h'.get? c = some o) → Q (.ref s.heap.objs.size) { s with heap := h' }) :
    wpAny (model prog w) A (Builtin.«zip.__next__» ⟨[.ref z], []⟩) (fun fin s' => ∃ v, fin = .done (.ret v) ∧ Q v s') E s := by
  show wpAny _ _ (field (.ref z) 2 >>= _) _ _ _
  refine wpAny_bind (wpAny_field cz rfl (x := .bool true) rfl ?_)
  show wpAny _ _ (field (.ref z) 3 >>= _) _ _ _
  refine wpAny_bind (wpAny_field cz rfl (x := .ref TI) rfl ?_)
  refine wpAny_bind (wpAny_seqItems cI rfl ?_)
  show wpAny _ _ (Builtin.SmallTypes.ownedTupleIsFree (.ref z) >>= _) _ _ _
  refine wpAny_bind ?_
  unfold Builtin.SmallTypes.ownedTupleIsFree
  refine wpAny_bind (wpAny_field cz rfl (x := .none) rfl (wpAny_pure ?_))
  simp only [if_true]
  refine wpAny_bind (wpAny_rule ?_)
  refine wpAny_bind (wpAny_field cz rfl (x := .ref TO) rfl ?_)
  refine wpAny_bind (wpAny_setField_rec cz (by simp) fun ha ca sa => ?_)
  replace ca : Zs ha z TI TO .ellipsis := ca
  refine wpAny_bind ?_
  simp only [List.zipIdx_cons, List.zipIdx_nil, List.forIn_cons, List.forIn_nil]
  refine wpAny_bind (wpAny_bind (wpAny_onRaise ?_))
  show wpAny _ _ (Builtin.SmallTypes.nextOrEnd (.ref i1)) _ _ _
  refine noe_item (e1.extBut sa.extBut D.i1z) (d1.extBut sa.extBut D.l1z) gx fun hb eb sb => ?_
  have ob : IsPair hb TO a b := sb.extBut _ _ D.TOi1 (sa.extBut _ _ D.TOz cO)
  refine wpAny_bind (wpAny_seqItems ob rfl ?_)
  refine wpAny_bind (wpAny_updateSeq_pair ob fun hc oc sc => ?_)
  replace oc : IsPair hc TO x b := oc
  refine wpAny_bind (wpAny_letGo (wpAny_pure ?_))
  refine wpAny_bind (wpAny_bind (wpAny_onRaise ?_))
  show wpAny _ _ (Builtin.SmallTypes.nextOrEnd (.ref i2)) _ _ _
  refine noe_item (((e2.extBut sa.extBut D.i2z).extBut sb.extBut D.i12.symm).extBut sc.extBut D.TOi2.symm)
    (((d2.extBut sa.extBut D.l2z).extBut sb.extBut D.l2i1).extBut sc.extBut D.l2TO) gy fun hd ed sd => ?_
  have od : IsPair hd TO x b := sd.extBut _ _ D.TOi2 oc
  refine wpAny_bind (wpAny_seqItems od rfl ?_)
  refine wpAny_bind (wpAny_updateSeq_pair od fun he oe se => ?_)
  replace oe : IsPair he TO x y := oe
  refine wpAny_bind (wpAny_letGo (wpAny_pure (wpAny_pure ?_)))
  refine wpAny_bind (wpAny_seqItems oe rfl ?_)
  refine wpAny_bind (wpAny_newTuple ?_)
  have ez : he.objs.size = s.heap.objs.size := by rw [se.1, sd.1, sc.1, sb.1, sa.1]
  have ce : Zs he z TI TO .ellipsis := se.extBut _ _ D.TOz.symm (sd.extBut _ _ D.i2z.symm (sc.extBut _ _ D.TOz.symm (sb.extBut _ _ D.i1z.symm ca)))
  have ke : ∀ c o, c ≠ z → c ≠ TO → c ≠ i1 → c ≠ i2 → s.heap.get? c = some o → he.get? c = some o := fun c o c1 c2 c3 c4 e =>
    se.extBut _ _ c2 (sd.extBut _ _ c4 (sc.extBut _ _ c2 (sb.extBut _ _ c3 (sa.extBut _ _ c1 e))))
  have ee1 : he.IsListIter i1 l1 (k + 1) := ((eb.extBut sc.extBut D.TOi1.symm).extBut sd.extBut D.i12).extBut se.extBut D.TOi1.symm
  have ee2 : he.IsListIter i2 l2 (k + 1) := ed.extBut se.extBut D.TOi2.symm
  have lz : z < he.objs.size := Heap.lt_size ce
  show wpAny _ _ (Builtin.SmallTypes.ownedTupleHandOut (.ref z) (.ref he.objs.size) >>= _) _ _ _
  refine wpAny_bind ?_
  unfold Builtin.SmallTypes.ownedTupleHandOut
  have cf : Zs (he.push { cls := .type "tuple", data := .seq #[x, y] }) z TI TO .ellipsis := Heap.get?_push_of_some _ ce
  refine wpAny_bind (wpAny_setField_rec cf (by simp) fun hg cg sg => ?_)
  replace cg : Zs hg z TI TO (rawInt he.objs.size) := cg
  refine wpAny_setField_rec cg (by simp) fun hi ci si => ?_
  replace ci : Zs hi z TI TO (rawInt he.objs.size) := ci
  have up : ∀ c o, c ≠ z → he.get? c = some o → hi.get? c = some o := fun c o c1 e => si.extBut _ _ c1 (sg.extBut _ _ c1 (Heap.get?_push_of_some _ e))
  have ti : IsPair hi he.objs.size x y := si.extBut _ _ (Nat.ne_of_gt lz) (sg.extBut _ _ (Nat.ne_of_gt lz) (Heap.get?_push_size _ rfl))
  have zi : hi.objs.size = he.objs.size + 1 := by rw [si.1, sg.1, Heap.size_push]
  rw [ez] at ci ti zi
  refine wpAny_pure ⟨_, rfl, ?_⟩
  show Q (.ref he.objs.size) _
  rw [ez]
  exact q hi ci (up _ _ D.TOz oe) (ee1.at fun o e => up _ o D.i1z e) (ee2.at fun o e => up _ o D.i2z e) ti zi fun c o c1 c2 c3 c4 e => up c o c1 (ke c o c1 c2 c3 c4 e)
theorem zs_end {Q : Fin → Shared → Prop} (hh : A.handled = none) (D : ZipApart z TI TO i1 i2 l1 l2)
    (cz : Zs s.heap z TI TO .none) (cI : IsPair s.heap TI (.ref i1) (.ref i2)) (cO : IsPair s.heap TO a b)
    (e1 : s.heap.IsListIter i1 l1 k) (e2 : s.heap.IsListIter i2 l2 k) (d1 : s.heap.IsList l1 xs) (d2 : s.heap.IsList l2 ys) (gx : xs[k]? = none) (gy : ys[k]? = none)
    (q : ∀ h' e, (∀ c o, c ≠ z → c ≠ TO → c ≠ i1 → c ≠ i2 → s.heap.get? c = some o → h'.get? c = some o) → (∃ o, h'.get? e = some o ∧ o.cls = .type "StopIteration") → E (.ref e) { s with heap := h' }) :
    wpAny (model prog w) A (Builtin.«zip.__next__» ⟨[.ref z], []⟩) Q E s := by
  show wpAny _ _ (field (.ref z) 2 >>= _) _ _ _
  refine wpAny_bind (wpAny_field cz rfl (x := .bool true) rfl ?_)
  show wpAny _ _ (field (.ref z) 3 >>= _) _ _ _
  refine wpAny_bind (wpAny_field cz rfl (x := .ref TI) rfl ?_)
  refine wpAny_bind (wpAny_seqItems cI rfl ?_)
  show wpAny _ _ (Builtin.SmallTypes.ownedTupleIsFree (.ref z) >>= _) _ _ _
  refine wpAny_bind ?_
  unfold Builtin.SmallTypes.ownedTupleIsFree
  refine wpAny_bind (wpAny_field cz rfl (x := .none) rfl (wpAny_pure ?_))
  simp only [if_true]
  refine wpAny_bind (wpAny_rule ?_)
  refine wpAny_bind (wpAny_field cz rfl (x := .ref TO) rfl ?_)
  refine wpAny_bind (wpAny_setField_rec cz (by simp) fun ha ca sa => ?_)
  replace ca : Zs ha z TI TO .ellipsis := ca
  refine wpAny_bind ?_
  simp only [List.zipIdx_cons, List.zipIdx_nil, List.forIn_cons, List.forIn_nil]
  refine wpAny_bind (wpAny_bind (wpAny_onRaise ?_))
  show wpAny _ _ (Builtin.SmallTypes.nextOrEnd (.ref i1)) _ _ _
  refine noe_end hh (e1.extBut sa.extBut D.i1z) (d1.extBut sa.extBut D.l1z) gx fun hb sb => ?_
  have cb : Zs hb z TI TO .ellipsis := sb _ _ D.i1z.symm ca
  refine wpAny_bind (wpAny_setField_rec cb (by simp) fun hc _ sc => ?_)
  refine wpAny_bind ?_
  show wpAny _ _ (forIn (List.zipIdx (List.drop 1 [Value.ref i1, Value.ref i2]) 1) _ _ >>= _) _ _ _
  simp only [List.drop_succ_cons, List.drop_zero, List.zipIdx_cons, List.zipIdx_nil, List.forIn_cons, List.forIn_nil]
  refine wpAny_bind (wpAny_bind ?_)
  refine wpAny_bind (noe_end hh ((e2.extBut sa.extBut D.i2z).at fun o e => sc.extBut _ _ D.i2z (sb _ _ D.i12.symm e)) ((d2.extBut sa.extBut D.l2z).at fun o e => sc.extBut _ _ D.l2z (sb _ _ D.l2i1 e)) gy fun hd sd => ?_)
  refine wpAny_pure (wpAny_pure ?_)
  refine wpAny_bind (wpAny_rule ?_)
  unfold Builtin.SmallTypes.stopIteration
  refine wpAny_bind ?_
  simp only [newExc, newTuple]
  refine wpAny_bind (wpAny_newObj_type ?_ (by size_fits))
  refine wpAny_bind (m := firstArgMember _ _) (wpAny_of_eq (a := Value.none) (by first | rfl | (simp only [firstArgMember]; rfl)) ?_)
  refine wpAny_newObj_type ?_ (by size_fits)
  simp only [raiseNew]
  refine wpAny_bind (wpAny_handled ?_)
  first | rw [show A.in1.handled = none from hh] | rw [hh]
  refine wpAny_bind (wpAny_pure (wpAny_throw ?_))
  exact q _ _ (fun c o c1 _ c3 c4 e => Heap.get?_push_of_some _ (Heap.get?_push_of_some _ (sd _ _ c4 (sc.extBut _ _ c1 (sb _ _ c3 (sa.extBut _ _ c1 e)))))) ⟨_, Heap.get?_push_size _ rfl, rfl⟩
theorem next_item {Q : Option Value → Shared → Prop} (D : ZipApart z TI TO i1 i2 l1 l2)
    (cz : Zs s.heap z TI TO .none) (cI : IsPair s.heap TI (.ref i1) (.ref i2)) (cO : IsPair s.heap TO a b)
    (e1 : s.heap.IsListIter i1 l1 k) (e2 : s.heap.IsListIter i2 l2 k) (d1 : s.heap.IsList l1 xs) (d2 : s.heap.IsList l2 ys) (gx : xs[k]? = some x) (gy : ys[k]? = some y)
    (q : ∀ h', Zs h' z TI TO (rawInt s.heap.objs.size) → IsPair h' TO x y → h'.IsListIter i1 l1 (k + 1) → h'.IsListIter i2 l2 (k + 1) → IsPair h' s.heap.objs.size x y → h'.objs.size = s.heap.objs.size + 1 →
      (∀ c o, c ≠ z → c ≠ TO → c ≠ i1 → c ≠ i2 → s.heap.get? c = some o → h'.get? c = some o) → Q (some (.ref s.heap.objs.size)) { s with heap := h' }) :
    wpAny (model prog w) A (pyNext (.ref z)) Q E s := by
  have ty : s.TypeIs (.ref z) "zip" := ⟨_, cz, rfl⟩
  unfold pyNext
  refine wpAny_bind (wpAny_attempt (wpAny_callSpecial?_slot (name := Str.ofString "__next__") ty F.slot_zip_next (wpAny_call_entry F.slot_zip_next ty F.entry_zip_next ?_ (F.args_zip_next_1 _))))
  exact zs_item D cz cI cO e1 e2 d1 d2 gx gy fun h' a1 a2 a3 a4 a5 a6 a7 => wpAny_pure (q h' a1 a2 a3 a4 a5 a6 a7)
theorem next_end {Q : Option Value → Shared → Prop} (hh : A.handled = none) (D : ZipApart z TI TO i1 i2 l1 l2)
    (cz : Zs s.heap z TI TO .none) (cI : IsPair s.heap TI (.ref i1) (.ref i2)) (cO : IsPair s.heap TO a b)
    (e1 : s.heap.IsListIter i1 l1 k) (e2 : s.heap.IsListIter i2 l2 k) (d1 : s.heap.IsList l1 xs) (d2 : s.heap.IsList l2 ys) (gx : xs[k]? = none) (gy : ys[k]? = none)
    (q : ∀ h', (∀ c o, c ≠ z → c ≠ TO → c ≠ i1 → c ≠ i2 → s.heap.get? c = some o → h'.get? c = some o) → Q none { s with heap := h' }) :
    wpAny (model prog w) A (pyNext (.ref z)) Q E s := by
  have ty : s.TypeIs (.ref z) "zip" := ⟨_, cz, rfl⟩
  unfold pyNext
  refine wpAny_bind (wpAny_attempt (wpAny_callSpecial?_slot (name := Str.ofString "__next__") ty F.slot_zip_next (wpAny_call_entry F.slot_zip_next ty F.entry_zip_next ?_ (F.args_zip_next_1 _))))
  refine zs_end hh D cz cI cO e1 e2 d1 d2 gx gy fun h' e a1 a2 => ?_
  obtain ⟨o, c1, c2⟩ := a2
  refine wpAny_bind (wpAny_isInstance (T := "StopIteration") (b := true) ⟨o, c1, c2⟩ isSubtype_stop ?_)
  exact wpAny_pure (q h' a1)
theorem go_zs {elts : List Expr} {m : Nat} {pos : Pos} {T : Addr} {Q : Unit → Shared → Prop} (cz : Zs s.heap z TI TO (rawInt T))
    (q : ∀ h', Zs h' z TI TO .none → Heap.SameBut z s.heap h' → Q () { s with heap := h' }) : wpAny (model prog w) A (letOwnedTupleGo (.Tuple elts m pos) (.ref z) (.ref T)) Q E s := by
  unfold letOwnedTupleGo
  refine wpAny_bind (wpAny_load cz ?_)
  show wpAny _ _ (if (["enumerate", "zip", "dict_itemiterator", "dict_reverseitemiterator", "odict_iterator", "itertools.zip_longest", "itertools.pairwise"].contains "zip" && (#[rawInt T, .bool false, .bool true, .ref TI, .ref TO] : Array Value)[0]? == some (rawInt T)) = true then _ else _) Q E s
  rw [if_pos (by simp)]
  refine wpAny_bind (wpAny_rule ?_)
  show wpAny _ _ (setField (.ref z) 0 .none) Q E s
  exact wpAny_setField_rec cz (by simp) fun h' a1 a2 => q h' a1 a2
theorem iter_zs {f : Value} {Q : Value → Shared → Prop} (cz : Zs s.heap z TI TO f) (q : Q (.ref z) s) : wpAny (model prog w) A (pyIter (.ref z)) Q E s := by
  have ty : s.TypeIs (.ref z) "zip" := ⟨_, cz, rfl⟩
  refine wpAny_pyIter_slot ty F.slot_zip_iter (wpAny_call_entry F.slot_zip_iter ty F.entry_zip_iter ?_ (F.args_zip_iter_1 _))
  show wpAny _ _ (ret (.ref z)) _ _ s
  exact wpAny_pure ⟨_, rfl, "zip", _, ty, F.slot_zip_next.lookup, q⟩
end
theorem tc_zs (a b : Value) : checkTypeCall "zip" ⟨[a, b], [(Str.ofString "strict", .bool true)]⟩ = pure () := by kernel_rfl
theorem nc_zs (a b : Value) : checkBuiltinCall "zip.__new__" ⟨[.type "zip", a, b], [(Str.ofString "strict", .bool true)]⟩ = pure () := by kernel_rfl
theorem ai_zs (o a b : Value) : argsOk "object.__init__" ⟨[o, a, b], [(Str.ofString "strict", .bool true)]⟩ := by unfold argsOk; kernel_rfl
abbrev zp (h : Heap) (l1 l2 : Addr) : Heap := (zipH4 h l1 l2).push { cls := .type "zip", data := .fields #[.none, .bool false, .bool true, .ref (zipH2 h l1 l2).objs.size, .ref (zipH3 h l1 l2).objs.size] }
theorem meets_zs (l1 l2 : Addr) (xs ys : Array Value) : Meets (Builtin.«zip.__new__» ⟨[.type "zip", .ref l1, .ref l2], [(Str.ofString "strict", .bool true)]⟩) (fun _ R s => s.heap.IsList l1 xs ∧ s.heap.IsList l2 ys ∧
      R (.ok (.ret (.ref (zipH4 s.heap l1 l2).objs.size))) { s with heap := zp s.heap l1 l2 }) := by
  refine .of_wp fun prog w A R s h => ?_
  obtain ⟨hp, g, d, tk, os⟩ := s
  obtain ⟨k1, k2, h⟩ := h
  have hsub := sub_zip
  have m1 : Heap.IsList (Shared.heap ⟨hp, g, d, tk, os⟩) l1 xs := k1
  have m2 : Heap.IsList (Shared.heap ⟨hp.push { cls := .type "list_iterator", data := .fields #[.ref l1, .int 0 0] }, g, d, tk, os⟩) l2 ys := Heap.IsList.push k2 _
  have s1 : (Str.ofString "strict" != ("strict" : Str)) = false := by decide +kernel
  wp_walk using wpAny_pyIter_list m1, wpAny_pyIter_list m2
  exact ⟨_, rfl, h⟩
section
variable {prog : Program} {w : World} {A : Around} {E : Value → Shared → Prop} {s : Shared}
theorem call_zs {l1 l2 : Addr} {xs ys : Array Value} {Q : Value → Shared → Prop} (k1 : s.heap.IsList l1 xs) (k2 : s.heap.IsList l2 ys)
    (q : ∀ h', Zs h' (s.heap.objs.size + 4) (s.heap.objs.size + 2) (s.heap.objs.size + 3) .none → IsPair h' (s.heap.objs.size + 2) (.ref s.heap.objs.size) (.ref (s.heap.objs.size + 1)) →
      IsPair h' (s.heap.objs.size + 3) .none .none → h'.IsListIter s.heap.objs.size l1 0 → h'.IsListIter (s.heap.objs.size + 1) l2 0 →
      (∀ c o, s.heap.get? c = some o → h'.get? c = some o) → Q (.ref (s.heap.objs.size + 4)) { s with heap := h' }) :
    wpAny (model prog w) A (call (.type "zip") [.ref l1, .ref l2] [(Str.ofString "strict", .bool true)]) Q E s := by
  refine callType_newKw F.called_zip (by decide) (tc_zs _ _) (nc_zs _ _) (fun o => ai_zs o _ _) F.entry_zip_new (meets_zs l1 l2 xs ys) ⟨k1, k2, ?_⟩
  have n1 : (zipH1 s.heap l1).objs.size = s.heap.objs.size + 1 := Heap.size_push ..
  have n2 : (zipH2 s.heap l1 l2).objs.size = s.heap.objs.size + 2 := by rw [Heap.size_push, n1]
  have n3 : (zipH3 s.heap l1 l2).objs.size = s.heap.objs.size + 3 := by rw [Heap.size_push, n2]
  have n4 : (zipH4 s.heap l1 l2).objs.size = s.heap.objs.size + 4 := by rw [Heap.size_push, n3]
  have p5 : (zp s.heap l1 l2).get? (zipH4 s.heap l1 l2).objs.size = some _ := Heap.get?_push_size _ rfl
  have p4 : (zp s.heap l1 l2).get? (zipH3 s.heap l1 l2).objs.size = some _ := Heap.get?_push_of_some _ (Heap.get?_push_size _ rfl)
  have p3 : (zp s.heap l1 l2).get? (zipH2 s.heap l1 l2).objs.size = some _ := Heap.get?_push_of_some _ (Heap.get?_push_of_some _ (Heap.get?_push_size _ rfl))
  have p2 : (zp s.heap l1 l2).get? (zipH1 s.heap l1).objs.size = some _ := Heap.get?_push_of_some _ (Heap.get?_push_of_some _ (Heap.get?_push_of_some _ (Heap.get?_push_size _ rfl)))
  have p1 : (zp s.heap l1 l2).get? s.heap.objs.size = some _ := Heap.get?_push_of_some _ (Heap.get?_push_of_some _ (Heap.get?_push_of_some _ (Heap.get?_push_of_some _ (Heap.get?_push_size _ rfl))))
  show _ ∧ _
  rw [n2, n3, n4] at p5
  rw [n1, n2] at p3
  rw [n3] at p4
  rw [n1] at p2
  rw [n4]
  exact ⟨⟨_, p5, rfl⟩, q _ p5 p3 p4 ⟨_, p1, rfl, rfl⟩ ⟨_, p2, rfl, rfl⟩ fun c o e => Heap.get?_push_of_some _ (Heap.get?_push_of_some _ (Heap.get?_push_of_some _ (Heap.get?_push_of_some _ (Heap.get?_push_of_some _ e))))⟩
/-- callee T, one keyword -/
theorem callWithT_kw {env : Env} {pos : Pos} {T : String} {e : Expr} {rest : List Expr} {kws : List Keyword} {Q : Value → Shared → Prop}
    (h : wpAny (model prog w) A (spliced (backTo pos (starEach (e :: rest) env))) (fun vs s1 => wpAny (model prog w) A (evalAll ((backToKw pos (keywordEach kws env)).map (·.2)))
      (fun ks s2 => wpAny (model prog w) A (call (.type T) vs (((backToKw pos (keywordEach kws env)).filterMap (·.1)).zip ks)) Q E s2) E s1) E s)
    (he : backTo pos (starEach (e :: rest) env) = (false, eval e env) :: backTo pos (starEach rest env))
    (hp : (backTo pos (starEach (e :: rest) env)).any (·.1) = false)
    (ha : (backToKw pos (keywordEach kws env)).all (·.1.isSome) = true)
    (hn : (backToKw pos (keywordEach kws env)).any (·.1.isNone) = false) :
    wpAny (model prog w) A (callWith pos (.type T) [] (backTo pos (starEach (e :: rest) env)) (backToKw pos (keywordEach kws env))) Q E s := by
  unfold callWith
  rw [he] at h hp ⊢
  have h0 : wpAny (model prog w) A (evalArgs (.type T) true ((false, eval e env) :: backTo pos (starEach rest env)) (backToKw pos (keywordEach kws env))) (fun a s1 => wpAny (model prog w) A (call (.type T) ([] ++ a.pos) a.kw) Q E s1) E s := PyProof.Rows.evalArgs_kwB ha h
  refine wpAny_bind (wpAny_holding (wpAny_mono h0 (fun a s1 h1 => wpAny_bind (wpAny_standAt ?_)) fun _ _ x => x))
  simp only [hp, hn, Bool.or_false]
  refine wpAny_bind (wpAny_pure ?_)
  exact wpAny_bind (wpAny_mono h1 (fun r s2 hr => wpAny_bind (wpAny_holding (wpAny_point (wpAny_pure hr)))) fun _ _ x => x)
end
/-- both lists, of one length -/
def ItS (K : PySem.W.Frag) (a b : Addr) : It :=
  ⟨fun i H => ∃ (xs ys : List V) (x y : V), SqL K H a xs ∧ SqL K H b ys ∧ xs[i]? = some x ∧ ys[i]? = some y,
    fun i H v H' => ∃ T x y, v = .ref T ∧ H T = none ∧ H' = upd H T (.tup [x, y]) ∧ (∀ xs, SqL K H a xs → xs[i]? = some x) ∧ ∀ ys, SqL K H b ys → ys[i]? = some y,
    fun i H => ∃ xs ys : List V, SqL K H a xs ∧ SqL K H b ys ∧ xs.length ≤ i ∧ ys.length ≤ i⟩
theorem turn_zs {P : Program} {w : World} {K : PySem.W.Frag} {elts : List Expr} {kk : Nat} {tpos : Pos} {a b z TI TO i1 i2 : Addr} (D : ZipApart z TI TO i1 i2 a b) :
    Turn P w K (.Tuple elts kk tpos) (ItS K a b) [z, TI, TO, i1, i2] z (fun i h => Zs h z TI TO .none ∧ IsPair h TI (.ref i1) (.ref i2) ∧ (∃ x y, IsPair h TO x y) ∧ h.IsListIter i1 a i ∧ h.IsListIter i2 b i) where
  mem := by simp
  obj := fun i h st c hc => by
    obtain ⟨c1, c2, ⟨_, _, c3⟩, ⟨o1, c4, _, d1⟩, ⟨o2, c5, _, d2⟩⟩ := st
    have e' : c = z ∨ c = TI ∨ c = TO ∨ c = i1 ∨ c = i2 := by simpa using hc
    rcases e' with rfl | rfl | rfl | rfl | rfl
    · exact ⟨_, c1, fun v q => nomatch q⟩
    · exact ⟨_, c2, fun v q => nomatch q⟩
    · exact ⟨_, c3, fun v q => nomatch q⟩
    · exact ⟨o1, c4, fun v q => by rw [d1] at q; cases q⟩
    · exact ⟨o2, c5, fun v q => by rw [d2] at q; cases q⟩
  keep := fun i h h' st k => by
    obtain ⟨c1, c2, ⟨x, y, c3⟩, c4, c5⟩ := st
    exact ⟨k _ (by simp) _ c1, k _ (by simp) _ c2, ⟨x, y, k _ (by simp) _ c3⟩, c4.at fun o q => k _ (by simp) o q, c5.at fun o q => k _ (by simp) o q⟩
  item := by
    intro X hP hw hK hc i pins s σ H E I hf st hg
    subst hP hw hK
    obtain ⟨c1, c2, ⟨x0, y0, c3⟩, c4, c5⟩ := st
    obtain ⟨xs, ys, x, y, qx, qy, hx, hy⟩ := hg
    obtain ⟨us, ru, pu, _⟩ := I.list qx
    obtain ⟨vs, rv, pv, _⟩ := I.list qy
    obtain ⟨u, hu, r1⟩ := ru.get hx
    obtain ⟨v, hv, r2⟩ := rv.get hy
    have lz : z < s.heap.objs.size := Heap.lt_size c1
    refine next_item D c1 c2 c3 c4 c5 pu.isList pv.isList (x := u) (y := v) (by simpa using hu) (by simpa using hv) fun h' d1 d2 d3 d4 d5 _ hk => ?_
    refine ⟨_, rfl, go_zs (s := { s with heap := h' }) d1 fun h2 e1 sb => ?_⟩
    have nT : h2.get? s.heap.objs.size = some { cls := .type "tuple", data := .seq #[u, v] } := (sb.2 _ (Nat.ne_of_gt lz)).trans d5
    have new : ObjOk X.prog X.w (upd H s.heap.objs.size (.tup [x, y])) h2 s.heap.objs.size (.tup [x, y]) :=
      ⟨by show 2 ≤ sizeLine; decide, [u, v], .cons r1 (.cons r2 .nil), ⟨_, nT, rfl, _, rfl⟩⟩
    have I1 : Inv X pins σ (upd H s.heap.objs.size (.tup [x, y])) { s with heap := h2 } := by
      refine I.turnedNew (t' := s.toks) (ch := [z, TI, TO, i1, i2]) (fun c o hb q => (sb.2 c (fun q' => hb (by simp [q']))).trans (hk c o ?_ ?_ ?_ ?_ q)) hf (Nat.le_refl _) new
      all_goals exact fun q' => hb (by simp [q'])
    refine ⟨.ref s.heap.objs.size, _, I1, rfl, ⟨_, x, y, rfl, I.hok.fresh (Nat.le_refl _), rfl, fun l hl => by rw [I.list_inj hl qx]; exact hx, fun l hl => by rw [I.list_inj hl qy]; exact hy⟩, ⟨e1, ?_, ⟨u, v, ?_⟩, ?_, ?_⟩, fun c hcm => ?_⟩
    · exact (sb.2 _ D.TIz).trans (hk _ _ D.TIz D.TITO D.TIi1 D.TIi2 c2)
    · exact (sb.2 _ D.TOz).trans d2
    · exact d3.at fun o q => (sb.2 _ D.i1z).trans q
    · exact d4.at fun o q => (sb.2 _ D.i2z).trans q
    · have lt : c < s.heap.objs.size := by
        have e' : c = z ∨ c = TI ∨ c = TO ∨ c = i1 ∨ c = i2 := by simpa using hcm
        rcases e' with rfl | rfl | rfl | rfl | rfl
        · exact lz
        · exact Heap.lt_size c2
        · exact Heap.lt_size c3
        · exact c4.elim fun _ e => Heap.lt_size e.1
        · exact c5.elim fun _ e => Heap.lt_size e.1
      rw [upd_ne (Nat.ne_of_lt lt)]
      exact (hf c hcm).1
  done := by
    intro X hP hw hK hc i pins s σ H E I hf st hg
    subst hP hw hK
    obtain ⟨c1, c2, ⟨x0, y0, c3⟩, c4, c5⟩ := st
    obtain ⟨xs, ys, qx, qy, g1, g2⟩ := hg
    obtain ⟨us, ru, pu, _⟩ := I.list qx
    obtain ⟨vs, rv, pv, _⟩ := I.list qy
    have l1 := ru.length
    have l2 := rv.length
    refine next_end (I.ok.hd hc) D c1 c2 c3 c4 c5 pu.isList pv.isList (by simp; omega) (by simp; omega) fun h' hk => ⟨rfl, I.turnedL (t' := s.toks) (ch := [z, TI, TO, i1, i2]) (fun c o hb q => hk c o ?_ ?_ ?_ ?_ q) hf⟩
    all_goals exact fun q' => hb (by simp [q'])
  self := fun A i s Q E st h => iter_zs st.1 h
theorem walk_zs {K : PySem.W.Frag} {a b : Addr} {xs ys : List V} (hl : xs.length = ys.length) : Walk (ItS K a b) xs.length (fun H => SqL K H a xs ∧ SqL K H b ys) (YPair (fun i => xs[i]?) (fun i => ys[i]?)) := by
  refine ⟨fun i _ hi q => ?_, fun _ q => ⟨xs, ys, q.1, q.2, by omega, by omega⟩, fun i H v H' _ q y => ?_⟩
  · exact ⟨xs, ys, xs[i], ys[i]'(by omega), q.1, q.2, by simp [hi], by simp [show i < ys.length by omega]⟩
  · obtain ⟨T, x, u, h1, h2, h3, h4, h5⟩ := y
    exact ⟨T, x, u, h1, h2, h3, h4 xs q.1, h5 ys q.2⟩
def iZs (K : PySem.W.Frag) (ta : TA) : TI := fun σ H R => ta σ H fun vs H1 => ∃ a b xs ys, vs = [.ref a, .ref b] ∧ SqL K H1 a xs ∧ SqL K H1 b ys ∧ R (ItS K a b) H1
theorem pi_zs {X : Cx} {K : PySem.W.Frag} {e e2 : Expr} {ta : TA} {p pos tpos kp kq : Pos} {elts : List Expr} {kk kj : Nat} (hK : X.K = K) (hg : Gl X "zip") (hm : X.mg "zip" = none) (ha : PA X [e, e2] ta)
    (he : backTo pos (starEach (e :: [e2]) X.env) = (false, eval e X.env) :: backTo pos (starEach [e2] X.env) := by rfl)
    (hp : (backTo pos (starEach (e :: [e2]) X.env)).any (·.1) = false := by rfl) :
    PI X (.Tuple elts kk tpos) (.Call (.Name "zip" p) [e, e2] [⟨some "strict", .Constant (.bool true) kj kq, kp⟩] pos) (iZs K ta) := by
  subst hK
  refine ⟨fun pins s σ H R I h => ?_⟩
  refine wpAny_Call_Name_kw (ld_blt I hg hm PyProof.Rows.boot_zip (callWithT_kw (thn (ha.run pos pins s σ H _ I h) fun us s1 ⟨vs, H1, I1, r1, q1⟩ => thn ((pk_cons pe_bl pk_nil).run pos pins s1 σ H1 (fun zs H2 => zs = [.bl true] ∧ H2 = H1) I1 ⟨rfl, rfl⟩) fun ws s2 ⟨zs, H2, I2, r2, q2⟩ => ?_) he hp rfl rfl))
  obtain ⟨q2, q3⟩ := q2
  subst q2 q3
  obtain ⟨a, b, xs, ys, ex, qx, qy, q⟩ := q1
  subst ex
  cases r1 with
  | cons ra rr =>
    cases rr with
    | cons rb rr =>
      cases rr
      cases ra
      cases rb
      cases r2 with
      | cons rz rr =>
        cases rr
        cases rz
        obtain ⟨us, ru, pu, _⟩ := I2.list qx
        obtain ⟨vs, rv, pv, _⟩ := I2.list qy
        have la : a < s2.heap.objs.size := pu.lt
        have lb : b < s2.heap.objs.size := pv.lt
        refine call_zs pu.isList pv.isList fun h' c1 c2 c3 c4 c5 hk => iter_zs c1 ?_
        refine ⟨s2.heap.objs.size + 4, [s2.heap.objs.size + 4, s2.heap.objs.size + 2, s2.heap.objs.size + 3, s2.heap.objs.size, s2.heap.objs.size + 1], _, _, H2, rfl, I2.kept (t' := s2.toks) hk, turn_zs (PySem.W.ktu_apart s2.heap.objs.size a b la lb), ⟨c1, c2, ⟨_, _, c3⟩, c4, c5⟩, fun c hcm => ?_, q⟩
        have e' : c = s2.heap.objs.size + 4 ∨ c = s2.heap.objs.size + 2 ∨ c = s2.heap.objs.size + 3 ∨ c = s2.heap.objs.size ∨ c = s2.heap.objs.size + 1 := by simpa using hcm
        have le : s2.heap.objs.size ≤ c := by
          rcases e' with w | w | w | w | w <;> (rw [w]; first | exact Nat.le_refl _ | exact Nat.le_add_right _ _)
        exact I2.fpOk le (I2.hok.fresh le)
end ZS

/-! tuple * 0, tuple * 1 -/
namespace M01
theorem mul1 (l : Addr) (items : Array Value) (n : Nat) (dd : Option Addr) (sl : Array (Option Value)) (u : Tok) (c1 : (items.isEmpty || (1 : Int) == 1) = true) :
    Meets (Builtin.«tuple.__mul__» ⟨[.ref l, .int 1 u], []⟩) (fun _ R s => s.heap.get? l = some { cls := .type "tuple", dict := dd, data := .seq items n, slots := sl } ∧ R (.ok (.ret (.ref l))) s) := by
  refine .of_wp fun prog w A R s h => ?_
  obtain ⟨hp, g, d, tk, os⟩ := s
  obtain ⟨hl, h⟩ := h
  have f1 := AutoSeq1.idx_int
  wp_walk using wpAny_loadPart' hl
  repeat (first
    | (refine wpAny_ite_false (by decide) ?_; wp_walk using wpAny_loadPart' hl)
    | (refine wpAny_ite_true (decide_eq_true c1) ?_; wp_walk using wpAny_loadPart' hl))
  exact ⟨_, rfl, h⟩
theorem mul0 (l : Addr) (items : Array Value) (n : Nat) (dd : Option Addr) (sl : Array (Option Value)) (u : Tok) (c1 : (items.isEmpty || (0 : Int) == 1) = false) (c2 : (decide ((0 : Int) ≤ 0) || items.isEmpty) = true) :
    Meets (Builtin.«tuple.__mul__» ⟨[.ref l, .int 0 u], []⟩) (fun _ R s => s.heap.get? l = some { cls := .type "tuple", dict := dd, data := .seq items n, slots := sl } ∧
      R (.ok (.ret (.ref s.heap.objs.size))) { s with heap := s.heap.push { cls := .type "tuple", data := .seq #[] } }) := by
  refine .of_wp fun prog w A R s h => ?_
  obtain ⟨hp, g, d, tk, os⟩ := s
  obtain ⟨hl, h⟩ := h
  have f1 := AutoSeq1.idx_int
  wp_walk using wpAny_loadPart' hl
  repeat (first
    | (refine wpAny_ite_false (by decide) ?_; wp_walk using wpAny_loadPart' hl)
    | (refine wpAny_ite_false (decide_eq_false (by rw [c1]; exact Bool.false_ne_true)) ?_; wp_walk using wpAny_loadPart' hl)
    | (refine wpAny_ite_true (decide_eq_true c2) ?_; wp_walk using wpAny_loadPart' hl))
  exact ⟨_, rfl, h⟩
def rM01 (K : PySem.W.Frag) : R2 := fun x y H Q => ∃ (l : Addr) (xs : List V) (b : Bool), x = .ref l ∧ y = .int (if b then 1 else 0) ∧ SqT K H l xs ∧ xs ≠ [] ∧ (b = true → Q (.ref l) H) ∧ (b = false → ∀ p, H p = none → Q (.ref p) (upd H p (.tup [])))
theorem op_m01 {X : Cx} {K : PySem.W.Frag} (hK : X.K = K) : OpR X (binaryOp .Mult) (rM01 K) := by
  subst hK
  intro pins s σ H x y v u Q I rx ry h
  obtain ⟨l, xs, b, rfl, rfl, hT, hne, q1, q0⟩ := h
  cases rx
  obtain ⟨t, rfl⟩ := ry
  obtain ⟨its, r, ⟨⟨cls, dd, data, sl⟩, ho, hc, n, hd⟩, hs⟩ := I.tuple hT
  simp only at hc hd
  subst hc hd
  have e0 : its.toArray.isEmpty = false := by
    cases its with
    | nil => exact absurd (List.eq_nil_of_length_eq_zero r.length) hne
    | cons a b => rfl
  refine wpAny_binaryOp_repeat_ref (T := "tuple") (U := "int") (by decide) ⟨_, ho, rfl⟩ (fun s' => typeIs_int s' _ t) noFill_tuple_mul F.fills_int_mul F.slot_int_rmul repeat_tuple F.slot_int_index.lookup
    (call_meets F.slot_int_rmul (typeIs_int s _ t) F.entry_int_rmul (F.args_int_rmul_2 _ _) (int_rmul_tuple _ t l its.toArray n dd sl) ⟨ho, rfl, ⟨_, ho, rfl⟩, ?_⟩)
  cases b with
  | true => exact call_meets F.slot_tuple_mul ⟨_, ho, rfl⟩ F.entry_tuple_mul (F.args_tuple_mul_2 _ _) (mul1 l its.toArray n dd sl t (by rw [e0]; rfl)) ⟨ho, .ref l, H, I, rfl, q1 rfl⟩
  | false =>
    refine call_meets F.slot_tuple_mul ⟨_, ho, rfl⟩ F.entry_tuple_mul (F.args_tuple_mul_2 _ _) (mul0 l its.toArray n dd sl t (by rw [e0]; rfl) rfl) ⟨ho, ?_⟩
    exact ⟨.ref s.heap.objs.size, _, I.laid (t' := s.toks) (o := .tup []) (fun b ob q => Heap.get?_push_of_some _ q) (Nat.le_refl _) ⟨Nat.zero_le _, [], .nil, IsTup.new _ _⟩, rfl, q0 rfl _ (I.hok.fresh (Nat.le_refl _))⟩
end M01

/-! max(xs, default=d) of a list of ints -/
namespace MD
section
variable {prog : Program} {w : World} {A : Around} {R : Result → Shared → Prop} {I : Addr} {fp wr : List Addr} {n : Nat} {P : Nat → Value → Prop} {St : Nat → Heap → Prop} {kw : List (Str × Value)}
theorem nm : (toString "max" ++ toString ".loop" : String) = "max.loop" := by decide
theorem loop (W : Walks prog w A.in1 I fp wr n P St) (bt : Nat → Nat → Bool) (cmp : CmpOf prog w A.in1 .Gt P bt) (S : Addr) (sf : S ∉ fp) :
    ∀ (k j : Nat) (s : Shared) (v0 : Value) (c : Nat), n - (j + 1) = k → j + 1 ≤ n → St (j + 1) s.heap → P (argBest bt j) v0 →
    s.heap.get? S = some { cls := .type "list", dict := none, data := .seq #[v0, v0] c, slots := #[] } →
    (∀ v h' tk, P (argBest bt (n - 1)) v → (∀ b o, b ∉ wr → b ≠ S → s.heap.get? b = some o → h'.get? b = some o) → R (.ok (.ret v)) { s with heap := h', toks := tk }) →
    codeAny (model prog w) A (.builtin "max.loop" ⟨[.ref I, .none, .ref S], kw⟩) R s := by
  have sw : S ∉ wr := fun h => sf (W.sub _ h)
  intro k
  induction k with
  | zero =>
    intro j s v0 c e1 e2 st p0 cS q
    have e3 : j + 1 = n := by omega
    refine codeAny_builtin F.entry_max_loop ?_
    rw [Around.under_plainId F.plain_max_loop _]
    show wpAny _ A.in1 (seqItems? (.ref S) >>= _) _ _ s
    refine wpAny_bind (wpAny_seqItems cS rfl ?_)
    show wpAny _ A.in1 (tryCatch (pyNext (.ref I)) _ >>= _) _ _ s
    refine wpAny_bind (wpAny_tryCatch (W.done s _ _ (e3 ▸ st) fun h' tk kk => ?_))
    have cS' := kk S _ sw cS
    show wpAny _ A.in1 (updateSeq S (fun _ => #[]) >>= _) _ _ _
    refine wpAny_bind (wpAny_updateSeq cS' rfl (wpAny_bind (wpAny_letGo (wpAny_pure ?_))))
    exact q v0 _ tk (by rw [← e3]; exact p0) fun b o b1 b2 e => (Heap.get?_update_other _ _ (Ne.symm b2)).trans (kk b o b1 e)
  | succ k ih =>
    intro j s v0 c e1 e2 st p0 cS q
    have lt : j + 1 < n := by omega
    refine codeAny_builtin F.entry_max_loop ?_
    rw [Around.under_plainId F.plain_max_loop _]
    show wpAny _ A.in1 (seqItems? (.ref S) >>= _) _ _ s
    refine wpAny_bind (wpAny_seqItems cS rfl ?_)
    show wpAny _ A.in1 (tryCatch (pyNext (.ref I)) _ >>= _) _ _ s
    refine wpAny_bind (wpAny_tryCatch (W.item (j + 1) s _ _ lt st fun v h' tk pv st' kk => ?_))
    have cS' := kk S _ sw cS
    show wpAny _ A.in1 (tryCatch (holding [v, v] (richCompare .Gt v v0 >>= _)) _ >>= _) _ _ _
    refine wpAny_bind (wpAny_tryCatch (wpAny_holding (wpAny_bind (cmp (j + 1) (argBest bt j) v v0 _ _ _ pv p0 ?_))))
    refine wpAny_bind (wpAny_holding (wpAny_truthy_bool ?_))
    refine wpAny_bind (wpAny_letGo (wpAny_pure ?_))
    cases hb : bt (j + 1) (argBest bt j) with
    | true =>
      simp only [if_true]
      refine wpAny_bind (wpAny_updateSeq cS' rfl (wpAny_bind (wpAny_letGo ?_)))
      rw [nm]
      refine wpAny_pure ⟨plainId_quiet F.plain_max_loop _, ih (j + 1) _ v _ (by omega) lt (W.frame _ _ _ st' fun b bf o e => ?_) (by simp only [argBest, hb, if_true]; exact pv) (Heap.get?_update_self _ cS' rfl) fun v' h2 tk2 pv' kk2 => ?_⟩
      · exact (Heap.get?_update_other _ _ (fun h : S = b => sf (by rw [h]; exact bf))).trans e
      · exact q v' h2 tk2 pv' fun b o b1 b2 e => kk2 b o b1 b2 ((Heap.get?_update_other _ _ (Ne.symm b2)).trans (kk b o b1 e))
    | false =>
      simp only [Bool.false_eq_true, if_false]
      refine wpAny_bind (wpAny_letGo ?_)
      rw [nm]
      refine wpAny_pure ⟨plainId_quiet F.plain_max_loop _, ih (j + 1) _ v0 c (by omega) lt st' (by simp only [argBest, hb, Bool.false_eq_true, if_false]; exact p0) cS' fun v' h2 tk2 pv' kk2 => ?_⟩
      exact q v' h2 tk2 pv' fun b o b1 b2 e => kk2 b o b1 b2 (kk b o b1 e)
theorem first (W : Walks prog w A.in1 I fp wr n P St) (bt : Nat → Nat → Bool) (cmp : CmpOf prog w A.in1 .Gt P bt) (S : Addr) (sf : S ∉ fp) (n0 : 0 < n) {s : Shared} {c : Nat} (st : St 0 s.heap)
    (cS : s.heap.get? S = some { cls := .type "list", dict := none, data := .seq #[] c, slots := #[] })
    (q : ∀ v h' tk, P (argBest bt (n - 1)) v → (∀ b o, b ∉ wr → b ≠ S → s.heap.get? b = some o → h'.get? b = some o) → R (.ok (.ret v)) { s with heap := h', toks := tk }) :
    codeAny (model prog w) A (.builtin "max.loop" ⟨[.ref I, .none, .ref S], kw⟩) R s := by
  have sw : S ∉ wr := fun h => sf (W.sub _ h)
  refine codeAny_builtin F.entry_max_loop ?_
  rw [Around.under_plainId F.plain_max_loop _]
  show wpAny _ A.in1 (seqItems? (.ref S) >>= _) _ _ s
  refine wpAny_bind (wpAny_seqItems cS rfl ?_)
  show wpAny _ A.in1 (tryCatch (pyNext (.ref I)) _ >>= _) _ _ s
  refine wpAny_bind (wpAny_tryCatch (W.item 0 s _ _ n0 st fun v h' tk pv st' kk => ?_))
  have cS' := kk S _ sw cS
  show wpAny _ A.in1 (updateSeq S (fun _ => #[v, v]) >>= _) _ _ _
  refine wpAny_bind (wpAny_updateSeq cS' rfl ?_)
  rw [nm]
  refine wpAny_pure ⟨plainId_quiet F.plain_max_loop _, loop W bt cmp S sf _ 0 _ v _ rfl n0 (W.frame _ _ _ st' fun b bf o e => ?_) pv (Heap.get?_update_self _ cS' rfl) fun v' h2 tk2 pv' kk2 => ?_⟩
  · exact (Heap.get?_update_other _ _ (fun h : S = b => sf (by rw [h]; exact bf))).trans e
  · exact q v' h2 tk2 pv' fun b o b1 b2 e => kk2 b o b1 b2 ((Heap.get?_update_other _ _ (Ne.symm b2)).trans (kk b o b1 e))
theorem none_ (W : Walks prog w A.in1 I fp wr n P St) (n0 : n = 0) (S : Addr) (sf : S ∉ fp) {s : Shared} {c : Nat} {d : Value} (st : St 0 s.heap)
    (cS : s.heap.get? S = some { cls := .type "list", dict := none, data := .seq #[] c, slots := #[] })
    (q : ∀ h' tk, (∀ b o, b ∉ wr → b ≠ S → s.heap.get? b = some o → h'.get? b = some o) → R (.ok (.ret d)) { s with heap := h', toks := tk }) :
    codeAny (model prog w) A (.builtin "max.loop" ⟨[.ref I, .none, .ref S], [(Str.ofString "default", d)]⟩) R s := by
  subst n0
  refine codeAny_builtin F.entry_max_loop ?_
  rw [Around.under_plainId F.plain_max_loop _]
  show wpAny _ A.in1 (seqItems? (.ref S) >>= _) _ _ s
  refine wpAny_bind (wpAny_seqItems cS rfl ?_)
  show wpAny _ A.in1 (tryCatch (pyNext (.ref I)) _ >>= _) _ _ s
  refine wpAny_bind (wpAny_tryCatch (W.done s _ _ st fun h' tk kk => ?_))
  show wpAny _ A.in1 (rule _ >>= _) _ _ _
  refine wpAny_bind (wpAny_rule (wpAny_pure ?_))
  exact q h' tk fun b o b1 _ e => kk b o b1 e
end
section
variable {prog : Program} {w : World} {A : Around} {E : Value → Shared → Prop} {s : Shared}
theorem ok_args (a d : Value) : argsOk "max" ⟨[a], [(Str.ofString "default", d)]⟩ := by unfold argsOk; kernel_rfl
theorem bp (d : Value) : Builtin.Builtins.bindParams "max" ["key", "default"] 0 ⟨[], [(Str.ofString "default", d)]⟩ = pure [none, some d] := by kernel_rfl
theorem call_md {l : Addr} {its : List Value} {ns : List Int} {d : Int} {t : Tok} {Q : Value → Shared → Prop} (hh : A.handled = none) (hl : s.heap.IsList l its.toArray) (hi : IntsAre its ns)
    (q : ∀ h' tk M t', (∀ b o, s.heap.get? b = some o → h'.get? b = some o) → (ns = [] ∧ M = d ∨ M ∈ ns ∧ ∀ a, a ∈ ns → a ≤ M) → Q (.int M t') { s with heap := h', toks := tk }) :
    wpAny (model prog w) A (call (.builtin "max") [.ref l] [(Str.ofString "default", .int d t)]) Q E s := by
  obtain ⟨xs, e⟩ := hi.allInts.items
  have hn : numsOf (intItems xs).toList = ns := by rw [← e]; exact hi.numsOf
  rw [nums_intItems] at hn
  subst hn
  rw [e] at hl
  refine PyProof.Rows.kmk_tree F.kind_max F.plain_max F.entry_max (ok_args _ _) ?_
  show wpAny _ A.in1 (Builtin.Builtins.bindParams "max" ["key", "default"] 0 ⟨[], [(Str.ofString "default", .int d t)]⟩ >>= _) _ _ s
  refine wpAny_bind (wpAny_of_eq (bp _) ?_)
  refine wpAny_bind (wpAny_pure ?_)
  refine wpAny_bind (iter_intList hl fun s2 e2 st hfp hlI => ?_)
  subst e2
  refine wpAny_bind (wpAny_newObj_type ?_)
  rw [nm]
  have sf : (s.heap.push { cls := .type "list_iterator", data := .fields #[.ref l, .int 0 0] }).objs.size ∉ [s.heap.objs.size, l] := fun hm => Nat.lt_irrefl _ (hfp _ hm)
  have W := Walks.list (prog := prog) (w := w) (A := A.in1) hh s.heap.objs.size l hlI (intItems xs)
  by_cases h0 : 0 < xs.size
  · refine wpAny_pure ⟨plainId_quiet F.plain_max_loop _, first W (fun i j => decide (numAt xs i > numAt xs j)) (CmpOf.ints_gt (numAt xs) (fun _ _ => intItems_at)) _ sf (by simpa [intItems] using h0) (W.frame _ _ _ st fun b _ o e => Heap.get?_push_of_some _ e) (Heap.get?_push_size _ rfl) fun v h' tk pv kk => ?_⟩
    have pv' : (intItems xs)[argBest (fun i j => decide (numAt xs i > numAt xs j)) (xs.size - 1)]? = some v := by simpa [intItems] using pv
    obtain ⟨t2, rfl⟩ := intItems_at pv'
    obtain ⟨m1, m2⟩ := argBest_gt (numAt xs) (xs.size - 1)
    refine q h' tk _ t2 (fun b o e => ?_) (.inr ⟨?_, fun a ha => ?_⟩)
    · have lb := Heap.lt_size e
      refine kk b o (fun z => ?_) (fun z => ?_) (Heap.get?_push_of_some _ (Heap.get?_push_of_some _ e))
      · have z' : b = s.heap.objs.size := by simpa using z
        exact Nat.lt_irrefl _ (z' ▸ lb)
      · rw [z, Heap.size_push] at lb
        exact absurd lb (Nat.not_lt_of_le (Nat.le_succ _))
    · rw [numAt_eq]; exact PySem.getD_mem (by rw [List.length_map, Array.length_toList]; omega)
    · obtain ⟨j, hj, rfl⟩ := mem_getD ha
      rw [List.length_map, Array.length_toList] at hj
      rw [← numAt_eq]; exact m2 j (by omega)
  · have e0 : xs = #[] := Array.eq_empty_of_size_eq_zero (by omega)
    subst e0
    refine wpAny_pure ⟨plainId_quiet F.plain_max_loop _, none_ W (by simp [intItems]) _ sf (W.frame _ _ _ st fun b _ o e => Heap.get?_push_of_some _ e) (Heap.get?_push_size _ rfl) fun h' tk kk => ?_⟩
    refine q h' tk d t (fun b o e => ?_) (.inl ⟨rfl, rfl⟩)
    have lb := Heap.lt_size e
    refine kk b o (fun z => ?_) (fun z => ?_) (Heap.get?_push_of_some _ (Heap.get?_push_of_some _ e))
    · have z' : b = s.heap.objs.size := by simpa using z
      exact Nat.lt_irrefl _ (z' ▸ lb)
    · rw [z, Heap.size_push] at lb
      exact absurd lb (Nat.not_lt_of_le (Nat.le_succ _))
end
def rMd (K : PySem.W.Frag) : List V → List V → Hp → VK → Prop := fun vs zs H Q => ∃ (a : Addr) (ns : List Int) (d : Int), vs = [V.ref a] ∧ zs = [.int d] ∧ SqL K H a (ns.map V.int) ∧ ∀ m, (ns = [] ∧ m = d ∨ m ∈ ns ∧ ∀ y, y ∈ ns → y ≤ m) → Q (.int m) H
theorem cr_md {X : Cx} {K : PySem.W.Frag} (hK : X.K = K) (hc : X.calm = true) : CallRK X (.builtin "max") ["default"] (rMd K) := by
  subst hK
  intro pins s σ H vs zs us ws Q I r rz h
  obtain ⟨a, ns, d, rfl, rfl, hs, q⟩ := h
  obtain ⟨its, rv, hl, _⟩ := I.list hs
  rw [Vals.ref1 r]
  cases rz with
  | cons r1 rr =>
    cases rr
    obtain ⟨t, rfl⟩ := r1
    exact call_md (I.ok.hd hc) hl.isList rv.ints fun h' tk m t' hk h1 => ⟨.int _, H, I.kept hk, ⟨_, rfl⟩, q m h1⟩
end MD

/-! tuple[::-1] -/
namespace RTp
section
variable {prog : Program} {w : World} {A : Around} {E : Value → Shared → Prop} {s : Shared}
theorem places (n : Nat) : Builtin.Slice.slicePlaces ((n : Int) - 1) (-1) (-1) = n := by
  unfold Builtin.Slice.slicePlaces
  rw [if_neg (by decide)]
  split
  · have : ((n : Int) - 1 - -1 - 1) / (- -1) + 1 = (n : Int) := by
      rw [show (- -1 : Int) = 1 from rfl, Int.ediv_one]
      omega
    rw [this]
    rfl
  · have : n = 0 := by omega
    rw [this]
    rfl
theorem applied {sl : Addr} {vs : Value} {n : Nat} {Q : Int × Int × Nat → Shared → Prop} (hs : s.heap.IsSliceOf sl .none .none vs) (ps : IsPart vs (some (-1)))
    (q : Q ((n : Int) - 1, -1, n) s) : wpAny (model prog w) A (Builtin.Slice.sliceApplied (.ref sl) (pure (n : Int))) Q E s := by
  obtain ⟨os, c1, c2, c3⟩ := id hs
  unfold Builtin.Slice.sliceApplied Builtin.Slice.sliceFields
  refine wpAny_bind (wpAny_bind (wpAny_field c1 c3 (x := .none) rfl (wpAny_bind (wpAny_field c1 c3 (x := .none) rfl (wpAny_bind (wpAny_field c1 c3 (x := vs) rfl (wpAny_pure ?_)))))))
  refine wpAny_bind (HT.slicePart_ ps ?_)
  show wpAny _ _ (if ((-1 : Int) == 0) = true then _ else _) _ _ s
  rw [if_neg (by decide)]
  refine wpAny_bind (HT.slicePart_ .none (wpAny_bind (HT.slicePart_ .none (wpAny_bind (wpAny_pure ?_)))))
  have ea : Builtin.Slice.sliceAdjust none none (-1) (n : Int) = ((n : Int) - 1, -1) := by
    unfold Builtin.Slice.sliceAdjust
    simp
  show wpAny _ _ (match Builtin.Slice.sliceAdjust none none (-1) (n : Int) with | (lo, hi) => pure (lo, (-1 : Int), Builtin.Slice.slicePlaces lo hi (-1))) _ _ s
  rw [ea]
  show wpAny _ _ (pure ((n : Int) - 1, (-1 : Int), Builtin.Slice.slicePlaces ((n : Int) - 1) (-1) (-1))) _ _ s
  rw [places]
  exact wpAny_pure q
theorem fm_congr {α β : Type} {f g : α → Option β} : ∀ {l : List α}, (∀ x ∈ l, f x = g x) → l.filterMap f = l.filterMap g
  | [], _ => rfl
  | x :: r, h => by
    rw [List.filterMap_cons, List.filterMap_cons, h x List.mem_cons_self, fm_congr fun y hy => h y (List.mem_cons_of_mem _ hy)]
theorem fm_all {α : Type} : ∀ l : List α, (List.range l.length).filterMap (fun k => l[k]?) = l
  | [] => rfl
  | x :: r => by
    have ih := fm_all r
    rw [List.length_cons, List.range_succ_eq_map, List.filterMap_cons, List.filterMap_map]
    show x :: List.filterMap (fun k => r[k]?) (List.range r.length) = x :: r
    rw [ih]
theorem pick (xs : Array Value) : ((List.range xs.size).filterMap fun (k : Nat) => xs[((xs.size : Int) - 1 + (k : Int) * (-1)).toNat]?).toArray = xs.toList.reverse.toArray := by
  have h1 := fm_all (α := Value)
  congr 1
  have h2 := h1 xs.toList.reverse
  rw [List.length_reverse, Array.length_toList] at h2
  conv => rhs; rw [← h2]
  refine fm_congr fun k hk => ?_
  have hk2 : k < xs.size := List.mem_range.mp hk
  rw [List.getElem?_reverse (by rw [Array.length_toList]; exact hk2), Array.length_toList]
  have e : ((xs.size : Int) - 1 + (k : Int) * (-1)).toNat = xs.size - 1 - k := by omega
  rw [e]
  simp
theorem getrev {t sl : Addr} {items : Array Value} {vs : Value} {Q : Value → Shared → Prop} (ht : IsTup s.heap t items) (hs : s.heap.IsSliceOf sl .none .none vs) (ps : IsPart vs (some (-1)))
    (q : Q (.ref s.heap.objs.size) { s with heap := s.heap.push { cls := .type "tuple", data := .seq items.toList.reverse.toArray } }) (hz : items.size ≤ sizeLine) : wpAny (model prog w) A (getItem (.ref t) (.ref sl)) Q E s := by
  have ok : sizeOk (.seq items.toList.reverse.toArray) := by
    show items.toList.reverse.toArray.size ≤ sizeLine
    rw [List.size_toArray, List.length_reverse, Array.length_toList]
    exact hz
  obtain ⟨os, c1, c2, c3⟩ := id hs
  have ty : s.TypeIs (.ref sl) "slice" := ⟨os, c1, c2⟩
  unfold getItem
  try with_reducible refine wpAny_holding ?_
  first | refine wpAny_bind (wpAny_pure ?_) | skip
  refine wpAny_bind (wpAny_sequenceKey ht.typeIs (by decide) ?_)
  refine wpAny_bind (wpAny_callSpecial?_slot (name := Str.ofString "__getitem__") ht.typeIs PyProof.Rows.slot_tuple_getitem (wpAny_call_entry PyProof.Rows.slot_tuple_getitem ht.typeIs entry_tuple_getitem ?_ (args_tuple_getitem _ _)))
  show wpAny _ _ (Builtin.Tuple.tupleItemsOf (.ref t) >>= _) _ _ s
  refine wpAny_bind (tupleItemsOf_ ht ?_)
  refine wpAny_bind (wpAny_typeOf ty ?_)
  rw [if_pos (by decide)]
  refine wpAny_bind (applied (n := items.size) hs ps ?_)
  show wpAny _ _ (if ((items.size : Int) - 1 == 0 && (-1 : Int) == 1 && items.size == items.size) = true then _ else _) _ _ s
  rw [if_neg (by simp), pick]
  first
    | exact wpAny_bind (m := Builtin.Tuple.tupleExact _) (wpAny_newObj_type (wpAny_pure ⟨_, rfl, wpAny_pure q⟩) ok)
    | exact wpAny_bind (m := Builtin.Tuple.tupleExact _) (wpAny_newObj_type (wpAny_bind (wpAny_pure (wpAny_pure ⟨_, rfl, wpAny_pure q⟩))) ok)
    | exact wpAny_bind (wpAny_bind (m := Builtin.Tuple.tupleExact _) (wpAny_newObj_type (wpAny_pure (wpAny_pure ⟨_, rfl, wpAny_pure q⟩)) ok))
    | exact wpAny_bind (wpAny_bind (m := Builtin.Tuple.tupleExact _) (wpAny_newObj_type (wpAny_pure ⟨_, rfl, wpAny_pure q⟩) ok))
end
def tRv (K : PySem.W.Frag) (te : TE) : TE := fun σ H Q => te σ H fun x H1 => ∃ a xs, x = .ref a ∧ SqT K H1 a xs ∧ ∀ p, H1 p = none → Q (.ref p) (upd H1 p (.tup xs.reverse))
theorem pe_rv {X : Cx} {K : PySem.W.Frag} {e : Expr} {te : TE} {k : Nat} {p1 p2 p3 pos : Pos} (hK : X.K = K) (he : PE X e te) : PE X (.Subscript e (.Slice none none (some (.UnaryOp .USub (.Constant (.int 1) k p1) p2)) p3) pos) (tRv K te) := by
  subst hK
  refine ⟨fun pins s σ H Q I h => ?_⟩
  refine Subscript_ (thn (he.run pins s σ H _ I h) fun v s1 ⟨x, H1, I1, r1, q1⟩ => ?_)
  obtain ⟨a, xs, rfl, hx, q⟩ := q1
  cases r1
  have st : PO X (some (.UnaryOp .USub (.Constant (.int 1) k p1) p2)) (tPart (tUn (rU fun i => .int (-i)) (tC (.int 1)))) := po_some (pe_un un_neg pe_int)
  refine wpAny_Slice (thn (po_none.run pins s1 σ H1 (fun o H2 => o = none ∧ H2 = H1) I1 ⟨rfl, rfl⟩) fun vl s2 ⟨l, H2, I2, pl, e1, e2⟩ => ?_)
  subst e1 e2
  refine thn (po_none.run pins s2 σ H2 (fun o H3 => o = none ∧ H3 = H2) I2 ⟨rfl, rfl⟩) fun vu s3 ⟨u, H3, I3, pu, e1, e2⟩ => ?_
  subst e1 e2
  refine thn (st.run pins s3 σ H3 (fun o H4 => o = some (-1) ∧ H4 = H3) I3 ⟨1, rfl, -1, rfl, rfl, rfl⟩) fun vs s4 ⟨o, H4, I4, ps, e1, e2⟩ => ?_
  subst e1 e2
  cases pl
  cases pu
  have I5 : Inv X pins σ H4 { s4 with heap := s4.heap.push { cls := .type "slice", data := .fields #[.none, .none, vs] } } := I4.kept (t' := s4.toks) fun b ob q => Heap.get?_push_of_some _ q
  obtain ⟨its, r, ht, hz⟩ := I5.tuple hx
  have hl := r.length
  show wpAny (model X.prog X.w) X.A (subscriptTail e (.Slice none none (some (.UnaryOp .USub (.Constant (.int 1) k p1) p2)) p3) (.ref a) (.ref s4.heap.objs.size)) (EP X pins σ Q) X.xe { s4 with heap := s4.heap.push { cls := .type "slice", data := .fields #[.none, .none, vs] } }
  refine tail_any (ops := [.ref a, .ref s4.heap.objs.size]) ht.typeIs (PyProof.Rows.slot_tuple_getitem.lookup) ?_ (by with_unfolding_all rfl)
  refine getrev ht (Heap.IsSliceOf.new _ .none .none vs) ps ?_ (by rw [List.size_toArray]; omega)
  refine ⟨.ref _, _, I5.laid (t' := s4.toks) (o := .tup xs.reverse) (fun b ob q => Heap.get?_push_of_some _ q) (Nat.le_refl _) ?_, rfl, q _ (I5.hok.fresh (Nat.le_refl _))⟩
  exact ⟨by rw [List.length_reverse]; exact hz, _, r.reverse, IsTup.new _ _⟩
end RTp

/-! == and != of two lists of which one is empty; repr of data -/
section
variable {X : Cx} {K : PySem.W.Frag}
def rEqE (K : PySem.W.Frag) : R2 := fun x y H Q => ∃ a b xs ys, x = .ref a ∧ y = .ref b ∧ SqL K H a xs ∧ SqL K H b ys ∧ (xs = [] ∨ ys = []) ∧ Q (.bl (xs.isEmpty && ys.isEmpty)) H
def rNeE (K : PySem.W.Frag) : R2 := fun x y H Q => ∃ a b xs ys, x = .ref a ∧ y = .ref b ∧ SqL K H a xs ∧ SqL K H b ys ∧ (xs = [] ∨ ys = []) ∧ Q (.bl (!(xs.isEmpty && ys.isEmpty))) H
theorem sizes_E {its ius : List Value} {xs ys : List V} (r1 : Vals xs its) (r2 : Vals ys ius) (h : xs = [] ∨ ys = []) : ((its.toArray.size != ius.toArray.size) = true ∧ (xs.isEmpty && ys.isEmpty) = false) ∨ (its = [] ∧ ius = [] ∧ (xs.isEmpty && ys.isEmpty) = true) := by
  have l1 := r1.length
  have l2 := r2.length
  cases xs with
  | nil =>
    cases r1
    cases ys with
    | nil => cases r2; exact .inr ⟨rfl, rfl, rfl⟩
    | cons y ys =>
      cases r2
      exact .inl ⟨rfl, rfl⟩
  | cons x xs =>
    rcases h with h | h
    · cases h
    · subst h
      cases r2
      cases r1
      exact .inl ⟨rfl, rfl⟩
theorem op_eqE (hK : X.K = K) (hu : X.A.units + 64 < cLine) : OpR X (compareOp .Eq) (rEqE K) := by
  subst hK
  intro pins s σ H x y v u Q I rx ry h
  obtain ⟨a, b, xs, ys, rfl, rfl, h1, h2, h3, q⟩ := h
  cases rx
  cases ry
  obtain ⟨its, r1, p1, _⟩ := I.list h1
  obtain ⟨ius, r2, p2, _⟩ := I.list h2
  have hu' : X.A.units < cLine := by omega
  rcases sizes_E r1 r2 h3 with ⟨e1, e2⟩ | ⟨rfl, rfl, e2⟩
  · rw [e2] at q
    exact SeqAt.RcAt.lists_lengths p1.isList p2.isList e1 hu' _ _ _ _ ⟨.bl false, H, I, rfl, q⟩
  · rw [e2] at q
    exact SeqAt.RcAt.lists (e := fun _ => true) p1.isList p2.isList rfl hu' (fun j h _ => absurd h (Nat.not_lt_zero j)) _ _ _ _ ⟨.bl true, H, I, rfl, q⟩
theorem op_neE (hK : X.K = K) (hu : X.A.units + 64 < cLine) : OpR X (compareOp .NotEq) (rNeE K) := by
  subst hK
  intro pins s σ H x y v u Q I rx ry h
  obtain ⟨a, b, xs, ys, rfl, rfl, h1, h2, h3, q⟩ := h
  cases rx
  cases ry
  obtain ⟨its, r1, p1, _⟩ := I.list h1
  obtain ⟨ius, r2, p2, _⟩ := I.list h2
  have hu' : X.A.units < cLine := by omega
  rcases sizes_E r1 r2 h3 with ⟨e1, e2⟩ | ⟨rfl, rfl, e2⟩
  · rw [e2] at q
    exact SeqAt.RcNeAt.lists_lengths p1.isList p2.isList e1 hu' _ _ _ _ ⟨.bl true, H, I, rfl, q⟩
  · rw [e2] at q
    exact SeqAt.RcNeAt.lists (e := fun _ => true) p1.isList p2.isList rfl hu' (fun j h _ => absurd h (Nat.not_lt_zero j)) _ _ _ _ ⟨.bl false, H, I, rfl, q⟩
end
/-! f(k = v, ..): keywords alone -/
section
variable {X : Cx} {CX : CXT} {k : Nat} {f : Addr} {fd : FuncData} {ps ks : List Str} {sp : Sp} {E : XK} {x : Str} {p pos : Pos} {kws : List Keyword} {tk : TA} {g : List Value → List Value → List Value} {gV : List V → List V → List V}
theorem pe_kw0 (F : FnOk X.prog X.w X.K X.mg X.base CX k f fd ps sp) (hr : Room k X.A) (hg : Gl X x) (hm : X.mg x = some (.ref f)) (hk : PySem.W.keepIn X.K (.ref f) = true) (hb : KBinds X.K fd ps ks g gV) (hx : Passes CX X E)
    (hkw : PK X kws tk) (hall : (backToKw pos (keywordEach kws X.env)).all (·.1.isSome) = true := by rfl) (hks : (backToKw pos (keywordEach kws X.env)).filterMap (·.1) = ks := by rfl) (hdb : (x == ("__debug__" : Str)) = false := by decide)
    (hpl : ((backTo pos (starEach [] X.env)).any (·.1) || (backToKw pos (keywordEach kws X.env)).any (·.1.isNone)) = false := by rfl) : PE X (.Call (.Name x p) [] kws pos) (tCallK sp gV E tNil tk) := by
  refine ⟨fun pins s σ H Q I h => ?_⟩
  refine wpAny_Call_Name_kw (ld_glob I hg hm ?_ hdb)
  refine PySem.W.callWith_KW0 (h₀ := X.base) I.ok.mod.kin hk hall (thn (hkw.run pos pins s σ H _ I h) fun ws s2 q2 => ?_) hpl
  obtain ⟨zs, H2, I2, rz, q2⟩ := q2
  refine ⟨I2.kIn, ?_⟩
  rw [hks]
  exact run_fnk (us := []) (vs := []) F hr hb hx I2 .nil rz q2
end

def drK (l c t : Int) : List (Key × V) := [(.inr ("left" : Str), .int l), (.inr ("cell" : Str), .int c), (.inr ("turns" : Str), .int t)]
theorem get_left (l c t : Int) : valV (drK l c t) (.inr ("left" : Str)) = some (.int l) := valV_pos rfl
theorem lc_ne : ¬ (Sum.inr ("left" : Str) : Key) = .inr ("cell" : Str) := by decide +kernel
theorem lt_ne : ¬ (Sum.inr ("left" : Str) : Key) = .inr ("turns" : Str) := by decide +kernel
theorem ct_ne : ¬ (Sum.inr ("cell" : Str) : Key) = .inr ("turns" : Str) := by decide +kernel
theorem get_cell (l c t : Int) : valV (drK l c t) (.inr ("cell" : Str)) = some (.int c) := by
  unfold drK
  rw [valV_neg lc_ne, valV_pos rfl]
theorem get_turns (l c t : Int) : valV (drK l c t) (.inr ("turns" : Str)) = some (.int t) := by
  unfold drK
  rw [valV_neg lt_ne, valV_neg ct_ne, valV_pos rfl]
theorem put_map {kvs : List (Key × V)} {k : Key} {y : V} (v : V) (h : valV kvs k = some y) : putK kvs k v = kvs.map (fun kv => if kv.1 = k then (kv.1, v) else kv) := by
  unfold putK
  rw [valV_any, h]
  exact if_pos rfl
theorem put_left (l c t x : Int) : putK (drK l c t) (.inr ("left" : Str)) (.int x) = drK x c t := by
  have h1 : ¬ (Sum.inr ("cell" : Str) : Key) = .inr ("left" : Str) := fun z => lc_ne z.symm
  have h2 : ¬ (Sum.inr ("turns" : Str) : Key) = .inr ("left" : Str) := fun z => lt_ne z.symm
  rw [put_map _ (get_left l c t)]
  unfold drK
  rw [List.map_cons, List.map_cons, List.map_cons, if_pos rfl, if_neg h1, if_neg h2]
  rfl
theorem put_turns (l c t x : Int) : putK (drK l c t) (.inr ("turns" : Str)) (.int x) = drK l c x := by
  rw [put_map _ (get_turns l c t)]
  unfold drK
  rw [List.map_cons, List.map_cons, List.map_cons, if_neg lt_ne, if_neg ct_ne, if_pos rfl]
  rfl
theorem valV_out {k : Key} : ∀ {kvs : List (Key × V)}, k ∉ kvs.map (·.1) → valV kvs k = none
  | [], _ => rfl
  | p :: r, h => by
    rw [List.map_cons, List.mem_cons, not_or] at h
    rw [valV_neg fun z => h.1 z.symm]
    exact valV_out h.2
theorem merge_new : ∀ {kvs acc : List (Key × V)}, ((acc ++ kvs).map (·.1)).Nodup → mergeK acc kvs = acc ++ kvs
  | [], acc, _ => (List.append_nil acc).symm
  | p :: r, acc, h => by
    show mergeK (putK acc p.1 p.2) r = _
    have h1 : p.1 ∉ acc.map (·.1) := fun m => by
      rw [List.map_append, List.nodup_append] at h
      exact h.2.2 _ m _ (by simp) rfl
    rw [putK_new p.2 (valV_out h1)]
    have h2 : acc ++ p :: r = (acc ++ [p]) ++ r := by simp
    rw [h2] at h ⊢
    exact merge_new h
theorem Dr.mk {d : Addr} {n : Nat} {H : Hp} {l c t : Int} (h : H d = some (.dK (drK l c t))) (h0 : 0 ≤ t) (h1 : t ≤ n) : Dr d n H := ⟨l, c, t, h, h0, h1⟩
theorem merge_dr (l c t : Int) : mergeK [] (drK l c t) = drK l c t := by
  refine merge_new (acc := []) ?_
  show ([Sum.inr ("left" : Str), .inr ("cell" : Str), .inr ("turns" : Str)] : List Key).Nodup
  decide +kernel

/-! ### the symbolic layer: values told by assertions over a ghost heap -/
namespace Sy
open PySem PySem.Spec PyProof.Rows L2
open SX (S S_len S_cat S_inj)
/-- an assertion on a value; G is the part of the heap that never changes any more -/
structure As where
  p : Hp → V → Prop
  m : ∀ {G G' : Hp} {v : V}, Same G G' → p G v → p G' v
def cst (v : V) : As := ⟨fun _ x => x = v, fun _ h => h⟩
abbrev it (i : Int) : As := cst (.int i)
abbrev tx (l : List Nat) : As := cst (.str (S l))
abbrev bo (b : Bool) : As := cst (.bl b)
abbrev no : As := cst .non
abbrev pt (D : Addr) : As := cst (.ref D)
inductive All2 (G : Hp) : List As → List V → Prop
  | nil : All2 G [] []
  | cons {A : As} {v : V} {l : List As} {vs : List V} : A.p G v → All2 G l vs → All2 G (A :: l) (v :: vs)
theorem All2.m {G G' : Hp} (e : Same G G') : ∀ {l : List As} {vs : List V}, All2 G l vs → All2 G' l vs
  | _, _, .nil => .nil
  | _, _, .cons h t => .cons (As.m _ e h) (All2.m e t)
theorem All2.len {G : Hp} : ∀ {l : List As} {vs : List V}, All2 G l vs → vs.length = l.length
  | _, _, .nil => rfl
  | _, _, .cons _ t => congrArg (· + 1) (All2.len t)
theorem All2.get {G : Hp} : ∀ {l : List As} {vs : List V} {i : Nat} {v : V}, All2 G l vs → vs[i]? = some v → ∃ A, l[i]? = some A ∧ A.p G v
  | _, _, i, v, .nil, e => by simp at e
  | _, _, 0, v, .cons h _, e => by simp at e; subst e; exact ⟨_, rfl, h⟩
  | _, _, i + 1, v, .cons _ t, e => by
    obtain ⟨A, h1, h2⟩ := All2.get (i := i) t (by simpa using e)
    exact ⟨A, by simpa using h1, h2⟩
theorem All2.at {G : Hp} : ∀ {l : List As} {vs : List V} {i : Nat} {A : As}, All2 G l vs → l[i]? = some A → ∃ v, vs[i]? = some v ∧ A.p G v
  | _, _, i, A, .nil, e => by simp at e
  | _, _, 0, A, .cons h _, e => by simp at e; subst e; exact ⟨_, rfl, h⟩
  | _, _, i + 1, A, .cons _ t, e => by
    obtain ⟨v, h1, h2⟩ := All2.at (i := i) t (by simpa using e)
    exact ⟨v, by simpa using h1, h2⟩
theorem All2.app {G : Hp} : ∀ {l m : List As} {vs ws : List V}, All2 G l vs → All2 G m ws → All2 G (l ++ m) (vs ++ ws)
  | _, _, _, _, .nil, s => s
  | _, _, _, _, .cons h t, s => .cons h (All2.app t s)
theorem All2.drop {G : Hp} : ∀ {l : List As} {vs : List V} (n : Nat), All2 G l vs → All2 G (l.drop n) (vs.drop n)
  | _, _, 0, r => r
  | _, _, _ + 1, .nil => .nil
  | _, _, n + 1, .cons _ t => All2.drop n t
theorem All2.take {G : Hp} : ∀ {l : List As} {vs : List V} (n : Nat), All2 G l vs → All2 G (l.take n) (vs.take n)
  | _, _, 0, _ => .nil
  | _, _, _ + 1, .nil => .nil
  | _, _, n + 1, .cons r t => .cons r (All2.take n t)
theorem All2.map {G : Hp} {α : Type} {f : α → V} : ∀ {l : List α} {vs : List V}, All2 G (l.map fun a => cst (f a)) vs ↔ vs = l.map f
  | [], vs => by
    constructor
    · intro h; cases h; rfl
    · rintro rfl; exact .nil
  | a :: l, vs => by
    constructor
    · intro h
      cases h with
      | cons h t => rw [show _ = f a from h, All2.map.mp t]; rfl
    · rintro rfl
      exact .cons rfl (All2.map.mpr rfl)
theorem SqT.mono {K : PySem.W.Frag} {H H' : Hp} {a : Addr} {xs : List V} (e : Same H H') (h : SqT K H a xs) : SqT K H' a xs := by
  rcases h with (h | ⟨o, h⟩) | h
  · exact .inl (.inl (e _ _ h))
  · exact .inl (.inr ⟨o, e _ _ h⟩)
  · exact .inr h
/-- a list that stands in the heap -/
def lst (_ : PySem.W.Frag) (xs : List As) : As := ⟨fun G v => ∃ a vs, v = .ref a ∧ G a = some (.lst vs) ∧ All2 G xs vs, fun e h => by
  obtain ⟨a, vs, h1, h2, h3⟩ := h
  exact ⟨a, vs, h1, e _ _ h2, h3.m e⟩⟩
/-- a list to be read (the script) -/
def sql (K : PySem.W.Frag) (xs : List As) : As := ⟨fun G v => ∃ a vs, v = .ref a ∧ SqL K G a vs ∧ All2 G xs vs, fun e h => by
  obtain ⟨a, vs, h1, h2, h3⟩ := h
  exact ⟨a, vs, h1, e.seq h2, h3.m e⟩⟩
def tup (K : PySem.W.Frag) (xs : List As) : As := ⟨fun G v => ∃ a vs, v = .ref a ∧ SqT K G a vs ∧ All2 G xs vs, fun e h => by
  obtain ⟨a, vs, h1, h2, h3⟩ := h
  exact ⟨a, vs, h1, SqT.mono e h2, h3.m e⟩⟩
/-- a tuple that was just made by a display (it stands in the heap itself) -/
def op (o : Option As) : As := o.getD no
/-- any data -/
theorem Dp.mono {K : PySem.W.Frag} {H H' : Hp} (e : Same H H') : ∀ (d : PyData) (v : V), Dp K H v d → Dp K H' v d := by
  intro d
  refine PyData.rec (motive_1 := fun d => ∀ v, Dp K H v d → Dp K H' v d) (motive_2 := fun ds => ∀ vs, DpAll K H vs ds → DpAll K H' vs ds) (motive_3 := fun _ => True) (motive_4 := fun _ => True) ?_ ?_ ?_ ?_ ?_ ?_ ?_ ?_ ?_ ?_ ?_ ?_ d
  · intro v h; cases h; exact .non
  · intro b v h; cases h; exact .bl b
  · intro b v h; cases h; exact .int b
  · intro b v h; cases h; exact .str b
  · intro xs ih v h
    cases h with
    | lst h1 h2 => exact .lst (e.seq h1) (ih _ h2)
  · intro xs ih v h
    cases h with
    | tup h1 h2 => exact .tup (SqT.mono e h1) (ih _ h2)
  · intro kvs _ v h; cases h
  · intro vs h; cases h; exact .nil
  · intro d ds ih1 ih2 vs h
    cases h with
    | cons h1 h2 => exact .cons (ih1 _ h1) (ih2 _ h2)
  · trivial
  · intros; trivial
  · intros; trivial
def dat (K : PySem.W.Frag) (d : PyData) : As := ⟨fun G v => Dp K G v d, fun e h => Dp.mono e d _ h⟩

/-- what an owned object holds (it may still be changed) -/
inductive OC where
  | ol (xs : List As)
  | od (p : Bool) (kvs : List (Key × As))
  | dr (n : Nat)
  | oi (p : Bool) (C : Addr) (fs : List (Str × As))
  | lk (o : Obj) (vs : List (Key × V)) (p : Bool) (kvs : List (Key × As))
  | op (xs : List As)
  | dg (g : Addr) (n : Nat)
  | dl
  | tb (q : Str)
abbrev OO := List (Addr × OC)
/-- it may belong to the caller -/
def OC.par : OC → Bool
  | .dr _ => true
  | .od p _ => p
  | .oi p _ _ => p
  | .lk _ _ p _ => p
  | .op _ => true
  | .dg _ _ => true
  | .dl => true
  | .tb _ => true
  | _ => false
inductive AllK (G : Hp) : List (Key × As) → List (Key × V) → Prop
  | nil : AllK G [] []
  | cons {k : Key} {A : As} {v : V} {l : List (Key × As)} {vs : List (Key × V)} : A.p G v → AllK G l vs → AllK G ((k, A) :: l) ((k, v) :: vs)
theorem AllK.m {G G' : Hp} (e : Same G G') : ∀ {l : List (Key × As)} {vs : List (Key × V)}, AllK G l vs → AllK G' l vs
  | _, _, .nil => .nil
  | _, _, .cons h t => .cons (As.m _ e h) (AllK.m e t)
/-- the fields of an instance -/
inductive AllF (G : Hp) : List (Str × As) → List (Str × V) → Prop
  | nil : AllF G [] []
  | cons {f : Str} {A : As} {v : V} {l : List (Str × As)} {vs : List (Str × V)} : A.p G v → AllF G l vs → AllF G ((f, A) :: l) ((f, v) :: vs)
theorem AllF.m {G G' : Hp} (e : Same G G') : ∀ {l : List (Str × As)} {vs : List (Str × V)}, AllF G l vs → AllF G' l vs
  | _, _, .nil => .nil
  | _, _, .cons h t => .cons (As.m _ e h) (AllF.m e t)
def OcOk (G H : Hp) (D : Addr) : OC → Prop
  | .ol xs => ∃ vs, H D = some (.lst vs) ∧ All2 G xs vs
  | .od _ kvs => ∃ vs, H D = some (.dK vs) ∧ AllK G kvs vs
  | .dr n => Dr D n H
  | .oi _ C fs => ∃ dx vs, H D = some (.ins C dx vs) ∧ AllF G fs vs
  | .lk o vs _ kvs => H D = some (.frz o (.dK vs)) ∧ AllK G kvs vs
  | .op xs => ∃ vs, H D = some (.lst vs) ∧ All2 G xs vs
  | .dg g n => ∃ m t : Int, ((0 ≤ t ∧ t ≤ n) ∧ 0 ≤ m ∧ m < 2305843009213693951) ∧ H D = some (.dK [(.inr (S [109, 105, 120, 101, 100]), .int m), (.inr (S [103, 114, 101, 97, 116]), .ref g), (.inr (S [116, 117, 114, 110]), .int t)])
  | .dl => ∃ gs : List Int, gs.length ≤ 63 ∧ H D = some (.lst (gs.map V.int))
  | .tb q => ∃ ps : Array Value, H D = some (.tbl ps) ∧ TriplesOk ps.toList ∧ ∀ (pos : Pos) (cv : Value), codeAmong pos ps.toList = some cv → ∃ c, cv = .ref c ∧ G c = some (LamX.CodeO c q)
theorem OcOk.m {G G' H H' : Hp} {D : Addr} {c : OC} (e : Same G G') (f : H D = H' D) (h : OcOk G H D c) : OcOk G' H' D c := by
  cases c with
  | ol xs => obtain ⟨vs, h1, h2⟩ := h; exact ⟨vs, f ▸ h1, h2.m e⟩
  | od p xs => obtain ⟨vs, h1, h2⟩ := h; exact ⟨vs, f ▸ h1, h2.m e⟩
  | dr n => obtain ⟨a, b, c, h1, h2⟩ := h; exact ⟨a, b, c, f ▸ h1, h2⟩
  | oi p C fs => obtain ⟨dx, vs, h1, h2⟩ := h; exact ⟨dx, vs, f ▸ h1, h2.m e⟩
  | lk o vs p kvs => exact ⟨f ▸ h.1, h.2.m e⟩
  | op xs => obtain ⟨vs, h1, h2⟩ := h; exact ⟨vs, f ▸ h1, h2.m e⟩
  | dg g n => obtain ⟨m, t, h0, h1⟩ := h; exact ⟨m, t, h0, f ▸ h1⟩
  | dl => obtain ⟨gs, h0, h1⟩ := h; exact ⟨gs, h0, f ▸ h1⟩
  | tb q =>
    obtain ⟨ps, h1, h2, h3⟩ := h
    refine ⟨ps, f ▸ h1, h2, fun pos cv hc => ?_⟩
    obtain ⟨c, e1, e2⟩ := h3 pos cv hc
    exact ⟨c, e1, e _ _ e2⟩
theorem OcOk.some {G H : Hp} {D : Addr} {c : OC} (h : OcOk G H D c) : H D ≠ none := by
  intro z
  cases c with
  | ol xs => obtain ⟨vs, h1, h2⟩ := h; rw [z] at h1; cases h1
  | od p xs => obtain ⟨vs, h1, h2⟩ := h; rw [z] at h1; cases h1
  | dr n => obtain ⟨a, b, c, h1, h2⟩ := h; rw [z] at h1; cases h1
  | oi p C fs => obtain ⟨dx, vs, h1, h2⟩ := h; rw [z] at h1; cases h1
  | lk o vs p kvs => have h1 := h.1; rw [z] at h1; cases h1
  | op xs => obtain ⟨vs, h1, h2⟩ := h; rw [z] at h1; cases h1
  | dg g n => obtain ⟨m, t, h0, h1⟩ := h; rw [z] at h1; cases h1
  | dl => obtain ⟨gs, h0, h1⟩ := h; rw [z] at h1; cases h1
  | tb q => obtain ⟨ps, h1, h2, h3⟩ := h; rw [z] at h1; cases h1
/-- the state: O is owned, all that G has never changes, of H0 (where it began) all but E stands as it was -/
structure Fr (E : List Addr) (G0 H0 : Hp) (O : OO) (G H : Hp) : Prop where
  gg : Same G0 G
  gh : Same G H
  hh : ∀ b o, b ∉ E → H0 b = some o → H b = some o
  hn : ∀ b, H b = none → H0 b = none
  fr : ∀ b, G0 b = none → H0 b ≠ none → G b = none
  ow : ∀ x ∈ O, G x.1 = none ∧ (x.2.par = true ∧ x.1 ∈ E ∨ H0 x.1 = none) ∧ OcOk G H x.1 x.2
  nd : (O.map (·.1)).Nodup
section
variable {E : List Addr} {G0 H0 G H G' H' : Hp} {O O' : OO}
/-- a pure step -/
structure Ext (G H G' H' : Hp) : Prop where
  g : Same G G'
  h : Same H H'
  gh : Same G' H'
  fr : ∀ b, G b = none → H b ≠ none → G' b = none
theorem Ext.refl (h : Same G H) : Ext G H G H := ⟨Same.refl _, Same.refl _, h, fun _ h _ => h⟩
theorem Ext.trans {G1 H1 G2 H2 : Hp} (a : Ext G H G1 H1) (b : Ext G1 H1 G2 H2) : Ext G H G2 H2 :=
  ⟨a.g.trans b.g, a.h.trans b.h, b.gh, fun x h1 h2 => b.fr x (a.fr x h1 h2) fun z => h2 (a.h.free z)⟩
theorem Ext.heap (h : Same G H) (s : Same H H') : Ext G H G H' := ⟨Same.refl _, s, h.trans s, fun _ h _ => h⟩
theorem Ext.new {p : Addr} {o : HO} (h : Same G H) (n : H p = none) : Ext G H (upd G p o) (upd H p o) := by
  have gn : G p = none := h.free n
  refine ⟨fun b u e => ?_, fun b u e => ?_, fun b u e => ?_, fun b h1 h2 => ?_⟩
  · rw [upd_ne (ne_of_none e gn)]; exact e
  · rw [upd_ne (ne_of_none e n)]; exact e
  · by_cases hb : b = p
    · subst hb; rw [upd_same] at e ⊢; exact e
    · rw [upd_ne hb] at e ⊢; exact h _ _ e
  · by_cases hb : b = p
    · subst hb; exact absurd n h2
    · rw [upd_ne hb]; exact h1
theorem Fr.ext (f : Fr E G0 H0 O G H) (e : Ext G H G' H') : Fr E G0 H0 O G' H' := by
  refine ⟨f.gg.trans e.g, e.gh, fun b o hb h => e.h _ _ (f.hh b o hb h), fun b h => f.hn b (e.h.free h), fun b h1 h2 => e.fr b (f.fr b h1 h2) fun z => h2 (f.hn b z), fun x hx => ?_, f.nd⟩
  obtain ⟨h1, h2, h3⟩ := f.ow x hx
  refine ⟨e.fr _ h1 h3.some, h2, h3.m e.g ?_⟩
  cases q : H x.1 with
  | none => exact absurd q h3.some
  | some o => exact (e.h _ _ q).symm
/-- an owned object is changed -/
theorem Fr.change {D : Addr} {c c' : OC} {pre post : OO} {o : HO} (f : Fr E G0 H0 (pre ++ (D, c) :: post) G H) (hp : c.par = true → c'.par = true) (ok : OcOk G (upd H D o) D c') : Fr E G0 H0 (pre ++ (D, c') :: post) G (upd H D o) := by
  obtain ⟨w1, w2, w3⟩ := f.ow (D, c) (by simp)
  have nd := f.nd
  rw [List.map_append, List.map_cons] at nd
  refine ⟨f.gg, fun b u e => ?_, fun b u hb h => ?_, fun b h => ?_, f.fr, fun x hx => ?_, by rw [List.map_append, List.map_cons]; exact nd⟩
  · rw [upd_ne (ne_of_none e w1)]; exact f.gh _ _ e
  · have n : b ≠ D := by
      rintro rfl
      rcases w2 with q | q
      · exact hb q.2
      · rw [q] at h; cases h
    rw [upd_ne n]
    exact f.hh b u hb h
  · by_cases hb : b = D
    · subst hb; rw [upd_same] at h; cases h
    · rw [upd_ne hb] at h; exact f.hn b h
  · have hx' : x = (D, c') ∨ (x ∈ pre ∨ x ∈ post) := by
      rcases List.mem_append.mp hx with q | q
      · exact .inr (.inl q)
      · rcases List.mem_cons.mp q with q | q
        · exact .inl q
        · exact .inr (.inr q)
    rcases hx' with rfl | q
    · exact ⟨w1, w2.imp (fun q => ⟨hp q.1, q.2⟩) id, ok⟩
    · obtain ⟨v1, v2, v3⟩ := f.ow x (by
        rcases q with q | q
        · exact List.mem_append_left _ q
        · exact List.mem_append_right _ (List.mem_cons_of_mem _ q))
      have n : x.1 ≠ D := by
        intro z
        have hd := List.nodup_append.mp nd
        rcases q with q | q
        · exact hd.2.2 x.1 (List.mem_map_of_mem q) D (List.mem_cons_self) z
        · exact (List.nodup_cons.mp hd.2.1).1 (by have h9 := List.mem_map_of_mem (f := fun y : Addr × OC => y.1) q; rw [z] at h9; exact h9)
      exact ⟨v1, v2, v3.m (Same.refl _) (by rw [upd_ne n])⟩
/-- a new owned object -/
theorem Fr.own {D : Addr} {c : OC} {o : HO} (f : Fr E G0 H0 O G H) (n : H D = none) (ok : OcOk G (upd H D o) D c) : Fr E G0 H0 (O ++ [(D, c)]) G (upd H D o) := by
  have s : Same H (upd H D o) := fun b u e => by rw [upd_ne (ne_of_none e n)]; exact e
  have f' := f.ext (Ext.heap f.gh s)
  have nin : D ∉ O.map (·.1) := fun z => by
    obtain ⟨x, hx, rfl⟩ := List.mem_map.mp z
    exact (f.ow x hx).2.2.some n
  refine ⟨f'.gg, f'.gh, f'.hh, f'.hn, f'.fr, fun x hx => ?_, ?_⟩
  · rcases List.mem_append.mp hx with q | q
    · exact f'.ow x q
    · rw [List.mem_singleton] at q
      subst q
      exact ⟨f.gh.free n, .inr (f.hn _ n), ok⟩
  · rw [List.map_append, List.nodup_append]
    refine ⟨f.nd, by simp, fun a ha b hb e => ?_⟩
    rw [List.map_singleton, List.mem_singleton] at hb
    have e' : a = D := e.trans hb
    rw [e'] at ha
    exact nin ha
/-- an owned object is given up: it never changes any more -/
theorem Fr.freeze0 {D : Addr} {c : OC} {pre post : OO} {o : HO} (f : Fr E G0 H0 (pre ++ (D, c) :: post) G H) (h0 : H0 D = none) (ho : H D = some o) : Fr E G0 H0 (pre ++ post) (upd G D o) H ∧ Same G (upd G D o) := by
  obtain ⟨w1, w2, w3⟩ := f.ow (D, c) (by simp)
  have nd := f.nd
  rw [List.map_append, List.map_cons] at nd
  have sg : Same G (upd G D o) := fun b u e => by rw [upd_ne (ne_of_none e w1)]; exact e
  refine ⟨⟨f.gg.trans sg, fun b u e => ?_, f.hh, f.hn, fun b h1 h2 => ?_, fun x hx => ?_, ?_⟩, sg⟩
  · by_cases hb : b = D
    · subst hb; rw [upd_same] at e; rw [ho]; exact e
    · rw [upd_ne hb] at e; exact f.gh _ _ e
  · by_cases hb : b = D
    · subst hb; exact absurd h0 h2
    · rw [upd_ne hb]; exact f.fr b h1 h2
  · have n : x.1 ≠ D := by
      intro z
      have hd := List.nodup_append.mp nd
      rcases List.mem_append.mp hx with q | q
      · exact hd.2.2 x.1 (List.mem_map_of_mem q) D (List.mem_cons_self) z
      · exact (List.nodup_cons.mp hd.2.1).1 (by have h9 := List.mem_map_of_mem (f := fun y : Addr × OC => y.1) q; rw [z] at h9; exact h9)
    obtain ⟨v1, v2, v3⟩ := f.ow x (by
      rcases List.mem_append.mp hx with q | q
      · exact List.mem_append_left _ q
      · exact List.mem_append_right _ (List.mem_cons_of_mem _ q))
    exact ⟨by rw [upd_ne n]; exact v1, v2, v3.m sg rfl⟩
  · rw [List.map_append]
    have hd := List.nodup_append.mp nd
    exact List.nodup_append.mpr ⟨hd.1, (List.nodup_cons.mp hd.2.1).2, fun a ha b hb => hd.2.2 a ha b (List.mem_cons_of_mem _ hb)⟩
theorem Fr.freeze {D : Addr} {c : OC} {pre post : OO} {o : HO} (f : Fr E G0 H0 (pre ++ (D, c) :: post) G H) (hp : c.par = false) (ho : H D = some o) : Fr E G0 H0 (pre ++ post) (upd G D o) H ∧ Same G (upd G D o) :=
  f.freeze0 (by
    rcases (f.ow (D, c) (by simp)).2.1 with q | q
    · rw [show c.par = true from q.1] at hp; cases hp
    · exact q) ho
end

/-- the slots, as far as they are known -/
inductive Slots (G : Hp) : List (Option As) → L2.St → Prop
  | nil : Slots G [] []
  | un {x : Option V} {L : List (Option As)} {σ : L2.St} : Slots G L σ → Slots G (none :: L) (x :: σ)
  | im {A : As} {v : V} {L : List (Option As)} {σ : L2.St} : A.p G v → Slots G L σ → Slots G (some A :: L) (some v :: σ)
theorem Slots.m {G G' : Hp} (e : Same G G') : ∀ {L : List (Option As)} {σ : L2.St}, Slots G L σ → Slots G' L σ
  | _, _, .nil => .nil
  | _, _, .un t => .un (Slots.m e t)
  | _, _, .im h t => .im (As.m _ e h) (Slots.m e t)
theorem Slots.get {G : Hp} : ∀ {L : List (Option As)} {σ : L2.St} {i : Nat} {A : As}, Slots G L σ → L[i]? = some (some A) → ∃ v, σ[i]? = some (some v) ∧ A.p G v
  | _, _, i, A, .nil, e => by simp at e
  | _, _, 0, A, .un _, e => by simp at e
  | _, _, 0, A, .im h _, e => by simp at e; subst e; exact ⟨_, rfl, h⟩
  | _, _, i + 1, A, .un t, e => by
    obtain ⟨v, h1, h2⟩ := Slots.get (i := i) t (by simpa using e)
    exact ⟨v, by simpa using h1, h2⟩
  | _, _, i + 1, A, .im _ t, e => by
    obtain ⟨v, h1, h2⟩ := Slots.get (i := i) t (by simpa using e)
    exact ⟨v, by simpa using h1, h2⟩
def setL : List (Option As) → Nat → As → List (Option As)
  | [], _, _ => []
  | _ :: L, 0, A => some A :: L
  | x :: L, i + 1, A => x :: setL L i A
def delL : List (Option As) → Nat → List (Option As)
  | [], _ => []
  | _ :: L, 0 => none :: L
  | x :: L, i + 1 => x :: delL L i
def wipeL (L : List (Option As)) : List Nat → List (Option As)
  | [] => L
  | v :: vs => delL (wipeL L vs) v
theorem Slots.set {G : Hp} {A : As} {v : V} (h : A.p G v) : ∀ {L : List (Option As)} {σ : L2.St} (i : Nat), Slots G L σ → Slots G (setL L i A) (σ.set i (some v))
  | _, _, _, .nil => .nil
  | _, _, 0, .un t => .im h t
  | _, _, 0, .im _ t => .im h t
  | _, _, i + 1, .un t => .un (Slots.set h i t)
  | _, _, i + 1, .im q t => .im q (Slots.set h i t)
theorem Slots.del {G : Hp} : ∀ {L : List (Option As)} {σ : L2.St} (i : Nat), Slots G L σ → Slots G (delL L i) (σ.set i none)
  | _, _, _, .nil => .nil
  | _, _, 0, .un t => .un t
  | _, _, 0, .im _ t => .un t
  | _, _, i + 1, .un t => .un (Slots.del i t)
  | _, _, i + 1, .im q t => .im q (Slots.del i t)
theorem Slots.wipe {G : Hp} {L : List (Option As)} {σ : L2.St} (h : Slots G L σ) : ∀ vs : List Nat, Slots G (wipeL L vs) (wipe σ vs)
  | [] => h
  | v :: vs => (Slots.wipe h vs).del v
theorem Slots.start {G : Hp} (n : Nat) : ∀ {l : List As} {vs : List V}, All2 G l vs → Slots G (l.map some ++ List.replicate n none) (vs.map some ++ List.replicate n none)
  | _, _, .nil => by
    induction n with
    | zero => exact .nil
    | succ n ih => exact .un ih
  | _, _, .cons h t => .im h (Slots.start n t)
end Sy

/-! ### judgements: what a piece of syntax gives, from the assertions on the slots and what is owned -/
namespace Sy
open PySem PySem.Spec PyProof.Rows L2
open SX (S S_len S_cat S_inj)
abbrev LL := List (Option As)
abbrev Post (E : List Addr) (G0 H0 G : Hp) (k : As → OO → Prop) (Q : VK) : Prop := ∀ A O' G' H' v, k A O' → Fr E G0 H0 O' G' H' → Same G G' → A.p G' v → Q v H'
def Go (L : LL) (O : OO) (t : TE) (k : As → OO → Prop) : Prop :=
  ∀ (E : List Addr) (G0 H0 : Hp) (σ : L2.St) (G H : Hp) (Q : VK), Fr E G0 H0 O G H → Slots G L σ → Post E G0 H0 G k Q → t σ H Q
def GoT (L : LL) (O : OO) (t : TT) (k : Bool → OO → Prop) : Prop :=
  ∀ (E : List Addr) (G0 H0 : Hp) (σ : L2.St) (G H : Hp) (Q : Bool → Hp → Prop), Fr E G0 H0 O G H → Slots G L σ → (∀ b O' G' H', k b O' → Fr E G0 H0 O' G' H' → Same G G' → Q b H') → t σ H Q
def GoA (L : LL) (O : OO) (t : TA) (k : List As → OO → Prop) : Prop :=
  ∀ (E : List Addr) (G0 H0 : Hp) (σ : L2.St) (G H : Hp) (Q : List V → Hp → Prop), Fr E G0 H0 O G H → Slots G L σ → (∀ l O' G' H' vs, k l O' → Fr E G0 H0 O' G' H' → Same G G' → All2 G' l vs → Q vs H') → t σ H Q
def GoO (L : LL) (O : OO) (t : TO) (k : Option Int → OO → Prop) : Prop :=
  ∀ (E : List Addr) (G0 H0 : Hp) (σ : L2.St) (G H : Hp) (Q : Option Int → Hp → Prop), Fr E G0 H0 O G H → Slots G L σ → (∀ i O' G' H', k i O' → Fr E G0 H0 O' G' H' → Same G G' → Q i H') → t σ H Q
def V1 (O : OO) (r : V → Hp → VK → Prop) (A : As) (k : As → OO → Prop) : Prop :=
  ∀ (E : List Addr) (G0 H0 : Hp) (G H : Hp) (Q : VK) (x : V), Fr E G0 H0 O G H → A.p G x → Post E G0 H0 G k Q → r x H Q
def V2 (O : OO) (r : R2) (A B : As) (k : As → OO → Prop) : Prop :=
  ∀ (E : List Addr) (G0 H0 : Hp) (G H : Hp) (Q : VK) (x y : V), Fr E G0 H0 O G H → A.p G x → B.p G y → Post E G0 H0 G k Q → r x y H Q
def Vn (O : OO) (r : List V → Hp → VK → Prop) (l : List As) (k : As → OO → Prop) : Prop :=
  ∀ (E : List Addr) (G0 H0 : Hp) (G H : Hp) (Q : VK) (xs : List V), Fr E G0 H0 O G H → All2 G l xs → Post E G0 H0 G k Q → r xs H Q
def Vm (O : OO) (r : V → List V → Hp → VK → Prop) (A : As) (l : List As) (k : As → OO → Prop) : Prop :=
  ∀ (E : List Addr) (G0 H0 : Hp) (G H : Hp) (Q : VK) (x : V) (xs : List V), Fr E G0 H0 O G H → A.p G x → All2 G l xs → Post E G0 H0 G k Q → r x xs H Q
def Vs (O : OO) (r : V → Option Int → Option Int → Hp → VK → Prop) (A : As) (lo hi : Option Int) (k : As → OO → Prop) : Prop :=
  ∀ (E : List Addr) (G0 H0 : Hp) (G H : Hp) (Q : VK) (x : V), Fr E G0 H0 O G H → A.p G x → Post E G0 H0 G k Q → r x lo hi H Q
/-- of which built-in type it is -/
def TyA (K : PySem.W.Frag) (T : String) (A : As) (O : OO) : Prop := ∀ (E : List Addr) (G0 H0 : Hp) (G H : Hp) (x : V), Fr E G0 H0 O G H → A.p G x → tyV K T x H
def TruA (K : PySem.W.Frag) (A : As) (O : OO) (b : Bool) : Prop := ∀ (E : List Addr) (G0 H0 : Hp) (G H : Hp) (x : V), Fr E G0 H0 O G H → A.p G x → TruV K x H b
def TyXA (K : PySem.W.Frag) (A : As) (O : OO) (t : Value) : Prop := ∀ (E : List Addr) (G0 H0 : Hp) (G H : Hp) (x : V), Fr E G0 H0 O G H → A.p G x → TyX K H x t
section
variable {K : PySem.W.Frag} {L : LL} {O : OO} {k : As → OO → Prop} {ta tb tc te : TE} {t : TA} {kb : Bool → OO → Prop} {tt uu : TT}
theorem Go.var {i : Nat} {A : As} (h : L[i]? = some (some A)) (q : k A O) : Go L O (tVar i) k := fun E G0 H0 σ G H Q f s z => by
  obtain ⟨v, h1, h2⟩ := s.get h
  exact ⟨v, h1, z _ _ _ _ _ q f (Same.refl _) h2⟩
theorem Go.c {v : V} (q : k (cst v) O) : Go L O (tC v) k := fun E G0 H0 σ G H Q f s z => z _ _ _ _ _ q f (Same.refl _) rfl
theorem Go.imp {k' : As → OO → Prop} (h : Go L O te k') (i : ∀ A O', k' A O' → k A O') : Go L O te k := fun E G0 H0 σ G H Q f s z => h _ _ _ _ _ _ _ f s fun A O' G' H' v hk => z _ _ _ _ _ (i _ _ hk)
theorem Go.op {r : R2} (h : Go L O ta fun A O1 => Go L O1 tb fun B O2 => V2 O2 r A B k) : Go L O (tOp r ta tb) k := fun E G0 H0 σ G H Q f s z =>
  h _ _ _ _ _ _ _ f s fun A O1 G1 H1 x hb f1 s1 a => hb _ _ _ _ _ _ _ f1 (s.m s1) fun B O2 G2 H2 y hr f2 s2 b => hr _ _ _ _ _ _ _ _ f2 (A.m s2 a) b fun C O3 G3 H3 v hk f3 s3 c => z _ _ _ _ _ hk f3 ((s1.trans s2).trans s3) c
theorem Go.un {r : V → Hp → VK → Prop} (h : Go L O ta fun A O1 => V1 O1 r A k) : Go L O (tUn r ta) k := fun E G0 H0 σ G H Q f s z =>
  h _ _ _ _ _ _ _ f s fun A O1 G1 H1 x hr f1 s1 a => hr _ _ _ _ _ _ _ f1 a fun C O3 G3 H3 v hk f3 s3 c => z _ _ _ _ _ hk f3 (s1.trans s3) c
theorem Go.ite (h : GoT L O tt fun b O1 => (b = true → Go L O1 ta k) ∧ (b = false → Go L O1 tb k)) : Go L O (tIf tt ta tb) k := fun E G0 H0 σ G H Q f s z =>
  h _ _ _ _ _ _ _ f s fun b O1 G1 H1 hk f1 s1 => by
    cases b with
    | true => exact iteT (hk.1 rfl _ _ _ _ _ _ _ f1 (s.m s1) fun A O' G' H' v q f' s' a => z _ _ _ _ _ q f' (s1.trans s') a)
    | false => exact iteF (hk.2 rfl _ _ _ _ _ _ _ f1 (s.m s1) fun A O' G' H' v q f' s' a => z _ _ _ _ _ q f' (s1.trans s') a)
theorem Go.chain {r r' : R2} (h : Go L O ta fun A O1 => Go L O1 tb fun B O2 => V2 O2 r A B fun C O3 => ∃ b, C = bo b ∧ (b = true → Go L O3 tc fun D O4 => V2 O4 r' B D k) ∧ (b = false → k (bo false) O3)) : Go L O (tChain r r' ta tb tc) k :=
  fun E G0 H0 σ G H Q f s z => h _ _ _ _ _ _ _ f s fun A O1 G1 H1 x hb f1 s1 a => hb _ _ _ _ _ _ _ f1 (s.m s1) fun B O2 G2 H2 y hr f2 s2 b => hr _ _ _ _ _ _ _ _ f2 (A.m s2 a) b fun C O3 G3 H3 v hk f3 s3 c => by
    obtain ⟨kk, rfl, k1, k2⟩ := hk
    refine ⟨kk, c, ?_⟩
    cases kk with
    | true => exact iteT (k1 rfl _ _ _ _ _ _ _ f3 (s.m ((s1.trans s2).trans s3)) fun D O4 G4 H4 w hw f4 s4 d => hw _ _ _ _ _ _ _ _ f4 (B.m (s3.trans s4) b) d fun C O5 G5 H5 v hk f5 s5 c => z _ _ _ _ _ hk f5 ((((s1.trans s2).trans s3).trans s4).trans s5) c)
    | false => exact iteF (z _ _ _ _ _ (k2 rfl) f3 ((s1.trans s2).trans s3) rfl)
/-- values by truth values -/
theorem Go.notV (h : Go L O ta fun A O1 => ∃ b, A = bo b ∧ k (bo (!b)) O1) : Go L O (tNotV ta) k := fun E G0 H0 σ G H Q f s z =>
  h _ _ _ _ _ _ _ f s fun A O1 G1 H1 x hr f1 s1 a => by
    obtain ⟨b, rfl, hk⟩ := hr
    exact ⟨b, a, z _ _ _ _ _ hk f1 s1 rfl⟩
theorem Go.andV (h : Go L O ta fun A O1 => ∃ b, A = bo b ∧ (b = true → Go L O1 tb k) ∧ (b = false → k (bo false) O1)) : Go L O (tAndV ta tb) k := fun E G0 H0 σ G H Q f s z =>
  h _ _ _ _ _ _ _ f s fun A O1 G1 H1 x hr f1 s1 a => by
    obtain ⟨b, rfl, h1, h2⟩ := hr
    refine ⟨b, a, ?_⟩
    cases b with
    | true => exact iteT (h1 rfl _ _ _ _ _ _ _ f1 (s.m s1) fun A O' G' H' v q f' s' a => z _ _ _ _ _ q f' (s1.trans s') a)
    | false => exact iteF (z _ _ _ _ _ (h2 rfl) f1 s1 rfl)
theorem Go.orV (h : Go L O ta fun A O1 => ∃ b, A = bo b ∧ (b = true → k (bo true) O1) ∧ (b = false → Go L O1 tb k)) : Go L O (tOrV ta tb) k := fun E G0 H0 σ G H Q f s z =>
  h _ _ _ _ _ _ _ f s fun A O1 G1 H1 x hr f1 s1 a => by
    obtain ⟨b, rfl, h1, h2⟩ := hr
    refine ⟨b, a, ?_⟩
    cases b with
    | true => exact iteT (z _ _ _ _ _ (h1 rfl) f1 s1 rfl)
    | false => exact iteF (h2 rfl _ _ _ _ _ _ _ f1 (s.m s1) fun A O' G' H' v q f' s' a => z _ _ _ _ _ q f' (s1.trans s') a)
theorem Go.orT (h : Go L O ta fun A O1 => ∃ b, TruA K A O1 b ∧ (b = true → k A O1) ∧ (b = false → Go L O1 tb k)) : Go L O (tOrT K ta tb) k := fun E G0 H0 σ G H Q f s z =>
  h _ _ _ _ _ _ _ f s fun A O1 G1 H1 x hr f1 s1 a => by
    obtain ⟨b, ht, h1, h2⟩ := hr
    refine ⟨b, ht _ _ _ _ _ _ f1 a, ?_⟩
    cases b with
    | true => exact iteT (z _ _ _ _ _ (h1 rfl) f1 s1 a)
    | false => exact iteF (h2 rfl _ _ _ _ _ _ _ f1 (s.m s1) fun A O' G' H' v q f' s' a => z _ _ _ _ _ q f' (s1.trans s') a)
theorem Go.andT (h : Go L O ta fun A O1 => ∃ b, TruA K A O1 b ∧ (b = true → Go L O1 tb k) ∧ (b = false → k A O1)) : Go L O (tAndT K ta tb) k := fun E G0 H0 σ G H Q f s z =>
  h _ _ _ _ _ _ _ f s fun A O1 G1 H1 x hr f1 s1 a => by
    obtain ⟨b, ht, h1, h2⟩ := hr
    refine ⟨b, ht _ _ _ _ _ _ f1 a, ?_⟩
    cases b with
    | true => exact iteT (h1 rfl _ _ _ _ _ _ _ f1 (s.m s1) fun A O' G' H' v q f' s' a => z _ _ _ _ _ q f' (s1.trans s') a)
    | false => exact iteF (z _ _ _ _ _ (h2 rfl) f1 s1 a)
theorem Go.notT (h : Go L O ta fun A O1 => ∃ b, TruA K A O1 b ∧ k (bo (!b)) O1) : Go L O (tNotT K ta) k := fun E G0 H0 σ G H Q f s z =>
  h _ _ _ _ _ _ _ f s fun A O1 G1 H1 x hr f1 s1 a => by
    obtain ⟨b, ht, hk⟩ := hr
    exact ⟨b, ht _ _ _ _ _ _ f1 a, z _ _ _ _ _ hk f1 s1 rfl⟩
/-- tests -/
theorem GoT.b (h : Go L O te fun A O1 => ∃ b, A = bo b ∧ kb b O1) : GoT L O (tB te) kb := fun E G0 H0 σ G H Q f s z =>
  h _ _ _ _ _ _ _ f s fun A O1 G1 H1 x hr f1 s1 a => by
    obtain ⟨b, rfl, hk⟩ := hr
    exact ⟨b, a, z _ _ _ _ hk f1 s1⟩
theorem GoT.test (h : Go L O te fun A O1 => ∃ b, A = bo b ∧ kb b O1) : GoT L O (tTest te) kb := fun E G0 H0 σ G H Q f s z =>
  h _ _ _ _ _ _ _ f s fun A O1 G1 H1 x hr f1 s1 a => by
    obtain ⟨b, rfl, hk⟩ := hr
    exact ⟨b, a, z _ _ _ _ hk f1 s1⟩
theorem GoT.tru (h : Go L O te fun A O1 => ∃ b, TruA K A O1 b ∧ kb b O1) : GoT L O (tTruQ K te) kb := fun E G0 H0 σ G H Q f s z =>
  h _ _ _ _ _ _ _ f s fun A O1 G1 H1 x hr f1 s1 a => by
    obtain ⟨b, ht, hk⟩ := hr
    exact ⟨b, ht _ _ _ _ _ _ f1 a, z _ _ _ _ hk f1 s1⟩
theorem GoT.and (h : GoT L O tt fun b O1 => (b = true → GoT L O1 uu kb) ∧ (b = false → kb false O1)) : GoT L O (tAnd tt uu) kb := fun E G0 H0 σ G H Q f s z =>
  h _ _ _ _ _ _ _ f s fun b O1 G1 H1 hr f1 s1 => by
    cases b with
    | true => exact iteT (hr.1 rfl _ _ _ _ _ _ _ f1 (s.m s1) fun b O' G' H' q f' s' => z _ _ _ _ q f' (s1.trans s'))
    | false => exact iteF (z _ _ _ _ (hr.2 rfl) f1 s1)
theorem GoT.or (h : GoT L O tt fun b O1 => (b = true → kb true O1) ∧ (b = false → GoT L O1 uu kb)) : GoT L O (tOr tt uu) kb := fun E G0 H0 σ G H Q f s z =>
  h _ _ _ _ _ _ _ f s fun b O1 G1 H1 hr f1 s1 => by
    cases b with
    | true => exact iteT (z _ _ _ _ (hr.1 rfl) f1 s1)
    | false => exact iteF (hr.2 rfl _ _ _ _ _ _ _ f1 (s.m s1) fun b O' G' H' q f' s' => z _ _ _ _ q f' (s1.trans s'))
theorem GoT.not (h : GoT L O tt fun b O1 => kb (!b) O1) : GoT L O (tNot tt) kb := fun E G0 H0 σ G H Q f s z =>
  h _ _ _ _ _ _ _ f s fun b O1 G1 H1 hr f1 s1 => z _ _ _ _ hr f1 s1
theorem GoT.yes (q : kb true O) : GoT L O tYes kb := fun E G0 H0 σ G H Q f s z => z _ _ _ _ q f (Same.refl _)
theorem GoT.imp {k' : Bool → OO → Prop} (h : GoT L O tt k') (i : ∀ b O', k' b O' → kb b O') : GoT L O tt kb := fun E G0 H0 σ G H Q f s z => h _ _ _ _ _ _ _ f s fun A O' G' H' hk => z _ _ _ _ (i _ _ hk)
/-- the two ways of a test as one decision -/
theorem GoT.join {kb : Bool → OO → Prop} (b : Bool) (h : GoT L O tt fun b' O1 => b' = b ∧ O1 = O) (q : kb b O) : GoT L O tt kb := h.imp fun b' O' e => by rw [e.1, e.2]; exact q
theorem Go.join {A : As} (h : Go L O te fun A' O1 => A' = A ∧ O1 = O) (q : k A O) : Go L O te k := h.imp fun b' O' e => by rw [e.1, e.2]; exact q
/-- argument lists -/
theorem GoA.nil {k : List As → OO → Prop} (q : k [] O) : GoA L O tNil k := fun E G0 H0 σ G H Q f s z => z _ _ _ _ _ q f (Same.refl _) .nil
theorem GoA.cons {k : List As → OO → Prop} (h : Go L O ta fun A O1 => GoA L O1 t fun l O2 => k (A :: l) O2) : GoA L O (tCons ta t) k := fun E G0 H0 σ G H Q f s z =>
  h _ _ _ _ _ _ _ f s fun A O1 G1 H1 x hr f1 s1 a => hr _ _ _ _ _ _ _ f1 (s.m s1) fun l O2 G2 H2 vs hk f2 s2 b => z _ _ _ _ _ hk f2 (s1.trans s2) (.cons (A.m s2 a) b)
theorem All2.sz {G : Hp} {l : List As} {vs : List V} (h : All2 G l vs) (z : l.length ≤ 100000) : vs.length ≤ sizeLine := by
  rw [h.len]
  exact Nat.le_trans z (by decide)
theorem Go.tup (h : GoA L O t fun l O1 => l.length ≤ 100000 ∧ k (tup K l) O1) : Go L O (tTup t) k := fun E G0 H0 σ G H Q f s z =>
  h _ _ _ _ _ _ _ f s fun l O1 G1 H1 vs hk f1 s1 a => ⟨a.sz hk.1, fun p np => by
    have e := Ext.new (o := .tup vs) f1.gh np
    exact z _ _ _ _ _ hk.2 (f1.ext e) (s1.trans e.g) ⟨p, vs, rfl, .inl (.inl upd_same), a.m e.g⟩⟩
theorem Go.lst (h : GoA L O t fun l O1 => l.length ≤ 100000 ∧ k (lst K l) O1) : Go L O (tLst t) k := fun E G0 H0 σ G H Q f s z =>
  h _ _ _ _ _ _ _ f s fun l O1 G1 H1 vs hk f1 s1 a => ⟨a.sz hk.1, fun p np => by
    have e := Ext.new (o := .lst vs) f1.gh np
    exact z _ _ _ _ _ hk.2 (f1.ext e) (s1.trans e.g) ⟨p, vs, rfl, upd_same, a.m e.g⟩⟩
/-- a list that will be changed -/
theorem Go.lstO (h : GoA L O t fun l O1 => l.length ≤ 100000 ∧ ∀ D, k (pt D) (O1 ++ [(D, .ol l)])) : Go L O (tLst t) k := fun E G0 H0 σ G H Q f s z =>
  h _ _ _ _ _ _ _ f s fun l O1 G1 H1 vs hk f1 s1 a => ⟨a.sz hk.1, fun p np => z _ _ _ _ _ (hk.2 p) (f1.own (c := .ol l) np ⟨vs, upd_same, a⟩) s1 rfl⟩
theorem Go.dnewO (h : ∀ D, k (pt D) (O ++ [(D, .od false [])])) : Go L O tDNewK k := fun E G0 H0 σ G H Q f s z p np =>
  z _ _ _ _ _ (h p) (f.own (c := .od false []) np ⟨[], upd_same, .nil⟩) (Same.refl _) rfl
/-- built-ins, methods, slices -/
theorem Go.cb {r : List V → Hp → VK → Prop} (h : GoA L O t fun l O1 => Vn O1 r l k) : Go L O (tCB r t) k := fun E G0 H0 σ G H Q f s z =>
  h _ _ _ _ _ _ _ f s fun l O1 G1 H1 vs hk f1 s1 a => hk _ _ _ _ _ _ _ f1 a fun C O3 G3 H3 v hk f3 s3 c => z _ _ _ _ _ hk f3 (s1.trans s3) c
theorem Go.bm {T : String} {r : V → List V → Hp → VK → Prop} (h : Go L O ta fun A O1 => TyA K T A O1 ∧ GoA L O1 t fun l O2 => Vm O2 r A l k) : Go L O (tBM K T r ta t) k := fun E G0 H0 σ G H Q f s z =>
  h _ _ _ _ _ _ _ f s fun A O1 G1 H1 x hr f1 s1 a => ⟨hr.1 _ _ _ _ _ _ f1 a, hr.2 _ _ _ _ _ _ _ f1 (s.m s1) fun l O2 G2 H2 vs hk f2 s2 b => hk _ _ _ _ _ _ _ _ f2 (A.m s2 a) b fun C O3 G3 H3 v hk f3 s3 c => z _ _ _ _ _ hk f3 ((s1.trans s2).trans s3) c⟩
theorem Go.bm0 {T : String} {r : V → List V → Hp → VK → Prop} (h : Go L O ta fun A O1 => TyA K T A O1 ∧ Vm O1 r A [] k) : Go L O (tBM0 K T r ta) k := fun E G0 H0 σ G H Q f s z =>
  h _ _ _ _ _ _ _ f s fun A O1 G1 H1 x hr f1 s1 a => ⟨hr.1 _ _ _ _ _ _ f1 a, hr.2 _ _ _ _ _ _ _ _ f1 a .nil fun C O3 G3 H3 v hk f3 s3 c => z _ _ _ _ _ hk f3 (s1.trans s3) c⟩
theorem Go.m1 {r : V → List V → Hp → VK → Prop} (h : Go L O ta fun A O1 => (∃ a, A = cst (.str a)) ∧ Go L O1 te fun B O2 => Vm O2 r A [B] k) : Go L O (tM1 r ta te) k := fun E G0 H0 σ G H Q f s z =>
  h _ _ _ _ _ _ _ f s fun A O1 G1 H1 x hr f1 s1 a => ⟨by obtain ⟨⟨y, rfl⟩, _⟩ := hr; exact ⟨y, a⟩, hr.2 _ _ _ _ _ _ _ f1 (s.m s1) fun B O2 G2 H2 y hk f2 s2 b => hk _ _ _ _ _ _ _ _ f2 (A.m s2 a) (.cons b .nil) fun C O3 G3 H3 v hk f3 s3 c => z _ _ _ _ _ hk f3 ((s1.trans s2).trans s3) c⟩
theorem Go.m0 {r : V → List V → Hp → VK → Prop} (h : Go L O ta fun A O1 => (∃ a, A = cst (.str a)) ∧ Vm O1 r A [] k) : Go L O (tM0 r ta) k := fun E G0 H0 σ G H Q f s z =>
  h _ _ _ _ _ _ _ f s fun A O1 G1 H1 x hr f1 s1 a => ⟨by obtain ⟨⟨y, rfl⟩, _⟩ := hr; exact ⟨y, a⟩, hr.2 _ _ _ _ _ _ _ _ f1 a .nil fun C O3 G3 H3 v hk f3 s3 c => z _ _ _ _ _ hk f3 (s1.trans s3) c⟩
theorem GoO.none {k : Option Int → OO → Prop} (q : k none O) : GoO L O tNoPart k := fun E G0 H0 σ G H Q f s z => z _ _ _ _ q f (Same.refl _)
theorem GoO.part {k : Option Int → OO → Prop} (h : Go L O te fun A O1 => ∃ i, A = it i ∧ k (some i) O1) : GoO L O (tPart te) k := fun E G0 H0 σ G H Q f s z =>
  h _ _ _ _ _ _ _ f s fun A O1 G1 H1 x hr f1 s1 a => by
    obtain ⟨i, rfl, hk⟩ := hr
    exact ⟨i, a, z _ _ _ _ hk f1 s1⟩
theorem Go.sl {r : V → Option Int → Option Int → Hp → VK → Prop} {tl th : TO} (h : Go L O te fun A O1 => GoO L O1 tl fun lo O2 => GoO L O2 th fun hi O3 => Vs O3 r A lo hi k) : Go L O (tSl r te tl th) k := fun E G0 H0 σ G H Q f s z =>
  h _ _ _ _ _ _ _ f s fun A O1 G1 H1 x hr f1 s1 a => hr _ _ _ _ _ _ _ f1 (s.m s1) fun lo O2 G2 H2 hk f2 s2 => hk _ _ _ _ _ _ _ f2 (s.m (s1.trans s2)) fun hi O3 G3 H3 hj f3 s3 =>
    hj _ _ _ _ _ _ _ f3 (A.m (s2.trans s3) a) fun C O4 G4 H4 v hk f4 s4 c => z _ _ _ _ _ hk f4 (((s1.trans s2).trans s3).trans s4) c

/-! ### defs -/
def SpG {α : Type} (pre : α → Prop) (as : α → List As) (oin : α → OO) (post : α → As → OO → Prop) : Sp := fun vs H Q _ => ∃ a G, pre a ∧ All2 G (as a) vs ∧ Fr ((oin a).map (·.1)) G H (oin a) G H ∧
  ∀ A O' G' H' v, post a A O' → Fr ((oin a).map (·.1)) G H O' G' H' → A.p G' v → Q v H'
/-- a def that owns nothing and changes nothing -/
abbrev SpP {α : Type} (pre : α → Prop) (as : α → List As) (r : α → As) : Sp := SpG pre as (fun _ => []) fun a A O' => A = r a ∧ O' = []
theorem Fr.part {E : List Addr} {G0 H0 G H : Hp} {I R : OO} (f : Fr E G0 H0 (I ++ R) G H) (hI : ∀ x ∈ I, x.2.par = true) : Fr (I.map (·.1)) G H I G H :=
  ⟨Same.refl _, f.gh, fun _ _ _ h => h, fun _ h => h, fun _ h _ => h, fun x hx => ⟨(f.ow x (List.mem_append_left _ hx)).1, .inl ⟨hI x hx, List.mem_map_of_mem hx⟩, (f.ow x (List.mem_append_left _ hx)).2.2⟩, by
    have h := f.nd
    rw [List.map_append] at h
    exact (List.nodup_append.mp h).1⟩
theorem Fr.frame {E : List Addr} {G0 H0 G H G' H' : Hp} {I O' R : OO} (f : Fr E G0 H0 (I ++ R) G H) (g : Fr (I.map (·.1)) G H O' G' H') : Fr E G0 H0 (O' ++ R) G' H' := by
  have nd := f.nd
  rw [List.map_append] at nd
  have nd' := List.nodup_append.mp nd
  have back : ∀ b o, b ∉ E → H0 b = some o → b ∉ I.map (·.1) := fun b o hb h z => by
    obtain ⟨x, hx, rfl⟩ := List.mem_map.mp z
    rcases (f.ow x (List.mem_append_left _ hx)).2.1 with q | q
    · exact hb q.2
    · rw [q] at h; cases h
  refine ⟨f.gg.trans g.gg, g.gh, fun b o hb h => g.hh b o (back b o hb h) (f.hh b o hb h), fun b h => f.hn b (g.hn b h), fun b h1 h2 => g.fr b (f.fr b h1 h2) fun z => h2 (f.hn b z), fun x hx => ?_, ?_⟩
  · rcases List.mem_append.mp hx with q | q
    · refine ⟨(g.ow x q).1, ?_, (g.ow x q).2.2⟩
      rcases (g.ow x q).2.1 with z | z
      · obtain ⟨y, hy, e⟩ := List.mem_map.mp z.2
        rw [← e]
        exact (f.ow y (List.mem_append_left _ hy)).2.1.imp (fun q => ⟨z.1, q.2⟩) id
      · exact .inr (f.hn _ z)
    · obtain ⟨v1, v2, v3⟩ := f.ow x (List.mem_append_right _ q)
      have nin : x.1 ∉ I.map (·.1) := fun z => nd'.2.2 x.1 z x.1 (List.mem_map_of_mem q) rfl
      refine ⟨g.fr _ v1 v3.some, v2, v3.m g.gg ?_⟩
      cases hq : H x.1 with
      | none => exact absurd hq v3.some
      | some o => exact (g.hh _ _ nin hq).symm
  · rw [List.map_append]
    refine List.nodup_append.mpr ⟨g.nd, nd'.2.1, fun a ha b hb e => ?_⟩
    obtain ⟨x, hx, rfl⟩ := List.mem_map.mp ha
    obtain ⟨y, hy, rfl⟩ := List.mem_map.mp hb
    have h3 := (f.ow y (List.mem_append_right _ hy)).2.2.some
    rcases (g.ow x hx).2.1 with z | z
    · exact nd'.2.2 _ z.2 _ (List.mem_map_of_mem hy) e
    · have e' : x.1 = y.1 := e
      rw [e'] at z
      exact h3 z
theorem Go.call {α : Type} {pre : α → Prop} {as : α → List As} {oin : α → OO} {post : α → As → OO → Prop} {X : XK} (hI : ∀ a, ∀ x ∈ oin a, x.2.par = true)
    (h : GoA L O t fun l O1 => ∃ a R, l = as a ∧ O1 = oin a ++ R ∧ pre a ∧ ∀ A O', post a A O' → k A (O' ++ R)) : Go L O (tCall (SpG pre as oin post) [] X t) k := fun E G0 H0 σ G H Q f s z =>
  h _ _ _ _ _ _ _ f s fun l O1 G1 H1 vs hk f1 s1 b => by
    obtain ⟨a, R, rfl, rfl, hp, hq⟩ := hk
    refine ⟨a, G1, hp, ?_, f1.part (hI a), fun A O' G' H' v q g c => z _ _ _ _ _ (hq _ _ q) (f1.frame g) (s1.trans g.gg) c⟩
    rw [List.append_nil]
    exact b
/-- .. that owns nothing -/
theorem Go.callP {α : Type} {pre : α → Prop} {as : α → List As} {r : α → As} {X : XK}
    (h : GoA L O t fun l O1 => ∃ a, l = as a ∧ pre a ∧ k (r a) O1) : Go L O (tCall (SpP pre as r) [] X t) k := Go.call (fun _ _ h => nomatch h) fun E G0 H0 σ G H Q f s z =>
  h _ _ _ _ _ _ _ f s fun l O' G' H' vs q => z _ _ _ _ _ (by
    obtain ⟨a, h1, h2, h3⟩ := q
    refine ⟨a, O', h1, rfl, h2, ?_⟩
    rintro A O2 ⟨rfl, rfl⟩
    exact h3)
end
end Sy

/-! ### statements, walks, loops, comprehensions, defs -/
namespace Sy
open PySem PySem.Spec PyProof.Rows L2
open SX (S S_len S_cat S_inj)
structure Es where
  nx : LL → OO → Prop
  rt : As → OO → Prop
  bk : LL → OO → Prop := fun _ _ => False
  ct : LL → OO → Prop := fun _ _ => False
abbrev Es.then (k : Es) (f : LL → OO → Prop) : Es := ⟨f, k.rt, k.bk, k.ct⟩
structure EndsOk (E : List Addr) (G0 H0 G0' : Hp) (D : Ends) (k : Es) : Prop where
  nx : ∀ L O σ G H, k.nx L O → Fr E G0 H0 O G H → Same G0' G → Slots G L σ → D.nx σ H
  rt : ∀ A O G H v, k.rt A O → Fr E G0 H0 O G H → Same G0' G → A.p G v → D.rt v H
  bk : ∀ L O σ G H, k.bk L O → Fr E G0 H0 O G H → Same G0' G → Slots G L σ → D.bk σ H
  ct : ∀ L O σ G H, k.ct L O → Fr E G0 H0 O G H → Same G0' G → Slots G L σ → D.ct σ H
theorem EndsOk.m {E : List Addr} {G0 H0 G G' : Hp} {D : Ends} {k : Es} (e : EndsOk E G0 H0 G D k) (s : Same G G') : EndsOk E G0 H0 G' D k :=
  ⟨fun L O σ G H q f z => e.nx L O σ G H q f (s.trans z), fun L O σ G H q f z => e.rt L O σ G H q f (s.trans z), fun L O σ G H q f z => e.bk L O σ G H q f (s.trans z), fun L O σ G H q f z => e.ct L O σ G H q f (s.trans z)⟩
def GoS (L : LL) (O : OO) (t : TS) (k : Es) : Prop :=
  ∀ (E : List Addr) (G0 H0 : Hp) (σ : L2.St) (G H : Hp) (D : Ends), Fr E G0 H0 O G H → Slots G L σ → EndsOk E G0 H0 G D k → t D σ H
/-- a target: what it stores -/
def GoG (L : LL) (A : As) (g : TG) (k : LL → Prop) : Prop :=
  ∀ (σ : L2.St) (G H : Hp) (Q : L2.St → Hp → Prop) (x : V), Same G H → Slots G L σ → A.p G x → (∀ L' σ', k L' → Slots G L' σ' → Q σ' H) → g x σ H Q
section
variable {K : PySem.W.Frag} {L : LL} {O : OO} {k : Es} {te td ty tv : TE} {t u : TS} {tt : TT} {ta : TA}
theorem GoS.imp {k' : Es} (h : GoS L O t k') (n : ∀ L O, k'.nx L O → k.nx L O) (r : ∀ A O, k'.rt A O → k.rt A O) (b : ∀ L O, k'.bk L O → k.bk L O) (c : ∀ L O, k'.ct L O → k.ct L O) : GoS L O t k := fun E G0 H0 σ G H D f s e =>
  h _ _ _ _ _ _ _ f s ⟨fun L O σ G H q => e.nx L O σ G H (n _ _ q), fun A O G H v q => e.rt A O G H v (r _ _ q), fun L O σ G H q => e.bk L O σ G H (b _ _ q), fun L O σ G H q => e.ct L O σ G H (c _ _ q)⟩
theorem GoS.seq (h : GoS L O t (k.then fun L' O' => GoS L' O' u k)) : GoS L O (tSeq t u) k := fun E G0 H0 σ G H D f s e =>
  h _ _ _ _ _ _ _ f s ⟨fun L O σ G H q f' z s' => q _ _ _ _ _ _ _ f' s' (e.m z), e.rt, e.bk, e.ct⟩
theorem GoS.cut (h : GoS L O t (k.then fun L' O' => GoS L' O' u k)) : GoS L O (C8.tCut t u) k := fun E G0 H0 σ G H D f s e =>
  ⟨fun σ' H' => ∃ L' O' G', GoS L' O' u k ∧ Fr E G0 H0 O' G' H' ∧ Same G G' ∧ Slots G' L' σ', h _ _ _ _ _ _ _ f s ⟨fun L O σ G H q f' z s' => ⟨_, _, _, q, f', z, s'⟩, e.rt, e.bk, e.ct⟩, fun σ' H' ⟨L', O', G', q, f', z, s'⟩ => q _ _ _ _ _ _ _ f' s' (e.m z)⟩
/-- a word between -/
theorem GoS.mid {k : Es} (J : LL → OO → Prop) (h : GoS L O t (k.then J)) (q : ∀ L' O', J L' O' → k.nx L' O') : GoS L O t k := h.imp q (fun _ _ h => h) (fun _ _ h => h) (fun _ _ h => h)
theorem GoS.nil (q : k.nx L O) : GoS L O tNext k := fun E G0 H0 σ G H D f s e => e.nx _ _ _ _ _ q f (Same.refl _) s
theorem GoS.brk (q : k.bk L O) : GoS L O tBreak k := fun E G0 H0 σ G H D f s e => e.bk _ _ _ _ _ q f (Same.refl _) s
theorem GoS.cont (q : k.ct L O) : GoS L O tCont k := fun E G0 H0 σ G H D f s e => e.ct _ _ _ _ _ q f (Same.refl _) s
theorem GoS.drop (h : Go L O te fun _ O1 => k.nx L O1) : GoS L O (tDrop te) k := fun E G0 H0 σ G H D f s e =>
  h _ _ _ _ _ _ _ f s fun A O1 G1 H1 v q f1 s1 a => e.nx _ _ _ _ _ q f1 s1 (s.m s1)
theorem GoS.ret (h : Go L O te fun A O1 => k.rt A O1) : GoS L O (tRet te) k := fun E G0 H0 σ G H D f s e =>
  h _ _ _ _ _ _ _ f s fun A O1 G1 H1 v q f1 s1 a => e.rt _ _ _ _ _ q f1 s1 a
theorem GoS.retN (q : k.rt no O) : GoS L O tRetN k := fun E G0 H0 σ G H D f s e => e.rt _ _ _ _ _ q f (Same.refl _) rfl
theorem GoS.ite (h : GoT L O tt fun b O1 => (b = true → GoS L O1 t k) ∧ (b = false → GoS L O1 u k)) : GoS L O (tIfS tt t u) k := fun E G0 H0 σ G H D f s e =>
  h _ _ _ _ _ _ _ f s fun b O1 G1 H1 q f1 s1 => by
    cases b with
    | true => exact iteT (q.1 rfl _ _ _ _ _ _ _ f1 (s.m s1) (e.m s1))
    | false => exact iteF (q.2 rfl _ _ _ _ _ _ _ f1 (s.m s1) (e.m s1))
theorem GoS.set {i : Nat} (h : Go L O te fun A O1 => k.nx (setL L i A) O1) : GoS L O (tAsg te (gName i)) k := fun E G0 H0 σ G H D f s e =>
  h _ _ _ _ _ _ _ f s fun A O1 G1 H1 v q f1 s1 a => e.nx _ _ _ _ _ q f1 s1 ((s.m s1).set a i)
theorem GoS.asg {g : TG} (h : Go L O te fun A O1 => GoG L A g fun L' => k.nx L' O1) : GoS L O (tAsg te g) k := fun E G0 H0 σ G H D f s e =>
  h _ _ _ _ _ _ _ f s fun A O1 G1 H1 v q f1 s1 a => q _ _ _ _ _ f1.gh (s.m s1) a fun L' σ' q' s' => e.nx _ _ _ _ _ q' f1 s1 s'
theorem GoS.par {i j : Nat} (h : GoA L O ta fun l O1 => ∃ A B, l = [A, B] ∧ k.nx (setL (setL L i A) j B) O1) : GoS L O (tPar i j ta) k := fun E G0 H0 σ G H D f s e =>
  h _ _ _ _ _ _ _ f s fun l O1 G1 H1 vs q f1 s1 a => by
    obtain ⟨A, B, rfl, q⟩ := q
    cases a with
    | cons a r => cases r with
      | cons b r => cases r; exact ⟨_, _, rfl, e.nx _ _ _ _ _ q f1 s1 (((s.m s1).set a i).set b j)⟩
theorem GoS.par3 {i j m : Nat} (h : GoA L O ta fun l O1 => ∃ A B C, l = [A, B, C] ∧ k.nx (setL (setL (setL L i A) j B) m C) O1) : GoS L O (tPar3 i j m ta) k := fun E G0 H0 σ G H D f s e =>
  h _ _ _ _ _ _ _ f s fun l O1 G1 H1 vs q f1 s1 a => by
    obtain ⟨A, B, C, rfl, q⟩ := q
    cases a with
    | cons a r => cases r with
      | cons b r => cases r with
        | cons c r => cases r; exact ⟨_, _, _, rfl, e.nx _ _ _ _ _ q f1 s1 ((((s.m s1).set a i).set b j).set c m)⟩
theorem GoS.aug {i : Nat} {A : As} {ti : TIp} (hA : L[i]? = some (some A)) (h : Go L O te fun B O1 => V2 O1 ti A B fun C O2 => k.nx (setL L i C) O2) : GoS L O (tAug i te ti) k := fun E G0 H0 σ G H D f s e => by
  obtain ⟨x, h1, a⟩ := s.get hA
  exact ⟨x, h1, h _ _ _ _ _ _ _ f s fun B O1 G1 H1 y q f1 s1 b => q _ _ _ _ _ _ _ _ f1 (A.m s1 a) b fun C O2 G2 H2 v q f2 s2 c => e.nx _ _ _ _ _ q f2 (s1.trans s2) ((s.m (s1.trans s2)).set c i)⟩
theorem GoG.name {A : As} {i : Nat} {k : LL → Prop} (q : k (setL L i A)) : GoG L A (gName i) k := fun σ G H Q x e s a z => z _ _ q (s.set a i)
def GoGs (L : LL) (l : List As) (g : TGs) (k : LL → Prop) : Prop :=
  ∀ (σ : L2.St) (G H : Hp) (Q : L2.St → Hp → Prop) (xs : List V), Same G H → Slots G L σ → All2 G l xs → (∀ L' σ', k L' → Slots G L' σ' → Q σ' H) → g xs σ H Q
theorem GoGs.nil {k : LL → Prop} (q : k L) : GoGs L [] gNil k := fun σ G H Q xs e s a z => by
  cases a
  exact ⟨rfl, z _ _ q s⟩
theorem GoGs.cons {A : As} {l : List As} {g : TG} {u : TGs} {k : LL → Prop} (h : GoG L A g fun L' => GoGs L' l u k) : GoGs L (A :: l) (gCons g u) k := fun σ G H Q xs e s a z => by
  cases a with
  | cons a r => exact ⟨_, _, rfl, h _ _ _ _ _ e s a fun L' σ' q' s' => q' _ _ _ _ _ e s' r z⟩
theorem GoG.tup {l : List As} {n : Nat} {u : TGs} {k : LL → Prop} (hn : l.length = n) (h : GoGs L l u k) : GoG L (tup K l) (gTup K n u) k := fun σ G H Q x e s a z => by
  obtain ⟨p, vs, rfl, h1, h2⟩ := a
  exact ⟨p, vs, rfl, SqT.mono e h1, by rw [h2.len, hn], h _ _ _ _ _ e s h2 z⟩

/-! walks -/
/-- what is walked gives the things xs, one after the other -/
def IterOk (J : It) (xs : List As) (G : Hp) : Prop := ∃ (Gp : Hp → Prop) (Y : Nat → Hp → V → Hp → Prop), Walk J xs.length Gp Y ∧ (∀ H, Same G H → Gp H) ∧
  ∀ i H x H', i < xs.length → Y i H x H' → ∀ Gc, Same G Gc → Same Gc H → ∃ A Gc', xs[i]? = some A ∧ Ext Gc H Gc' H' ∧ A.p Gc' x
def GoI (L : LL) (O : OO) (wi : TI) (k : List As → OO → Prop) : Prop :=
  ∀ (E : List Addr) (G0 H0 : Hp) (σ : L2.St) (G H : Hp) (R : It → Hp → Prop), Fr E G0 H0 O G H → Slots G L σ → (∀ xs O' G' H' J, k xs O' → Fr E G0 H0 O' G' H' → Same G G' → IterOk J xs G' → R J H') → wi σ H R
theorem ib {xs : List V} {l : List As} {G : Hp} (a : All2 G l xs) {i : Nat} {x : V} (h : xs[i]? = some x) : ∃ A, l[i]? = some A ∧ A.p G x := a.get h
theorem GoI.ofL {k : List As → OO → Prop} (h : Go L O te fun A O1 => ∃ xs, A = lst K xs ∧ k xs O1) : GoI L O (iList K te) k := fun E G0 H0 σ G H R f s z =>
  h _ _ _ _ _ _ _ f s fun A O1 G1 H1 v q f1 s1 a => by
    obtain ⟨xs, rfl, q⟩ := q
    obtain ⟨p, vs, rfl, h1, h2⟩ := a
    refine ⟨p, rfl, ⟨vs, SqL.of (f1.gh _ _ h1)⟩, z _ _ _ _ _ q f1 s1 ⟨_, _, by rw [← h2.len]; exact walk_list, fun H e => SqL.of (e _ _ h1), fun i H x H' hi y Gc e1 e2 => ?_⟩⟩
    obtain ⟨rfl, hx⟩ := y
    obtain ⟨A, hA, ha⟩ := h2.get hx
    exact ⟨A, Gc, hA, Ext.refl e2, A.m e1 ha⟩
theorem GoI.ofT {k : List As → OO → Prop} (h : Go L O te fun A O1 => ∃ xs, A = tup K xs ∧ k xs O1) : GoI L O (iTup K te) k := fun E G0 H0 σ G H R f s z =>
  h _ _ _ _ _ _ _ f s fun A O1 G1 H1 v q f1 s1 a => by
    obtain ⟨xs, rfl, q⟩ := q
    obtain ⟨p, vs, rfl, h1, h2⟩ := a
    refine ⟨p, rfl, ⟨vs, SqT.mono f1.gh h1⟩, z _ _ _ _ _ q f1 s1 ⟨_, _, by rw [← h2.len]; exact walk_tup, fun H e => SqT.mono e h1, fun i H x H' hi y Gc e1 e2 => ?_⟩⟩
    obtain ⟨rfl, hx⟩ := y
    obtain ⟨A, hA, ha⟩ := h2.get hx
    exact ⟨A, Gc, hA, Ext.refl e2, A.m e1 ha⟩
theorem GoI.str {k : List As → OO → Prop} (h : Go L O te fun A O1 => ∃ l, A = tx l ∧ k (l.map fun c => tx [c]) O1) : GoI L O (iStr te) k := fun E G0 H0 σ G H R f s z =>
  h _ _ _ _ _ _ _ f s fun A O1 G1 H1 v q f1 s1 a => by
    obtain ⟨l, rfl, q⟩ := q
    have size : (S l).cps.size = l.length := by simp [S]
    refine ⟨S l, a, z _ _ _ _ _ q f1 s1 ⟨_, _, by rw [List.length_map, ← size]; exact walk_str, fun _ _ => trivial, fun i H x H' hi y Gc e1 e2 => ?_⟩⟩
    obtain ⟨rfl, c, hc, rfl⟩ := y
    have hc' : l[i]? = some c := by
      have : (S l).cps[i]? = l[i]? := by simp [S]
      rw [← this]
      exact hc
    exact ⟨tx [c], Gc, by rw [List.getElem?_map, hc']; rfl, Ext.refl e2, rfl⟩
def rngA (lo : Int) (n : Nat) : List As := (List.range n).map fun j : Nat => it (lo + j)
theorem rngA_ok {lo : Int} {n : Nat} {G : Hp} : IterOk (Itr lo n) (rngA lo n) G := by
  refine ⟨_, _, by rw [show (rngA lo n).length = n by simp [rngA]]; exact walk_range, fun _ _ => trivial, fun i H x H' hi y Gc e1 e2 => ?_⟩
  obtain ⟨rfl, rfl⟩ := y
  have hi' : i < n := by simpa [rngA] using hi
  exact ⟨it (lo + i), Gc, by simp [rngA, hi'], Ext.refl e2, rfl⟩
theorem GoI.rng1 {k : List As → OO → Prop} (h : GoA L O ta fun l O1 => ∃ j : Int, l = [it j] ∧ (-(2 ^ 62) ≤ j ∧ j < 2 ^ 62) ∧ k (rngA 0 j.toNat) O1) : GoI L O (iRng1 ta) k := fun E G0 H0 σ G H R f s z =>
  h _ _ _ _ _ _ _ f s fun l O1 G1 H1 vs q f1 s1 a => by
    obtain ⟨j, rfl, ⟨b1, b2⟩, q⟩ := q
    cases a with
    | cons a r => cases r; exact ⟨j, by rw [show _ = V.int j from a], b1, b2, z _ _ _ _ _ q f1 s1 rngA_ok⟩
theorem GoI.rng2 {k : List As → OO → Prop} (h : GoA L O ta fun l O1 => ∃ i j : Int, l = [it i, it j] ∧ (-(2 ^ 62) ≤ i ∧ i < 2 ^ 62 ∧ -(2 ^ 62) ≤ j ∧ j < 2 ^ 62) ∧ k (rngA i (j - i).toNat) O1) : GoI L O (iRng2 ta) k := fun E G0 H0 σ G H R f s z =>
  h _ _ _ _ _ _ _ f s fun l O1 G1 H1 vs q f1 s1 a => by
    obtain ⟨i, j, rfl, b, q⟩ := q
    cases a with
    | cons a r => cases r with
      | cons a' r => cases r; exact ⟨i, j, by rw [show _ = V.int i from a, show _ = V.int j from a'], b, z _ _ _ _ _ q f1 s1 rngA_ok⟩
/-- a new pair each -/
theorem pair_ok {J : It} {n : Nat} {Gp : Hp → Prop} {f g : Nat → Option V} {G : Hp} {xs ys : List As} (w : Walk J n Gp (YPair f g)) (hx : xs.length = n) (hy : ys.length = n) (gp : ∀ H, Same G H → Gp H)
    (fx : ∀ i v, i < n → f i = some v → ∃ A, xs[i]? = some A ∧ A.p G v) (gx : ∀ i v, i < n → g i = some v → ∃ A, ys[i]? = some A ∧ A.p G v) : IterOk J ((xs.zip ys).map fun p => tup K [p.1, p.2]) G := by
  have hl : ((xs.zip ys).map fun p => tup K [p.1, p.2]).length = n := by rw [List.length_map, List.length_zip, hx, hy, Nat.min_self]
  refine ⟨_, _, by rw [hl]; exact w, gp, fun i H x H' hi y Gc e1 e2 => ?_⟩
  rw [hl] at hi
  obtain ⟨T, a, b, rfl, nT, rfl, h1, h2⟩ := y
  obtain ⟨A, hA, ha⟩ := fx _ _ hi h1
  obtain ⟨B, hB, hb⟩ := gx _ _ hi h2
  have e := Ext.new (o := .tup [a, b]) e2 nT
  refine ⟨tup K [A, B], _, ?_, e, T, [a, b], rfl, .inl (.inl upd_same), .cons (A.m (e1.trans e.g) ha) (.cons (B.m (e1.trans e.g) hb) .nil)⟩
  rw [List.getElem?_map]
  have hz : (xs.zip ys)[i]? = some (A, B) := by rw [List.getElem?_zip_eq_some]; exact ⟨hA, hB⟩
  rw [hz]
  rfl
def nums (n : Nat) : List As := (List.range n).map fun j : Nat => it (j : Int)
theorem nums_at {n i : Nat} {G : Hp} (h : i < n) : ∃ A, (nums n)[i]? = some A ∧ A.p G (.int (i : Nat)) := ⟨it i, by simp [nums, h], rfl⟩
def enA (K : PySem.W.Frag) (xs : List As) : List As := ((nums xs.length).zip xs).map fun p => tup K [p.1, p.2]
theorem GoI.enum {k : List As → OO → Prop} (h : GoA L O ta fun l O1 => ∃ xs, l = [lst K xs] ∧ k (enA K xs) O1) : GoI L O (iEnum K ta) k := fun E G0 H0 σ G H R f s z =>
  h _ _ _ _ _ _ _ f s fun l O1 G1 H1 vs q f1 s1 a => by
    obtain ⟨xs, rfl, q⟩ := q
    cases a with
    | cons a r =>
      cases r
      obtain ⟨p, vs, rfl, h1, h2⟩ := a
      refine ⟨p, vs, rfl, SqL.of (f1.gh _ _ h1), z _ _ _ _ _ q f1 s1 (pair_ok (n := vs.length) walk_enum (by simp [nums, h2.len]) h2.len.symm (fun H e => SqL.of (e _ _ h1)) (fun i v hi e => ?_) (fun i v _ e => h2.get e))⟩
      obtain rfl := Option.some.inj e
      exact nums_at (by rw [← h2.len]; exact hi)
theorem GoI.enumT {k : List As → OO → Prop} (h : GoA L O ta fun l O1 => ∃ xs, l = [tup K xs] ∧ k (enA K xs) O1) : GoI L O (ET.iEn K ta) k := fun E G0 H0 σ G H R f s z =>
  h _ _ _ _ _ _ _ f s fun l O1 G1 H1 vs q f1 s1 a => by
    obtain ⟨xs, rfl, q⟩ := q
    cases a with
    | cons a r =>
      cases r
      obtain ⟨p, vs, rfl, h1, h2⟩ := a
      refine ⟨p, vs, rfl, SqT.mono f1.gh h1, z _ _ _ _ _ q f1 s1 (pair_ok (n := vs.length) ET.walk_en (by simp [nums, h2.len]) h2.len.symm (fun H e => SqT.mono e h1) (fun i v hi e => ?_) (fun i v _ e => h2.get e))⟩
      obtain rfl := Option.some.inj e
      exact nums_at (by rw [← h2.len]; exact hi)
theorem GoI.zip {k : List As → OO → Prop} (h : GoA L O ta fun l O1 => ∃ xs ys, l = [lst K xs, lst K ys] ∧ xs.length = ys.length ∧ k ((xs.zip ys).map fun p => tup K [p.1, p.2]) O1) : GoI L O (iZip K ta) k := fun E G0 H0 σ G H R f s z =>
  h _ _ _ _ _ _ _ f s fun l O1 G1 H1 vs q f1 s1 a => by
    obtain ⟨xs, ys, rfl, hl, q⟩ := q
    cases a with
    | cons a r =>
      cases r with
      | cons b r =>
        cases r
        obtain ⟨p, vs, rfl, h1, h2⟩ := a
        obtain ⟨p', ws, rfl, h3, h4⟩ := b
        exact ⟨p, p', vs, ws, rfl, SqL.of (f1.gh _ _ h1), SqL.of (f1.gh _ _ h3), z _ _ _ _ _ q f1 s1 (pair_ok (n := vs.length) (walk_zip (by rw [h2.len, h4.len, hl, Nat.min_self])) h2.len.symm (by rw [h2.len, hl]) (fun H e => ⟨SqL.of (e _ _ h1), SqL.of (e _ _ h3)⟩) (fun i v _ e => h2.get e) (fun i v _ e => h4.get e))⟩
theorem GoI.zipS {k : List As → OO → Prop} (h : GoA L O ta fun l O1 => ∃ xs ys, l = [lst K xs, lst K ys] ∧ xs.length = ys.length ∧ k ((xs.zip ys).map fun p => tup K [p.1, p.2]) O1) : GoI L O (ZS.iZs K ta) k := fun E G0 H0 σ G H R f s z =>
  h _ _ _ _ _ _ _ f s fun l O1 G1 H1 vs q f1 s1 a => by
    obtain ⟨xs, ys, rfl, hl, q⟩ := q
    cases a with
    | cons a r =>
      cases r with
      | cons b r =>
        cases r
        obtain ⟨p, vs, rfl, h1, h2⟩ := a
        obtain ⟨p', ws, rfl, h3, h4⟩ := b
        exact ⟨p, p', vs, ws, rfl, SqL.of (f1.gh _ _ h1), SqL.of (f1.gh _ _ h3), z _ _ _ _ _ q f1 s1 (pair_ok (n := vs.length) (ZS.walk_zs (by rw [h2.len, h4.len, hl])) h2.len.symm (by rw [h2.len, hl]) (fun H e => ⟨SqL.of (e _ _ h1), SqL.of (e _ _ h3)⟩) (fun i v _ e => h2.get e) (fun i v _ e => h4.get e))⟩

/-! for: J tells slots and what is owned ahead of the i-th turn -/
theorem GoS.for {wi : TI} {g : TG} {tb : TS} (h : GoI L O wi fun xs O1 => ∃ J : Nat → LL → OO → Prop, J 0 L O1 ∧
    (∀ i A L' O', xs[i]? = some A → J i L' O' → GoG L' A g fun L2 => GoS L2 O' tb { k with nx := J (i + 1), ct := J (i + 1), bk := k.nx }) ∧ ∀ L' O', J xs.length L' O' → k.nx L' O') : GoS L O (tFor wi g tb) k := fun E G0 H0 σ G H D f s e =>
  h _ _ _ _ _ _ _ f s fun xs O1 G1 H1 It q f1 s1 ok => by
    obtain ⟨J, j0, js, jd⟩ := q
    obtain ⟨Gp, Y, w, gp, yy⟩ := ok
    refine for_it w (fun i σ' H' => ∃ L' O' G', J i L' O' ∧ Fr E G0 H0 O' G' H' ∧ Same G1 G' ∧ Slots G' L' σ') ⟨L, O1, G1, j0, f1, Same.refl _, s.m s1⟩ (fun i σ' H' _ ⟨_, _, G', _, f', z, _⟩ => gp _ (z.trans f'.gh)) (fun i x σ' H' H'' hi ⟨L', O', G', j', f', z, s'⟩ y => ?_)
      (fun σ' H' ⟨L', O', G', j', f', z, s'⟩ => e.nx _ _ _ _ _ (jd _ _ j') f' (s1.trans z) s')
    obtain ⟨A, G2, hA, ex, a⟩ := yy i H' x H'' hi y G' z f'.gh
    have f2 := f'.ext ex
    have z2 := z.trans ex.g
    refine js i A L' O' hA j' _ _ _ _ _ f2.gh (s'.m ex.g) a fun L2 σ2 q2 s2 => ?_
    exact q2 _ _ _ _ _ _ _ f2 s2 ⟨fun L O σ G H q f z s => ⟨_, _, _, q, f, z2.trans z, s⟩, fun A O G H v q f z a => e.rt _ _ _ _ _ q f ((s1.trans z2).trans z) a, fun L O σ G H q f z s => e.nx _ _ _ _ _ q f ((s1.trans z2).trans z) s, fun L O σ G H q f z s => ⟨_, _, _, q, f, z2.trans z, s⟩⟩

/-! comprehensions: T is the rest of what is owned (the new list among it) -/
theorem All2.snoc {G : Hp} {l : List As} {vs : List V} {A : As} {v : V} (h : All2 G l vs) (a : A.p G v) : All2 G (l ++ [A]) (vs ++ [v]) := h.app (.cons a .nil)
theorem Go.lc {wi : TI} {g : TG} {tt : TT} {te : TE} {vs : List Nat} {k : As → OO → Prop} (hg : ∀ (x : V) (σ : L2.St) (H : Hp) (Q : L2.St → Hp → Prop), g x (wipe σ vs) H (fun σ2 H2 => wipe σ2 vs = wipe σ vs → Q σ2 H2) → g x (wipe σ vs) H (fun σ2 H2 => wipe σ2 vs = wipe σ vs ∧ Q σ2 H2))
    (h : GoI L O wi fun xs O1 => ∃ J : Nat → List As → OO → Prop, J 0 [] O1 ∧
      (∀ i A acc O' T, xs[i]? = some A → J i acc O' → GoG (wipeL L vs) A g fun L2 => GoT L2 (O' ++ T) tt fun b O2 => if b = true then Go L2 O2 te fun B O3 => ∃ O4, O3 = O4 ++ T ∧ acc.length < 100000 ∧ J (i + 1) (acc ++ [B]) O4 else ∃ O4, O2 = O4 ++ T ∧ J (i + 1) acc O4) ∧
      ∀ acc O', J xs.length acc O' → k (Sy.lst K acc) O') : Go L O (tLc wi g tt te vs) k := fun E G0 H0 σ G H Q f s z =>
  h _ _ _ _ _ _ _ f s fun xs O1 G1 H1 It q f1 s1 ok D nD => by
    obtain ⟨J, j0, js, jd⟩ := q
    obtain ⟨Gp, Y, w, gp, yy⟩ := ok
    have fo : Fr E G0 H0 (O1 ++ [(D, .ol [])]) G1 (upd H1 D (.lst [])) := f1.own nD ⟨[], upd_same, .nil⟩
    refine lc_it w (fun i H' => ∃ acc O' G', J i acc O' ∧ Fr E G0 H0 (O' ++ [(D, .ol acc)]) G' H' ∧ Same G1 G') ⟨[], O1, G1, j0, fo, Same.refl _⟩ (fun i H' _ ⟨acc, O', G', _, f', s'⟩ => gp _ (s'.trans f'.gh)) (fun i x H' H'' hi ⟨acc, O', G', j', f', s'⟩ y => ?_) (fun H' ⟨acc, O', G', j', f', s'⟩ => ?_)
    · obtain ⟨A, G2, hA, ex, a⟩ := yy i H' x H'' hi y G' s' f'.gh
      have f2 := f'.ext ex
      refine hg _ _ _ _ (js i A acc O' [(D, .ol acc)] hA j' _ _ _ _ _ f2.gh ((s.m (s1.trans (s'.trans ex.g))).wipe vs) a fun L2 σ2 q2 s2 hw => ?_)
      refine q2 _ _ _ _ _ _ _ f2 s2 fun b O3 G3 H3 hb f3 s3 => ?_
      cases b with
      | true =>
        rw [if_pos rfl] at hb
        refine ifT rfl (hb _ _ _ _ _ _ _ f3 (s2.m s3) fun B O4 G4 H4 v q4 f4 s4 bb => ?_)
        obtain ⟨O5, rfl, hl, j5⟩ := q4
        obtain ⟨w1, w2, us, hu, au⟩ := f4.ow (D, .ol acc) (by simp)
        refine ⟨us, hu, by rw [au.len]; exact szlt (by omega), acc ++ [B], O5, G4, j5, Fr.change (post := []) f4 (fun z => z) ⟨us ++ [v], upd_same, au.snoc bb⟩, ((s'.trans ex.g).trans s3).trans s4⟩
      | false =>
        rw [if_neg Bool.false_ne_true] at hb
        obtain ⟨O5, rfl, j5⟩ := hb
        exact ifF rfl ⟨acc, O5, G3, j5, f3, (s'.trans ex.g).trans s3⟩
    · obtain ⟨w1, w2, us, hu, au⟩ := f'.ow (D, .ol acc) (by simp)
      obtain ⟨fz, sz⟩ := Fr.freeze (post := []) f' rfl hu
      rw [List.append_nil] at fz
      exact z _ _ _ _ _ (jd _ _ j') fz (s1.trans (s'.trans sz)) ⟨D, us, rfl, upd_same, au.m sz⟩
theorem hg1 {j : Nat} (x : V) (σ : L2.St) (H : Hp) (Q : L2.St → Hp → Prop) : gName j x (wipe σ [j]) H (fun σ2 H2 => wipe σ2 [j] = wipe σ [j] → Q σ2 H2) → gName j x (wipe σ [j]) H (fun σ2 H2 => wipe σ2 [j] = wipe σ [j] ∧ Q σ2 H2) := fun q => by
  have e : wipe ((wipe σ [j]).set j (some x)) [j] = wipe σ [j] := by simp [wipe]
  exact ⟨e, q e⟩
end
end Sy

/-! ### defs by their bodies; values -/
namespace Sy
open PySem PySem.Spec PyProof.Rows L2
open SX (S S_len S_cat S_inj)
section
variable {P : Program} {w : World} {K : PySem.W.Frag} {mg : Str → Option Value} {base : Heap}
def eR (p : As → OO → Prop) : Es := ⟨fun _ O' => p no O', p, fun _ _ => False, fun _ _ => False⟩
def startL (N : List Str) (l : List As) : LL := l.map some ++ List.replicate (N.length - l.length) none
theorem fn_sy {α : Type} {pre : α → Prop} {as : α → List As} {oin : α → OO} {post : α → As → OO → Prop} {x qual : Str} {st : Stmt} {f : Addr} {fd : FuncData} {N ps : List Str} {k : Nat} (F : Fun K x qual st f fd) (S : FnScope N ps (defScope st)) (len : ∀ a, pre a → (as a).length = ps.length)
    (body : ∀ (a : α) (cdv : Value) (A : Around) (outer : List Env) (s : Shared) (H : Hp) (E : XK), Room k (A.deeper (envOfC qual (defScope st) s.heap.objs.size f cdv)) → pre a →
      ∃ t, PSs (cxOf CX0 P w K mg base N qual (defScope st) f cdv A outer s H E).nox (defBody st) t ∧ GoS (startL N (as a)) (oin a) t (eR (post a))) :
    FnOk P w K mg base CX0 (k + 1) f fd ps (SpG pre as oin post) := by
  refine F.ok S (fun vs H Q E h => ?_) (fun cdv A outer s H vs Q E hr h => ?_)
  · obtain ⟨a, G, h1, h2, _⟩ := h
    rw [h2.len, len a h1]
  · obtain ⟨a, G, h1, h2, h3, h4⟩ := h
    obtain ⟨t, ht, hg⟩ := body a cdv A outer s H E hr h1
    refine ⟨t, ht, hg _ _ _ _ _ _ _ h3 ?_ ⟨fun L O σ G' H' q f z s => h4 _ _ _ _ _ q f rfl, fun A O G' H' v q f z a => h4 _ _ _ _ _ q f a, fun _ _ _ _ _ q => q.elim, fun _ _ _ _ _ q => q.elim⟩⟩
    have e : L2.start N vs = vs.map some ++ List.replicate (N.length - (as a).length) none := by
      unfold L2.start
      rw [h2.len]
    rw [e]
    exact Slots.start _ h2
end
section
variable {K : PySem.W.Frag} {O : OO} {k : As → OO → Prop}
/-- an operation on two plain values -/
theorem V2.sc {r : R2} {x y z : V} (h : ∀ (H : Hp) (Q : VK), Q z H → r x y H Q) (q : k (cst z) O) : V2 O r (cst x) (cst y) k := fun E G0 H0 G H Q x' y' f a b zz => by
  obtain rfl : x' = x := a
  obtain rfl : y' = y := b
  exact h H Q (zz _ _ _ _ _ q f (Same.refl _) rfl)
theorem V1.sc {r : V → Hp → VK → Prop} {x z : V} (h : ∀ (H : Hp) (Q : VK), Q z H → r x H Q) (q : k (cst z) O) : V1 O r (cst x) k := fun E G0 H0 G H Q x' f a zz => by
  obtain rfl : x' = x := a
  exact h H Q (zz _ _ _ _ _ q f (Same.refl _) rfl)
theorem Vn.sc1 {r : List V → Hp → VK → Prop} {x z : V} (h : ∀ (H : Hp) (Q : VK), Q z H → r [x] H Q) (q : k (cst z) O) : Vn O r [cst x] k := fun E G0 H0 G H Q xs f a zz => by
  cases a with
  | cons a r' =>
    cases r'
    obtain rfl := (show _ = x from a)
    exact h H Q (zz _ _ _ _ _ q f (Same.refl _) rfl)
theorem Vn.sc2 {r : List V → Hp → VK → Prop} {x y z : V} (h : ∀ (H : Hp) (Q : VK), Q z H → r [x, y] H Q) (q : k (cst z) O) : Vn O r [cst x, cst y] k := fun E G0 H0 G H Q xs f a zz => by
  cases a with
  | cons a r' =>
    cases r' with
    | cons b r' =>
      cases r'
      obtain rfl := (show _ = x from a)
      obtain rfl := (show _ = y from b)
      exact h H Q (zz _ _ _ _ _ q f (Same.refl _) rfl)
theorem Vm.sc0 {r : V → List V → Hp → VK → Prop} {x z : V} (h : ∀ (H : Hp) (Q : VK), Q z H → r x [] H Q) (q : k (cst z) O) : Vm O r (cst x) [] k := fun E G0 H0 G H Q x' xs f a b zz => by
  cases b
  obtain rfl : x' = x := a
  exact h H Q (zz _ _ _ _ _ q f (Same.refl _) rfl)
theorem Vm.sc1 {r : V → List V → Hp → VK → Prop} {x y z : V} (h : ∀ (H : Hp) (Q : VK), Q z H → r x [y] H Q) (q : k (cst z) O) : Vm O r (cst x) [cst y] k := fun E G0 H0 G H Q x' xs f a b zz => by
  cases b with
  | cons b r' =>
    cases r'
    obtain rfl : x' = x := a
    obtain rfl := (show _ = y from b)
    exact h H Q (zz _ _ _ _ _ q f (Same.refl _) rfl)
theorem Vs.sc {r : V → Option Int → Option Int → Hp → VK → Prop} {x z : V} {lo hi : Option Int} (h : ∀ (H : Hp) (Q : VK), Q z H → r x lo hi H Q) (q : k (cst z) O) : Vs O r (cst x) lo hi k := fun E G0 H0 G H Q x' f a zz => by
  obtain rfl : x' = x := a
  exact h H Q (zz _ _ _ _ _ q f (Same.refl _) rfl)
/-! numbers -/
theorem v_add {i j : Int} {g : Int → Int → V} (q : k (cst (g i j)) O) : V2 O (rI0 g) (it i) (it j) k := V2.sc (fun _ _ q => ⟨_, _, rfl, rfl, q⟩) q
theorem v_addI {i j : Int} (q : k (it (i + j)) O) : V2 O rAdd (it i) (it j) k := V2.sc (fun _ _ q => ⟨_, _, rfl, rfl, q⟩) q
theorem v_subI {i j : Int} (q : k (it (i - j)) O) : V2 O rSub (it i) (it j) k := V2.sc (fun _ _ q => ⟨_, _, rfl, rfl, q⟩) q
theorem v_rI {i j : Int} {C : Int → Int → Prop} {g : Int → Int → V} (c : C i j) (q : k (cst (g i j)) O) : V2 O (rI C g) (it i) (it j) k := V2.sc (fun _ _ q => ⟨_, _, rfl, rfl, c, q⟩) q
theorem v_rU {i : Int} {g : Int → V} (q : k (cst (g i)) O) : V1 O (rU g) (it i) k := V1.sc (fun _ _ q => ⟨_, rfl, q⟩) q
theorem v_mod {i j : Int} (h : j ≠ 0) (q : k (it (i.fmod j)) O) : V2 O (rI (fun _ j => j ≠ 0) fun i j => .int (i.fmod j)) (it i) (it j) k := v_rI h q
theorem v_fdiv {i j : Int} (h : j ≠ 0 ∧ j.natAbs < 1073741824) (q : k (it (i.fdiv j)) O) : V2 O (rI CDivN fun i j => .int (i.fdiv j)) (it i) (it j) k := v_rI h q
theorem v_fdivW {i j : Int} (h : 0 < j ∧ j < 1000000000000) (q : k (it (i / j)) O) : V2 O (rI CDivW fun i j => .int (i / j)) (it i) (it j) k := v_rI ⟨h.1, Nat.lt_of_lt_of_le ((Nat.log2_lt (show j.natAbs ≠ 0 by omega)).mpr (Nat.lt_of_lt_of_le (show j.natAbs < 2 ^ 40 by omega) (Nat.pow_le_pow_right (by decide) (show 40 ≤ 9000 by decide)))) (Nat.le_refl _)⟩ q
theorem v_mul {i j : Int} {C : Int → Int → Prop} (h : C i j) (q : k (it (i * j)) O) : V2 O (rI C fun i j => .int (i * j)) (it i) (it j) k := v_rI h q
theorem v_lt {i j : Int} (q : k (bo (decide (i < j))) O) : V2 O (rI0 fun i j => .bl (decide (i < j))) (it i) (it j) k := v_add q
theorem v_le {i j : Int} (q : k (bo (decide (i ≤ j))) O) : V2 O (rI0 fun i j => .bl (decide (i ≤ j))) (it i) (it j) k := v_add q
theorem v_gt {i j : Int} (q : k (bo (decide (j < i))) O) : V2 O (rI0 fun i j => .bl (decide (j < i))) (it i) (it j) k := v_add q
theorem v_ge {i j : Int} (q : k (bo (decide (j ≤ i))) O) : V2 O (rI0 fun i j => .bl (decide (j ≤ i))) (it i) (it j) k := v_add q
/-! equality of plain values -/
theorem v_eqI {i j : Int} (q : k (bo (decide (i = j))) O) : V2 O rEq (it i) (it j) k := V2.sc (z := .bl (decide (i = j))) (fun _ _ q => ⟨rfl, by rw [dI]; exact q⟩) q
theorem v_neI {i j : Int} (q : k (bo (!decide (i = j))) O) : V2 O rNe (it i) (it j) k := V2.sc (z := .bl (!decide (i = j))) (fun _ _ q => ⟨rfl, by rw [dI]; exact q⟩) q
theorem v_eqS {a b : List Nat} (q : k (bo (decide (a = b))) O) : V2 O rEq (tx a) (tx b) k := V2.sc (z := .bl (decide (a = b))) (fun _ _ q => ⟨rfl, by rw [dS]; exact q⟩) q
theorem v_neS {a b : List Nat} (q : k (bo (!decide (a = b))) O) : V2 O rNe (tx a) (tx b) k := V2.sc (z := .bl (!decide (a = b))) (fun _ _ q => ⟨rfl, by rw [dS]; exact q⟩) q
theorem v_eqB {a b : Bool} (q : k (bo (a == b)) O) : V2 O rEq (bo a) (bo b) k := V2.sc (z := .bl (a == b)) (fun _ _ q => ⟨rfl, by rw [dB]; exact q⟩) q
theorem v_neB {a b : Bool} (q : k (bo (!(a == b))) O) : V2 O rNe (bo a) (bo b) k := V2.sc (z := .bl (!(a == b))) (fun _ _ q => ⟨rfl, by rw [dB]; exact q⟩) q
theorem v_isN {x : V} (q : k (bo (decide (x = .non))) O) : V2 O (fun x y H Q => y = V.non ∧ Q (V.bl (decide (x = V.non))) H) (cst x) (cst .non) k := V2.sc (fun _ _ q => ⟨rfl, q⟩) q
theorem v_notN {x : V} (q : k (bo (!decide (x = .non))) O) : V2 O (fun x y H Q => y = V.non ∧ Q (V.bl (!decide (x = V.non))) H) (cst x) (cst .non) k := V2.sc (fun _ _ q => ⟨rfl, q⟩) q
/-! texts -/
theorem v_catS {a b : List Nat} (h : a.length + b.length ≤ 100000) (q : k (tx (a ++ b)) O) : V2 O (fun x y H Q => ∃ i j, x = .str i ∧ y = .str j ∧ i.length + j.length ≤ sizeLine ∧ Q (.str (i ++ j)) H) (tx a) (tx b) k :=
  V2.sc (z := .str (S (a ++ b))) (fun _ _ q => ⟨_, _, rfl, rfl, szadd h, by rw [S_cat]; exact q⟩) q
theorem v_lenS {a : List Nat} (h : a.length ≤ 100000) (q : k (it (a.length : Int)) O) : Vn O (fun xs H Q => ∃ z, xs = [.str z] ∧ z.length ≤ sizeLine ∧ Q (.int z.length) H) [tx a] k :=
  Vn.sc1 (z := .int (a.length : Int)) (fun _ _ q => ⟨_, rfl, szS h, by rw [S_len]; exact q⟩) q
theorem v_inC {c : Nat} {l : List Nat} (q : k (bo (decide (c ∈ l))) O) : V2 O (fun x y H Q => ∃ (c : Nat) (z : Str), x = .str ⟨#[c]⟩ ∧ y = .str z ∧ Q (.bl (decide (c ∈ z.cps.toList))) H) (tx [c]) (tx l) k := V2.sc (fun _ _ q => ⟨_, _, rfl, rfl, q⟩) q
theorem v_niC {c : Nat} {l : List Nat} (q : k (bo (!decide (c ∈ l))) O) : V2 O (fun x y H Q => ∃ (c : Nat) (z : Str), x = .str ⟨#[c]⟩ ∧ y = .str z ∧ Q (.bl (!decide (c ∈ z.cps.toList))) H) (tx [c]) (tx l) k := V2.sc (fun _ _ q => ⟨_, _, rfl, rfl, q⟩) q
theorem v_ixS {a : List Nat} {i : Int} {c : Nat} (h : a.length ≤ 100000) (hc : atI a i = some c) (q : k (tx [c]) O) : V2 O rIxS (tx a) (it i) k := V2.sc (z := .str (S [c])) (fun _ _ q => ⟨_, _, c, rfl, rfl, szS h, hc, q⟩) q
theorem v_slS {a : List Nat} {lo hi : Option Int} (h : a.length ≤ 100000) (q : k (tx (cut a lo hi)) O) : Vs O rSlS (tx a) lo hi k := Vs.sc (z := .str (S (cut a lo hi))) (fun _ _ q => ⟨_, rfl, szS h, by rw [cutS_S]; exact q⟩) q
theorem v_startsw {a b : List Nat} (q : k (bo (b.isPrefixOf a)) O) : Vm O (fun x xs H Q => ∃ a b, x = .str a ∧ xs = [.str b] ∧ Q (.bl (Txt.startswith a b)) H) (tx a) [tx b] k := Vm.sc1 (z := .bl (b.isPrefixOf a)) (fun _ _ q => ⟨_, _, rfl, rfl, by rw [startswith_S]; exact q⟩) q
theorem v_endsw {a b : List Nat} (q : k (bo (b.isSuffixOf a)) O) : Vm O (fun x xs H Q => ∃ a b, x = .str a ∧ xs = [.str b] ∧ Q (.bl (Txt.endswith a b)) H) (tx a) [tx b] k := Vm.sc1 (z := .bl (b.isSuffixOf a)) (fun _ _ q => ⟨_, _, rfl, rfl, by rw [endswith_S]; exact q⟩) q
theorem v_count1 {a : List Nat} {c : Nat} (q : k (it ((parts c a).length - 1 : Int)) O) : Vm O (fun x xs H Q => ∃ a b, x = .str a ∧ xs = [.str b] ∧ Q (.int (Txt.count a b)) H) (tx a) [tx [c]] k := Vm.sc1 (z := .int ((parts c a).length - 1 : Int)) (fun _ _ q => ⟨_, _, rfl, rfl, by rw [count_S]; exact q⟩) q
theorem v_intS {a : List Nat} {n : Int} (h : PySem.intText? (S a) = some n) (hl : a.length ≤ 640) (q : k (it n) O) : Vn O (fun xs H Q => ∃ a n, xs = [.str a] ∧ PySem.intText? a = some n ∧ a.length ≤ 640 ∧ Q (.int n) H) [tx a] k := Vn.sc1 (fun _ _ q => ⟨_, _, rfl, h, by rw [S_len]; exact hl, q⟩) q
theorem v_intI {i : Int} (q : k (it i) O) : Vn O (fun xs H Q => (∃ i, xs = [.int i] ∧ Q (.int i) H) ∨ ∃ k, xs = [.bl k] ∧ Q (.int (if k then 1 else 0)) H) [it i] k := Vn.sc1 (fun _ _ q => .inl ⟨_, rfl, q⟩) q
theorem v_intB {b : Bool} (q : k (it (if b then 1 else 0)) O) : Vn O (fun xs H Q => (∃ i, xs = [.int i] ∧ Q (.int i) H) ∨ ∃ k, xs = [.bl k] ∧ Q (.int (if k then 1 else 0)) H) [bo b] k := Vn.sc1 (fun _ _ q => .inr ⟨_, rfl, q⟩) q
def numS (i : Int) : List Nat := (toString i : Str).cps.toList
theorem v_strI {i : Int} (h : i.natAbs.log2 < 1920) (q : k (tx (numS i)) O) : Vn O (fun xs H Q => ∃ i, xs = [.int i] ∧ i.natAbs.log2 < 1920 ∧ Q (.str (toString i)) H) [it i] k := Vn.sc1 (z := .str (S (numS i))) (fun _ _ q => ⟨_, rfl, h, by
  have e : S (numS i) = (toString i : Str) := by simp [S, numS]
  rw [← e]
  exact q⟩) q
theorem v_max2 {i j : Int} (q : k (it (if j > i then j else i)) O) : Vn O (fun xs H Q => ∃ i j, xs = [.int i, .int j] ∧ Q (.int (if j > i then j else i)) H) [it i, it j] k := Vn.sc2 (fun _ _ q => ⟨_, _, rfl, q⟩) q
theorem v_min2 {i j : Int} (q : k (it (if j < i then j else i)) O) : Vn O (fun xs H Q => ∃ i j, xs = [.int i, .int j] ∧ Q (.int (if j < i then j else i)) H) [it i, it j] k := Vn.sc2 (fun _ _ q => ⟨_, _, rfl, q⟩) q
/-! new lists of texts -/
theorem new_strs {E : List Addr} {G0 H0 G H : Hp} {Q : VK} {ys : List (List Nat)} {zs : List Str} (f : Fr E G0 H0 O G H) (zz : Post E G0 H0 G k Q) (e : zs.map V.str = ys.map vS) (q : k (lst K (ys.map tx)) O) : rNewStrs zs H Q := fun p np => by
  rw [e]
  have ex := Ext.new (o := .lst (ys.map vS)) f.gh np
  exact zz _ _ _ _ _ q (f.ext ex) ex.g ⟨p, _, rfl, upd_same, All2.map.mpr rfl⟩
theorem v_split {a : List Nat} {c : Nat} (hc : c < 256) (h : a.length ≤ 99998) (q : k (lst K ((parts c a).map tx)) O) :
    Vm O (fun x xs H Q => ∃ a b, x = .str a ∧ xs = [.str b] ∧ (b.length == 0) = false ∧ a.length + 2 ≤ sizeLine ∧ rNewStrs (Txt.split a b) H Q) (tx a) [tx [c]] k := fun E G0 H0 G H Q x xs f a' b zz => by
  cases b with
  | cons b r =>
    cases r
    obtain rfl : x = .str (S a) := a'
    obtain rfl := (show _ = V.str (S [c]) from b)
    exact ⟨_, _, rfl, rfl, rfl, by rw [S_len]; exact sz (by omega), new_strs f zz (split_S hc a) q⟩
theorem All2.strs {G : Hp} {ws : List (List Nat)} {vs : List V} (h : All2 G (ws.map tx) vs) : vs = (ws.map S).map V.str := by
  rw [All2.map.mp h, List.map_map]
  rfl
theorem v_join {a : List Nat} {ws : List (List Nat)} (h : (ws.map (·.length)).sum + ws.length * a.length ≤ 1000000) (q : k (tx (TL.joinL a ws)) O) : Vm O (rJoinQ K) (tx a) [lst K (ws.map tx)] k := fun E G0 H0 G H Q x xs f a' b zz => by
  cases b with
  | cons b r =>
    cases r
    obtain rfl : x = .str (S a) := a'
    obtain ⟨p, vs, rfl, h1, h2⟩ := b
    have e := h2.strs
    subst e
    refine ⟨S a, p, ws.map S, rfl, rfl, .inl (SqL.of (f.gh _ _ h1)), ?_, by rw [join_S]; exact zz _ _ _ _ _ q f (Same.refl _) rfl⟩
    rw [List.map_map, List.length_map, S_len, show ((fun x : Str => x.length) ∘ S : List Nat → Nat) = (·.length) from funext S_len]
    omega
/-! lists and tuples -/
theorem v_lenL {xs : List As} (q : k (it (xs.length : Int)) O) : Vn O (rLenQ K) [lst K xs] k := fun E G0 H0 G H Q vs f a zz => by
  cases a with
  | cons a r =>
    cases r
    obtain ⟨p, ws, rfl, h1, h2⟩ := a
    exact ⟨p, ws, rfl, .inl (SqL.of (f.gh _ _ h1)), by rw [h2.len]; exact zz _ _ _ _ _ q f (Same.refl _) rfl⟩
theorem v_lenT {xs : List As} (q : k (it (xs.length : Int)) O) : Vn O (rLenQ K) [tup K xs] k := fun E G0 H0 G H Q vs f a zz => by
  cases a with
  | cons a r =>
    cases r
    obtain ⟨p, ws, rfl, h1, h2⟩ := a
    exact ⟨p, ws, rfl, .inr (SqT.mono f.gh h1), by rw [h2.len]; exact zz _ _ _ _ _ q f (Same.refl _) rfl⟩
theorem ixN_lt {n : Nat} {i : Int} {j : Nat} (h : ixN n i = some j) : j < n := (ixN_seq h).2.1
theorem at2 {G : Hp} {l : List As} {vs : List V} {i : Int} {A : As} (h : All2 G l vs) (e : atI l i = some A) : ∃ v, atI vs i = some v ∧ A.p G v := by
  unfold atI at e ⊢
  rw [h.len]
  cases hj : ixN l.length i with
  | none => rw [hj] at e; cases e
  | some j =>
    rw [hj] at e
    exact h.at (i := j) e
theorem v_ixL {xs : List As} {i : Int} {A : As} (h : atI xs i = some A) (q : k A O) : V2 O (rIxL K) (lst K xs) (it i) k := fun E G0 H0 G H Q x y f a b zz => by
  obtain ⟨p, ws, rfl, h1, h2⟩ := a
  obtain ⟨v, e, av⟩ := at2 h2 h
  exact ⟨p, ws, i, v, rfl, b, SqL.of (f.gh _ _ h1), e, zz _ _ _ _ _ q f (Same.refl _) av⟩
theorem v_ixT {xs : List As} {i : Int} {A : As} (h : atI xs i = some A) (q : k A O) : V2 O (rIxT K) (tup K xs) (it i) k := fun E G0 H0 G H Q x y f a b zz => by
  obtain ⟨p, ws, rfl, h1, h2⟩ := a
  obtain ⟨v, e, av⟩ := at2 h2 h
  exact ⟨p, ws, i, v, rfl, b, SqT.mono f.gh h1, e, zz _ _ _ _ _ q f (Same.refl _) av⟩
theorem All2.cut {G : Hp} {l : List As} {vs : List V} (h : All2 G l vs) (lo hi : Option Int) : All2 G (Cj.cut l lo hi) (cutV vs lo hi) := by
  unfold Cj.cut cutV
  rw [h.len]
  exact (h.drop _).take _
theorem v_slL {xs : List As} {lo hi : Option Int} (q : k (lst K (cut xs lo hi)) O) : Vs O (rSlL K) (lst K xs) lo hi k := fun E G0 H0 G H Q x f a zz => by
  obtain ⟨p, ws, rfl, h1, h2⟩ := a
  refine ⟨p, ws, rfl, SqL.of (f.gh _ _ h1), fun D nD => ?_⟩
  have ex := Ext.new (o := .lst (cutV ws lo hi)) f.gh nD
  exact zz _ _ _ _ _ q (f.ext ex) ex.g ⟨D, _, rfl, upd_same, (h2.cut lo hi).m ex.g⟩
theorem map_cst {α β : Type} {f : α → β} {g : β → V} (l : List α) : l.map (fun x => cst (g (f x))) = (l.map f).map fun y => cst (g y) := by rw [List.map_map]; rfl
theorem v_sum0 {ns : List Int} (q : k (it ns.sum) O) : Vn O (rSum K) [lst K (ns.map it)] k := fun E G0 H0 G H Q vs f a zz => by
  cases a with
  | cons a r =>
    cases r
    obtain ⟨p, ws, rfl, h1, h2⟩ := a
    obtain rfl := All2.map.mp h2
    exact ⟨p, ns, rfl, SqL.of (f.gh _ _ h1), zz _ _ _ _ _ q f (Same.refl _) rfl⟩
theorem v_sum {α : Type} {l : List α} {f : α → Int} (q : k (it (l.map f).sum) O) : Vn O (rSum K) [lst K (l.map fun x => it (f x))] k := by rw [map_cst (g := V.int)]; exact v_sum0 q
theorem v_all0 {bs : List Bool} (q : k (bo (bs.all id)) O) : Vn O (rAll K) [lst K (bs.map bo)] k := fun E G0 H0 G H Q vs f a zz => by
  cases a with
  | cons a r =>
    cases r
    obtain ⟨p, ws, rfl, h1, h2⟩ := a
    obtain rfl := All2.map.mp h2
    exact ⟨p, bs, rfl, SqL.of (f.gh _ _ h1), zz _ _ _ _ _ q f (Same.refl _) rfl⟩
theorem v_any0 {bs : List Bool} (q : k (bo (bs.any id)) O) : Vn O (rAny K) [lst K (bs.map bo)] k := fun E G0 H0 G H Q vs f a zz => by
  cases a with
  | cons a r =>
    cases r
    obtain ⟨p, ws, rfl, h1, h2⟩ := a
    obtain rfl := All2.map.mp h2
    exact ⟨p, bs, rfl, SqL.of (f.gh _ _ h1), zz _ _ _ _ _ q f (Same.refl _) rfl⟩
theorem v_all {α : Type} {l : List α} {f : α → Bool} (q : k (bo (l.all f)) O) : Vn O (rAll K) [lst K (l.map fun x => bo (f x))] k := by
  rw [map_cst (g := V.bl)]
  refine v_all0 ?_
  rw [List.all_map]
  exact q
theorem v_any {α : Type} {l : List α} {f : α → Bool} (q : k (bo (l.any f)) O) : Vn O (rAny K) [lst K (l.map fun x => bo (f x))] k := by
  rw [map_cst (g := V.bl)]
  refine v_any0 ?_
  rw [List.any_map]
  exact q
theorem v_joinF {α : Type} {l : List α} {f : α → List Nat} {a : List Nat} (h : ((l.map f).map (·.length)).sum + l.length * a.length ≤ 1000000) (q : k (tx (TL.joinL a (l.map f))) O) : Vm O (rJoinQ K) (tx a) [lst K (l.map fun x => tx (f x))] k := by
  rw [map_cst (g := fun z => V.str (S z))]
  exact v_join (by rw [List.length_map]; exact h) q
theorem v_joinE {α : Type} {l : List α} {f : α → List Nat} (h : ((l.map f).map (·.length)).sum ≤ 1000000) (q : k (tx (l.map f).flatten) O) : Vm O (rJoinQ K) (tx []) [lst K (l.map fun x => tx (f x))] k := by
  refine v_joinF (by rw [List.length_nil, Nat.mul_zero]; exact h) ?_
  have e : ∀ ws : List (List Nat), TL.joinL [] ws = ws.flatten := fun ws => by
    induction ws with
    | nil => rfl
    | cons w r ih =>
      cases r with
      | nil => simp [TL.joinL]
      | cons v r => simp [TL.joinL] at ih ⊢; exact ih
  rw [e]
  exact q
/-! truth -/
theorem tru_b {b : Bool} : TruA K (bo b) O b := fun _ _ _ _ _ x _ a => by rw [show x = _ from a]; rfl
theorem tru_i {i : Int} : TruA K (it i) O (i != 0) := fun _ _ _ _ _ x _ a => by rw [show x = _ from a]; rfl
theorem tru_n : TruA K no O false := fun _ _ _ _ _ x _ a => by rw [show x = _ from a]; rfl
theorem tru_s {l : List Nat} (h : l.length ≤ 100000) : TruA K (tx l) O (!l.isEmpty) := fun _ _ _ _ _ x _ a => by
  rw [show x = _ from a]
  refine ⟨szS h, ?_⟩
  rw [S_len]
  cases l <;> rfl
theorem tru_l {xs : List As} : TruA K (lst K xs) O (!xs.isEmpty) := fun _ _ _ _ _ x f a => by
  obtain ⟨p, ws, rfl, h1, h2⟩ := a
  refine .inl ⟨ws, SqL.of (f.gh _ _ h1), ?_⟩
  cases h2 <;> rfl
theorem tru_t {xs : List As} : TruA K (tup K xs) O (!xs.isEmpty) := fun _ _ _ _ _ x f a => by
  obtain ⟨p, ws, rfl, h1, h2⟩ := a
  refine .inr (.inl ⟨ws, SqT.mono f.gh h1, ?_⟩)
  cases h2 <;> rfl
theorem ty_s {l : List Nat} : TyA K "str" (tx l) O := fun _ _ _ _ _ x _ a => by rw [show x = _ from a]; rfl
theorem ty_l {xs : List As} : TyA K "list" (lst K xs) O := fun _ _ _ _ _ x f a => by
  obtain ⟨p, ws, rfl, h1, h2⟩ := a
  exact .inl ⟨rfl, ws, SqL.of (f.gh _ _ h1)⟩
end
end Sy
namespace Sy
open PySem PySem.Spec PyProof.Rows L2
section
variable {K : PySem.W.Frag} {L : LL} {O : OO} {k : As → OO → Prop}
theorem All2.csts {G : Hp} : ∀ vs : List V, All2 G (vs.map cst) vs
  | [] => .nil
  | _ :: r => .cons rfl (All2.csts r)
/-- a written text -/
theorem Go.cS {z : Str} {l : List Nat} (h : z = SX.S l) (q : k (tx l) O) : Go L O (tC (.str z)) k := by rw [h]; exact Go.c q
/-- a written tuple -/
theorem Go.cW {a : Addr} {vs : List V} (h : ∀ H, SqT K H a vs) (q : k (Sy.tup K (vs.map cst)) O) : Go L O (tC (.ref a)) k := fun E G0 H0 σ G H Q f s z => z _ _ _ _ _ q f (Same.refl _) ⟨a, vs, rfl, h _, All2.csts vs⟩
end
end Sy

/-! ### rules for the stepping -/
namespace Sy
open PySem PySem.Spec PyProof.Rows L2
open SX (S S_len S_cat S_inj)
section
variable {K : PySem.W.Frag} {L : LL} {O : OO} {k : As → OO → Prop} {ta tb tc te : TE} {t : TA} {kb : Bool → OO → Prop} {tt uu : TT}
theorem fin_P {α : Type} {r : α → As} {a : α} {A : As} (h : A = r a) : (eR fun A O' => A = r a ∧ O' = []).rt A [] := ⟨h, rfl⟩
theorem Go.callP2 {α β : Type} {pre : α × β → Prop} {as : α × β → List As} {r : α × β → As} {X : XK}
    (h : GoA L O t fun l O1 => ∃ a b, l = as (a, b) ∧ pre (a, b) ∧ k (r (a, b)) O1) : Go L O (tCall (SpP pre as r) [] X t) k := Go.callP fun E G0 H0 σ G H Q f s z => h _ _ _ _ _ _ _ f s fun l O' G' H' vs q => z _ _ _ _ _ (by
    obtain ⟨a, b, h1, h2, h3⟩ := q
    exact ⟨(a, b), h1, h2, h3⟩)
theorem Go.callP3 {α β γ : Type} {pre : α × β × γ → Prop} {as : α × β × γ → List As} {r : α × β × γ → As} {X : XK}
    (h : GoA L O t fun l O1 => ∃ a b c, l = as (a, b, c) ∧ pre (a, b, c) ∧ k (r (a, b, c)) O1) : Go L O (tCall (SpP pre as r) [] X t) k := Go.callP fun E G0 H0 σ G H Q f s z => h _ _ _ _ _ _ _ f s fun l O' G' H' vs q => z _ _ _ _ _ (by
    obtain ⟨a, b, c, h1, h2, h3⟩ := q
    exact ⟨(a, b, c), h1, h2, h3⟩)
theorem Go.callP0 {pre : Unit → Prop} {as : Unit → List As} {r : Unit → As} {X : XK}
    (h : GoA L O t fun l O1 => l = as () ∧ pre () ∧ k (r ()) O1) : Go L O (tCall (SpP pre as r) [] X t) k := Go.callP fun E G0 H0 σ G H Q f s z => h _ _ _ _ _ _ _ f s fun l O' G' H' vs q => z _ _ _ _ _ ⟨(), q.1, q.2.1, q.2.2⟩
/-- pure tests, not split -/
theorem GoT.andJ {p q : Bool} (h1 : GoT L O tt fun b O1 => b = p ∧ O1 = O) (h2 : p = true → GoT L O uu fun b O1 => b = q ∧ O1 = O) (h : kb (p && q) O) : GoT L O (tAnd tt uu) kb := GoT.and (h1.imp fun b O1 e => by
  obtain ⟨rfl, rfl⟩ := e
  refine ⟨fun hb => (h2 hb).imp fun b' O2 e2 => ?_, fun hb => ?_⟩
  · obtain ⟨rfl, rfl⟩ := e2
    rw [hb, Bool.true_and] at h
    exact h
  · rw [hb, Bool.false_and] at h
    exact h)
theorem GoT.orJ {p q : Bool} (h1 : GoT L O tt fun b O1 => b = p ∧ O1 = O) (h2 : p = false → GoT L O uu fun b O1 => b = q ∧ O1 = O) (h : kb (p || q) O) : GoT L O (tOr tt uu) kb := GoT.or (h1.imp fun b O1 e => by
  obtain ⟨rfl, rfl⟩ := e
  refine ⟨fun hb => ?_, fun hb => (h2 hb).imp fun b' O2 e2 => ?_⟩
  · rw [hb, Bool.true_or] at h
    exact h
  · obtain ⟨rfl, rfl⟩ := e2
    rw [hb, Bool.false_or] at h
    exact h)
theorem Go.andVJ {p q : Bool} (h1 : Go L O ta fun A O1 => A = bo p ∧ O1 = O) (h2 : p = true → Go L O tb fun A O1 => A = bo q ∧ O1 = O) (h : k (bo (p && q)) O) : Go L O (tAndV ta tb) k := Go.andV (h1.imp fun b O1 e => by
  obtain ⟨rfl, rfl⟩ := e
  refine ⟨p, rfl, fun hb => (h2 hb).imp fun b' O2 e2 => ?_, fun hb => ?_⟩
  · obtain ⟨rfl, rfl⟩ := e2
    rw [hb, Bool.true_and] at h
    exact h
  · rw [hb, Bool.false_and] at h
    exact h)
theorem Go.orVJ {p q : Bool} (h1 : Go L O ta fun A O1 => A = bo p ∧ O1 = O) (h2 : p = false → Go L O tb fun A O1 => A = bo q ∧ O1 = O) (h : k (bo (p || q)) O) : Go L O (tOrV ta tb) k := Go.orV (h1.imp fun b O1 e => by
  obtain ⟨rfl, rfl⟩ := e
  refine ⟨p, rfl, fun hb => ?_, fun hb => (h2 hb).imp fun b' O2 e2 => ?_⟩
  · rw [hb, Bool.true_or] at h
    exact h
  · obtain ⟨rfl, rfl⟩ := e2
    rw [hb, Bool.false_or] at h
    exact h)
theorem Go.chainJ {r r' : R2} {p q : Bool} {B : As} (h : Go L O ta fun A O1 => Go L O1 tb fun B' O2 => V2 O2 r A B' fun C O3 => C = bo p ∧ O3 = O ∧ B' = B) (h2 : p = true → Go L O tc fun D O4 => V2 O4 r' B D fun C O5 => C = bo q ∧ O5 = O) (hk : k (bo (p && q)) O) : Go L O (tChain r r' ta tb tc) k :=
  Go.chain fun E G0 H0 σ G H Q f s z => h _ _ _ _ _ _ _ f s fun A O1 G1 H1 x hx f1 s1 a => z _ _ _ _ _ (fun E G0 H0 σ G H Q f s z => hx _ _ _ _ _ _ _ f s fun B' O2 G2 H2 y hy f2 s2 b => z _ _ _ _ _ (fun E G0 H0 G H Q x y f a b z => hy _ _ _ _ _ _ _ _ f a b fun C O3 G3 H3 v hv f3 s3 c => z _ _ _ _ _ (by
    obtain ⟨rfl, rfl, rfl⟩ := hv
    refine ⟨p, rfl, fun hb => (h2 hb).imp fun D O4 hD => fun E G0 H0 G H Q x y f a b z => hD _ _ _ _ _ _ _ _ f a b fun C O5 G5 H5 v hv f5 s5 c => z _ _ _ _ _ (by
      obtain ⟨rfl, rfl⟩ := hv
      rw [hb, Bool.true_and] at hk
      exact hk) f5 s5 c, fun hb => ?_⟩
    rw [hb, Bool.false_and] at hk
    exact hk) f3 s3 c) f2 s2 b) f1 s1 a
/-- by a test of two known ways -/
theorem Go.iteA {α : Type} {p : Bool} (A : α → As) {x y : α} (h : GoT L O tt fun b O1 => b = p ∧ O1 = O) (h1 : p = true → Go L O ta fun A' O1 => A' = A x ∧ O1 = O) (h2 : p = false → Go L O tb fun A' O1 => A' = A y ∧ O1 = O) (q : k (A (if p = true then x else y)) O) : Go L O (tIf tt ta tb) k := Go.ite (h.imp fun b O1 e => by
  obtain ⟨rfl, rfl⟩ := e
  refine ⟨fun hb => (h1 hb).imp fun b' O2 e2 => ?_, fun hb => (h2 hb).imp fun b' O2 e2 => ?_⟩
  · obtain ⟨rfl, rfl⟩ := e2
    rw [if_pos hb] at q
    exact q
  · obtain ⟨rfl, rfl⟩ := e2
    rw [if_neg (by rw [hb]; exact Bool.false_ne_true)] at q
    exact q)
/-- comprehensions whose items are told by functions -/
theorem GoG.imp {L : LL} {A : As} {g : TG} {k k' : LL → Prop} (h : GoG L A g k') (i : ∀ L', k' L' → k L') : GoG L A g k := fun σ G H Q x e s a z => h _ _ _ _ _ e s a fun L' σ' q' => z _ _ (i _ q')
abbrev HG (g : TG) (vs : List Nat) : Prop := ∀ (x : V) (σ : L2.St) (H : Hp) (Q : L2.St → Hp → Prop), g x (wipe σ vs) H (fun σ2 H2 => wipe σ2 vs = wipe σ vs → Q σ2 H2) → g x (wipe σ vs) H (fun σ2 H2 => wipe σ2 vs = wipe σ vs ∧ Q σ2 H2)
theorem Go.lcM {α : Type} {O9 : OO} {wi : TI} {g : TG} {vs : List Nat} {l : List α} {f B : α → As} (hg : HG g vs) (h : GoI L O wi fun xs O1 => O1 = O9 ∧ xs = l.map f)
    (he : ∀ x ∈ l, ∀ T, GoG (wipeL L vs) (f x) g fun L2 => Go L2 (O9 ++ T) te fun B' O3 => B' = B x ∧ O3 = O9 ++ T) (hl : l.length ≤ 100000) (q : k (Sy.lst K (l.map B)) O9) : Go L O (tLc wi g tYes te vs) k := by
  refine Go.lc (K := K) hg fun E G0 H0 σ G H R fr s z => h _ _ _ _ _ _ _ fr s fun xs O1 G1 H1 J e => z _ _ _ _ _ ?_
  obtain ⟨rfl, rfl⟩ := e
  refine ⟨fun i acc O' => O' = O1 ∧ acc = (l.take i).map B, ⟨rfl, rfl⟩, fun i A acc O' T hA e => ?_, fun acc O' e => ?_⟩
  · obtain ⟨rfl, rfl⟩ := e
    rw [List.getElem?_map] at hA
    cases hx : l[i]? with
    | none => rw [hx] at hA; cases hA
    | some x =>
      rw [hx] at hA
      obtain rfl := Option.some.inj hA
      have hi : i < l.length := (List.getElem?_eq_some_iff.mp hx).1
      refine (he x (List.mem_of_getElem? hx) T).imp fun L2 h2 => GoT.yes (ifT rfl (h2.imp fun B' O3 e => ?_))
      obtain ⟨rfl, rfl⟩ := e
      refine ⟨O', rfl, ?_, rfl, ?_⟩
      · rw [List.length_map, List.length_take]; omega
      · rw [List.take_add_one, hx, List.map_append]; rfl
  · obtain ⟨rfl, rfl⟩ := e
    rw [List.length_map, List.take_length]
    exact q
theorem Go.lcF {α : Type} {O9 : OO} {wi : TI} {g : TG} {vs : List Nat} {l : List α} {f B : α → As} {p : α → Bool} (hg : HG g vs) (h : GoI L O wi fun xs O1 => O1 = O9 ∧ xs = l.map f)
    (he : ∀ x ∈ l, ∀ T, GoG (wipeL L vs) (f x) g fun L2 => (GoT L2 (O9 ++ T) tt fun b O3 => b = p x ∧ O3 = O9 ++ T) ∧ (p x = true → Go L2 (O9 ++ T) te fun B' O3 => B' = B x ∧ O3 = O9 ++ T)) (hl : l.length ≤ 100000) (q : k (Sy.lst K ((l.filter p).map B)) O9) : Go L O (tLc wi g tt te vs) k := by
  refine Go.lc (K := K) hg fun E G0 H0 σ G H R fr s z => h _ _ _ _ _ _ _ fr s fun xs O1 G1 H1 J e => z _ _ _ _ _ ?_
  obtain ⟨rfl, rfl⟩ := e
  refine ⟨fun i acc O' => O' = O1 ∧ acc = ((l.take i).filter p).map B, ⟨rfl, rfl⟩, fun i A acc O' T hA e => ?_, fun acc O' e => ?_⟩
  · obtain ⟨rfl, rfl⟩ := e
    rw [List.getElem?_map] at hA
    cases hx : l[i]? with
    | none => rw [hx] at hA; cases hA
    | some x =>
      rw [hx] at hA
      obtain rfl := Option.some.inj hA
      have hi : i < l.length := (List.getElem?_eq_some_iff.mp hx).1
      have hm := List.mem_of_getElem? hx
      refine (he x hm T).imp fun L2 h2 => h2.1.imp fun b O3 e => ?_
      obtain ⟨rfl, rfl⟩ := e
      cases hp : p x with
      | true =>
        refine ifT rfl ((h2.2 hp).imp fun B' O3 e => ?_)
        obtain ⟨rfl, rfl⟩ := e
        refine ⟨O', rfl, ?_, rfl, ?_⟩
        · have := List.length_filter_le p (l.take i)
          rw [List.length_map]; rw [List.length_take] at this; omega
        · rw [List.take_add_one, hx, List.filter_append, List.map_append]
          simp [hp]
      | false =>
        rw [if_neg Bool.false_ne_true]
        refine ⟨O', rfl, rfl, ?_⟩
        rw [List.take_add_one, hx, List.filter_append, List.map_append]
        simp [hp]
  · obtain ⟨rfl, rfl⟩ := e
    rw [List.length_map, List.take_length]
    exact q
theorem hg2 {a b : Nat} (hab : a ≠ b) (x : V) (σ : L2.St) (H : Hp) (Q : L2.St → Hp → Prop) : gTup K 2 (gCons (gName a) (gCons (gName b) gNil)) x (wipe σ [a, b]) H (fun σ2 H2 => wipe σ2 [a, b] = wipe σ [a, b] → Q σ2 H2) →
    gTup K 2 (gCons (gName a) (gCons (gName b) gNil)) x (wipe σ [a, b]) H (fun σ2 H2 => wipe σ2 [a, b] = wipe σ [a, b] ∧ Q σ2 H2) := fun q => by
  obtain ⟨p, xs, h1, h2, h3, v, r, h4, w, r', h5, h6, q⟩ := q
  have e : wipe (((wipe σ [a, b]).set a (some v)).set b (some w)) [a, b] = wipe σ [a, b] := by
    refine List.ext_getElem? fun i => ?_
    simp only [wipe, List.getElem?_set, List.length_set]
    by_cases ha : a = i <;> by_cases hb : b = i <;> simp [ha, hb]
  exact ⟨p, xs, h1, h2, h3, v, r, h4, w, r', h5, h6, e, q e⟩
/-- less is known of the slots -/
theorem Slots.forget {G : Hp} : ∀ {L : LL} {σ : L2.St} (i : Nat), Slots G L σ → Slots G (delL L i) σ
  | _, _, _, .nil => .nil
  | _, _, 0, .un t => .un t
  | _, _, 0, .im _ t => .un t
  | _, _, i + 1, .un t => .un (Slots.forget i t)
  | _, _, i + 1, .im q t => .im q (Slots.forget i t)
theorem Slots.forgets {G : Hp} {L : LL} {σ : L2.St} (h : Slots G L σ) : ∀ vs : List Nat, Slots G (wipeL L vs) σ
  | [] => h
  | v :: vs => (Slots.forgets h vs).forget v
theorem GoS.weak {t : TS} {k : Es} (vs : List Nat) {L' : LL} (e : wipeL L vs = L') (h : GoS L' O t k) : GoS L O t k := fun E G0 H0 σ G H D f s e' => h _ _ _ _ _ _ _ f (e ▸ s.forgets vs) e'
/-- for, its slots by a state s; vs: what the body uses besides -/
theorem GoS.forS {τ : Type} {wi : TI} {g : TG} {tb : TS} {k : Es} (Ls : τ → LL) (vs : List Nat) (P : Nat → τ → OO → Prop) {n : Nat}
    (h : GoI L O wi fun xs O1 => xs.length = n ∧ (∃ s, wipeL L vs = Ls s ∧ P 0 s O1) ∧
      (∀ i A s O', xs[i]? = some A → P i s O' → GoG (Ls s) A g fun L2 => GoS L2 O' tb { k with nx := fun L' O'' => ∃ s', wipeL L' vs = Ls s' ∧ P (i + 1) s' O'', ct := fun L' O'' => ∃ s', wipeL L' vs = Ls s' ∧ P (i + 1) s' O'', bk := k.nx }) ∧
      (∀ s O', P n s O' → k.nx (Ls s) O')) (hk : ∀ L' O', k.nx (wipeL L' vs) O' → k.nx L' O') : GoS L O (tFor wi g tb) k := GoS.for fun E G0 H0 σ G H R fr s z => h _ _ _ _ _ _ _ fr s fun xs O1 G1 H1 J e => z _ _ _ _ _ (by
    obtain ⟨rfl, ⟨s0, e0, p0⟩, h1, h2⟩ := e
    refine ⟨fun i L' O' => ∃ s, wipeL L' vs = Ls s ∧ P i s O', ⟨s0, e0, p0⟩, fun i A L' O' hA ⟨s, es, p⟩ => ?_, fun L' O' ⟨s, es, p⟩ => hk _ _ (by rw [es]; exact h2 s O' p)⟩
    refine fun σ G H Q x sm sl a z => h1 i A s O' hA p _ _ _ _ _ sm (es ▸ sl.forgets vs) a z)
theorem Go.lcM1 {α : Type} {O9 : OO} {wi : TI} {nm : Str} {j : Nat} {l : List α} {f B : α → As} (h : GoI L O wi fun xs O1 => O1 = O9 ∧ xs = l.map f)
    (he : ∀ x ∈ l, ∀ T, Go (setL (wipeL L [j]) j (f x)) (O9 ++ T) te fun B' O3 => B' = B x ∧ O3 = O9 ++ T) (hl : l.length ≤ 100000) (q : k (Sy.lst K (l.map B)) O9) : Go L O (tLc wi (gName j) tYes te (List.map (fun x => x.snd) [(nm, j)])) k :=
  Go.lcM (vs := [j]) hg1 h (fun x hx T => GoG.name (he x hx T)) hl q
theorem Go.lcF1 {α : Type} {O9 : OO} {wi : TI} {nm : Str} {j : Nat} {l : List α} {f B : α → As} {p : α → Bool} (h : GoI L O wi fun xs O1 => O1 = O9 ∧ xs = l.map f)
    (he : ∀ x ∈ l, ∀ T, GoT (setL (wipeL L [j]) j (f x)) (O9 ++ T) tt fun b O3 => b = p x ∧ O3 = O9 ++ T)
    (hb : ∀ x ∈ l, p x = true → ∀ T, Go (setL (wipeL L [j]) j (f x)) (O9 ++ T) te fun B' O3 => B' = B x ∧ O3 = O9 ++ T) (hl : l.length ≤ 100000) (q : k (Sy.lst K ((l.filter p).map B)) O9) : Go L O (tLc wi (gName j) tt te (List.map (fun x => x.snd) [(nm, j)])) k :=
  Go.lcF (vs := [j]) hg1 h (fun x hx T => GoG.name ⟨he x hx T, fun hp => hb x hx hp T⟩) hl q
theorem Go.lcM2 {α : Type} {O9 : OO} {wi : TI} {nm nm2 : Str} {i j : Nat} {l : List α} {f g B : α → As} (hij : i ≠ j) (h : GoI L O wi fun xs O1 => O1 = O9 ∧ xs = l.map fun x => Sy.tup K [f x, g x])
    (he : ∀ x ∈ l, ∀ T, Go (setL (setL (wipeL L [i, j]) i (f x)) j (g x)) (O9 ++ T) te fun B' O3 => B' = B x ∧ O3 = O9 ++ T) (hl : l.length ≤ 100000) (q : k (Sy.lst K (l.map B)) O9) : Go L O (tLc wi (gTup K 2 (gCons (gName i) (gCons (gName j) gNil))) tYes te (List.map (fun x => x.snd) [(nm, i), (nm2, j)])) k :=
  Go.lcM (K := K) (vs := [i, j]) (hg2 hij) h (fun x hx T => GoG.tup rfl (GoGs.cons (GoG.name (GoGs.cons (GoG.name (GoGs.nil (he x hx T))))))) hl q
theorem Go.lcF2 {α : Type} {O9 : OO} {wi : TI} {nm nm2 : Str} {i j : Nat} {l : List α} {f g B : α → As} {p : α → Bool} (hij : i ≠ j) (h : GoI L O wi fun xs O1 => O1 = O9 ∧ xs = l.map fun x => Sy.tup K [f x, g x])
    (he : ∀ x ∈ l, ∀ T, GoT (setL (setL (wipeL L [i, j]) i (f x)) j (g x)) (O9 ++ T) tt fun b O3 => b = p x ∧ O3 = O9 ++ T)
    (hb : ∀ x ∈ l, p x = true → ∀ T, Go (setL (setL (wipeL L [i, j]) i (f x)) j (g x)) (O9 ++ T) te fun B' O3 => B' = B x ∧ O3 = O9 ++ T) (hl : l.length ≤ 100000) (q : k (Sy.lst K ((l.filter p).map B)) O9) :
    Go L O (tLc wi (gTup K 2 (gCons (gName i) (gCons (gName j) gNil))) tt te (List.map (fun x => x.snd) [(nm, i), (nm2, j)])) k :=
  Go.lcF (K := K) (vs := [i, j]) (hg2 hij) h (fun x hx T => GoG.tup rfl (GoGs.cons (GoG.name (GoGs.cons (GoG.name (GoGs.nil ⟨he x hx T, fun hp => hb x hx hp T⟩)))))) hl q
/-! membership in plain lists and tuples -/
theorem inV_it (n : Int) : ∀ ns : List Int, inV (.int n) (ns.map V.int) = decide (n ∈ ns)
  | [] => rfl
  | x :: r => by
    have e : inV (.int n) ((x :: r).map V.int) = ((x == n) || inV (.int n) (r.map V.int)) := rfl
    rw [e, inV_it n r]
    apply Bool.eq_iff_iff.mpr
    rw [Bool.or_eq_true, decide_eq_true_eq, decide_eq_true_eq, List.mem_cons, beq_iff_eq, eq_comm]
theorem inV_tx (n : List Nat) : ∀ ns : List (List Nat), inV (.str (S n)) (ns.map fun z => V.str (S z)) = decide (n ∈ ns)
  | [] => rfl
  | x :: r => by
    have e : inV (.str (S n)) ((x :: r).map fun z => V.str (S z)) = ((S x == S n) || inV (.str (S n)) (r.map fun z => V.str (S z))) := rfl
    rw [e, inV_tx n r, SX.S_beq_eq]
    apply Bool.eq_iff_iff.mpr
    rw [Bool.or_eq_true, decide_eq_true_eq, decide_eq_true_eq, decide_eq_true_eq, List.mem_cons, eq_comm]
theorem flat_map {α : Type} {f : α → V} (h : ∀ a, flatV (f a) = true) (l : List α) : (l.map f).all flatV = true := by
  rw [List.all_map]
  exact List.all_eq_true.mpr fun a _ => h a
theorem v_inG {A : As} {x : V} {xs : List V} {neg b : Bool} {l : List As} (hl : ∀ G vs, All2 G l vs → vs = xs) (hA : A = lst K l ∨ A = tup K l) (fx : flatV x = true) (fs : xs.all flatV = true) (e : inV x xs = b) (q : k (bo (if neg = true then !b else b)) O) : V2 O (rIn K neg) (cst x) A k := fun E G0 H0 G H Q x' y f a c zz => by
  obtain rfl : x' = x := a
  rcases hA with rfl | rfl
  · obtain ⟨p, ws, rfl, h1, h2⟩ := c
    obtain rfl := hl _ _ h2
    exact ⟨p, ws, rfl, .inl (SqL.of (f.gh _ _ h1)), fx, fs, by rw [e]; exact zz _ _ _ _ _ q f (Same.refl _) rfl⟩
  · obtain ⟨p, ws, rfl, h1, h2⟩ := c
    obtain rfl := hl _ _ h2
    exact ⟨p, ws, rfl, .inr (SqT.mono f.gh h1), fx, fs, by rw [e]; exact zz _ _ _ _ _ q f (Same.refl _) rfl⟩
theorem v_inTI {n : Int} {ns : List (Int)} (q : k (bo (decide (n ∈ ns))) O) : V2 O (rIn K false) (it n) (tup K (ns.map it)) k := v_inG (fun G vs h => All2.map.mp h) (.inr rfl) rfl (flat_map (fun _ => rfl) _) (inV_it n ns) q
theorem v_niTI {n : Int} {ns : List (Int)} (q : k (bo (!decide (n ∈ ns))) O) : V2 O (rIn K true) (it n) (tup K (ns.map it)) k := v_inG (fun G vs h => All2.map.mp h) (.inr rfl) rfl (flat_map (fun _ => rfl) _) (inV_it n ns) q
theorem v_inLI {n : Int} {ns : List (Int)} (q : k (bo (decide (n ∈ ns))) O) : V2 O (rIn K false) (it n) (lst K (ns.map it)) k := v_inG (fun G vs h => All2.map.mp h) (.inl rfl) rfl (flat_map (fun _ => rfl) _) (inV_it n ns) q
theorem v_niLI {n : Int} {ns : List (Int)} (q : k (bo (!decide (n ∈ ns))) O) : V2 O (rIn K true) (it n) (lst K (ns.map it)) k := v_inG (fun G vs h => All2.map.mp h) (.inl rfl) rfl (flat_map (fun _ => rfl) _) (inV_it n ns) q
theorem v_inTS {n : List Nat} {ns : List (List Nat)} (q : k (bo (decide (n ∈ ns))) O) : V2 O (rIn K false) (tx n) (tup K (ns.map tx)) k := v_inG (fun G vs h => All2.map.mp h) (.inr rfl) rfl (flat_map (fun _ => rfl) _) (inV_tx n ns) q
theorem v_niTS {n : List Nat} {ns : List (List Nat)} (q : k (bo (!decide (n ∈ ns))) O) : V2 O (rIn K true) (tx n) (tup K (ns.map tx)) k := v_inG (fun G vs h => All2.map.mp h) (.inr rfl) rfl (flat_map (fun _ => rfl) _) (inV_tx n ns) q
theorem v_inLS {n : List Nat} {ns : List (List Nat)} (q : k (bo (decide (n ∈ ns))) O) : V2 O (rIn K false) (tx n) (lst K (ns.map tx)) k := v_inG (fun G vs h => All2.map.mp h) (.inl rfl) rfl (flat_map (fun _ => rfl) _) (inV_tx n ns) q
theorem v_niLS {n : List Nat} {ns : List (List Nat)} (q : k (bo (!decide (n ∈ ns))) O) : V2 O (rIn K true) (tx n) (lst K (ns.map tx)) k := v_inG (fun G vs h => All2.map.mp h) (.inl rfl) rfl (flat_map (fun _ => rfl) _) (inV_tx n ns) q
/-! a number or None -/
@[reducible] def oV : Option Int → V
  | none => .non
  | some n => .int n
abbrev oI (o : Option Int) : As := cst (oV o)
theorem oV_non (o : Option Int) : decide (oV o = V.non) = o.isNone := by cases o <;> rfl
theorem v_isNO {o : Option Int} (q : k (bo o.isNone) O) : V2 O (fun x y H Q => y = V.non ∧ Q (V.bl (decide (x = V.non))) H) (oI o) (cst .non) k := v_isN (by rw [oV_non]; exact q)
theorem v_notNO {o : Option Int} (q : k (bo o.isSome) O) : V2 O (fun x y H Q => y = V.non ∧ Q (V.bl (!decide (x = V.non))) H) (oI o) (cst .non) k := v_notN (by rw [oV_non, Option.not_isNone]; exact q)
theorem inV_no : ∀ ns : List (Option Int), inV .non (ns.map oV) = ns.any (·.isNone)
  | [] => rfl
  | none :: r => rfl
  | some n :: r => by
    have e : inV .non ((some n :: r).map oV) = (false || inV .non (r.map oV)) := rfl
    rw [e, inV_no r]
    rfl
theorem v_noIn {α : Type} {l : List α} {f : α → Option Int} (q : k (bo (l.any fun x => (f x).isNone)) O) : V2 O (rIn K false) (cst .non) (lst K (l.map fun x => oI (f x))) k := by
  rw [map_cst (g := oV)]
  exact v_inG (fun G vs h => All2.map.mp h) (.inl rfl) rfl (flat_map (fun a => by cases a <;> rfl) _) (inV_no _) (by rw [List.any_map]; exact q)
theorem v_noNi {α : Type} {l : List α} {f : α → Option Int} (q : k (bo (!l.any fun x => (f x).isNone)) O) : V2 O (rIn K true) (cst .non) (lst K (l.map fun x => oI (f x))) k := by
  rw [map_cst (g := oV)]
  exact v_inG (fun G vs h => All2.map.mp h) (.inl rfl) rfl (flat_map (fun a => by cases a <;> rfl) _) (inV_no _) (by rw [List.any_map]; exact q)
/-! a def with a star parameter -/
abbrev SpS (n : Nat) (sp : Sp) : Sp := fun vs H Q E => ∃ ws rest, vs = ws ++ rest ∧ ws.length = n ∧ rest.length ≤ sizeLine ∧ ∀ p, H p = Option.none → sp (ws ++ [V.ref p]) (upd H p (.tup rest)) Q E
theorem All2.split {G : Hp} : ∀ {l1 l2 : List As} {vs : List V}, All2 G (l1 ++ l2) vs → ∃ v1 v2, vs = v1 ++ v2 ∧ All2 G l1 v1 ∧ All2 G l2 v2
  | [], _, vs, h => ⟨[], vs, rfl, .nil, h⟩
  | _ :: _, _, _, .cons a t => by
    obtain ⟨v1, v2, rfl, h1, h2⟩ := All2.split t
    exact ⟨_ :: v1, v2, rfl, .cons a h1, h2⟩
theorem Go.callS {α : Type} {n : Nat} {pre : α → Prop} {as : α → List As} {r : α → As} {X : XK} (l1 : List As)
    (h : GoA L O t fun l O1 => ∃ a l2, l = l1 ++ l2 ∧ l1.length = n ∧ l2.length ≤ 100000 ∧ as a = l1 ++ [Sy.tup K l2] ∧ pre a ∧ k (r a) O1) : Go L O (tCallS (SpS n (SpP pre as r)) X t) k := fun E G0 H0 σ G H Q f s z =>
  h _ _ _ _ _ _ _ f s fun l O1 G1 H1 vs hk f1 s1 b => by
    obtain ⟨a, l2, rfl, hn, h100, ea, hp, hq⟩ := hk
    obtain ⟨v1, v2, rfl, a1, a2⟩ := b.split
    refine ⟨v1, v2, rfl, by rw [a1.len, hn], a2.sz h100, fun p np => ?_⟩
    have e := Ext.new (o := .tup v2) f1.gh np
    refine ⟨a, _, hp, ?_, (Fr.part (I := []) (f1.ext e) (fun _ h => nomatch h)), ?_⟩
    · rw [ea]
      exact (a1.m e.g).app (.cons ⟨p, v2, rfl, .inl (.inl upd_same), a2.m e.g⟩ .nil)
    · rintro A O' G' H' v ⟨rfl, rfl⟩ g c
      exact z _ _ _ _ _ hq (Fr.frame (I := []) (O' := []) (f1.ext e) g) ((s1.trans e.g).trans g.gg) c
theorem Go.callS1 {α : Type} {pre : α → Prop} {as : α → List As} {r : α → As} {X : XK}
    (h : GoA L O t fun l O1 => ∃ a x l2, l = x :: l2 ∧ l2.length ≤ 100000 ∧ as a = [x, Sy.tup K l2] ∧ pre a ∧ k (r a) O1) : Go L O (tCallS (SpS 1 (SpP pre as r)) X t) k := fun E G0 H0 σ G H Q f s z =>
  h _ _ _ _ _ _ _ f s fun l O1 G1 H1 vs hk f1 s1 b => by
    obtain ⟨a, x, l2, rfl, h100, ea, hp, hq⟩ := hk
    cases b with
    | @cons _ v _ v2 a1 a2 =>
      refine ⟨[v], v2, rfl, rfl, a2.sz h100, fun p np => ?_⟩
      have e := Ext.new (o := .tup v2) f1.gh np
      refine ⟨a, _, hp, ?_, (Fr.part (I := []) (f1.ext e) (fun _ h => nomatch h)), ?_⟩
      · rw [ea]
        exact .cons (x.m e.g a1) (.cons ⟨p, v2, rfl, .inl (.inl upd_same), a2.m e.g⟩ .nil)
      · rintro A O' G' H' v ⟨rfl, rfl⟩ g c
        exact z _ _ _ _ _ hq (Fr.frame (I := []) (O' := []) (f1.ext e) g) ((s1.trans e.g).trans g.gg) c
end
section
variable {P : Program} {w : World} {K : PySem.W.Frag} {mg : Str → Option Value} {base : Heap}
theorem fnR_sy {α : Type} {pre : α → Prop} {as : α → List As} {oin : α → OO} {post : α → As → OO → Prop} {x qual pv : Str} {st : Stmt} {f : Addr} {fd : FuncData} {N ps : List Str} {k : Nat} (F : Fun K x qual st f fd) (Sc : FnScope N (ps ++ [pv]) (defScope st))
    (hb : ∀ (kV doc pm cdv ct : Value) (an : Option Addr) (us rest : List Value), us.length = ps.length → bindArgs (PySem.W.fnOf x qual (defArgs st) (defBody st) (defScope st) .none kV doc pm an cdv ct) ⟨us ++ rest, []⟩ = (newTuple rest >>= fun t => pure (ps.zip us ++ [(pv, t)])))
    (body : ∀ (a : α) (cdv : Value) (A : Around) (outer : List Env) (s : Shared) (H : Hp) (E : XK), Room k (A.deeper (envOfC qual (defScope st) s.heap.objs.size f cdv)) → pre a →
      ∃ t, PSs (cxOf CX0 P w K mg base N qual (defScope st) f cdv A outer s H E).nox (defBody st) t ∧ GoS (startL N (as a)) (oin a) t (eR (post a))) :
    FnR P w K mg base CX0 (k + 1) f (SpS ps.length (SpG pre as oin post)) := by
  refine okS F Sc hb fun cdv A outer s H vs Q E hr h => ?_
  obtain ⟨a, G, h1, h2, h3, h4⟩ := h
  obtain ⟨t, ht, hg⟩ := body a cdv A outer s H E hr h1
  refine ⟨t, ht, hg _ _ _ _ _ _ _ h3 ?_ ⟨fun L O σ G' H' q f z s => h4 _ _ _ _ _ q f rfl, fun A O G' H' v q f z a => h4 _ _ _ _ _ q f a, fun _ _ _ _ _ q => q.elim, fun _ _ _ _ _ q => q.elim⟩⟩
  have e : L2.start N vs = vs.map some ++ List.replicate (N.length - (as a).length) none := by
    unfold L2.start
    rw [h2.len]
  rw [e]
  exact Slots.start _ h2
end
section
variable {K : PySem.W.Frag} {L : LL} {O : OO} {k : As → OO → Prop}
theorem v_tupL {xs : List As} (q : k (tup K xs) O) : Vn O (rTupQ K) [lst K xs] k := fun E G0 H0 G H Q vs f a zz => by
  cases a with
  | cons a r =>
    cases r
    obtain ⟨p, ws, rfl, h1, h2⟩ := a
    refine ⟨p, ws, rfl, .inl ⟨SqL.of (f.gh _ _ h1), fun D nD => ?_⟩⟩
    have ex := Ext.new (o := .tup ws) f.gh nD
    exact zz _ _ _ _ _ q (f.ext ex) ex.g ⟨D, _, rfl, .inl (.inl upd_same), h2.m ex.g⟩
theorem v_tupT {xs : List As} (q : k (tup K xs) O) : Vn O (rTupQ K) [tup K xs] k := fun E G0 H0 G H Q vs f a zz => by
  cases a with
  | cons a r =>
    cases r
    obtain ⟨p, ws, rfl, h1, h2⟩ := a
    exact ⟨p, ws, rfl, .inr ⟨SqT.mono f.gh h1, zz _ _ _ _ _ q f (Same.refl _) ⟨p, ws, rfl, h1, h2⟩⟩⟩
theorem v_lstL {xs : List As} (q : k (lst K xs) O) : Vn O (rLstQ K) [lst K xs] k := fun E G0 H0 G H Q vs f a zz => by
  cases a with
  | cons a r =>
    cases r
    obtain ⟨p, ws, rfl, h1, h2⟩ := a
    refine ⟨p, ws, rfl, .inl (SqL.of (f.gh _ _ h1)), fun D nD => ?_⟩
    have ex := Ext.new (o := .lst ws) f.gh nD
    exact zz _ _ _ _ _ q (f.ext ex) ex.g ⟨D, _, rfl, upd_same, h2.m ex.g⟩
theorem v_lstT {xs : List As} (q : k (lst K xs) O) : Vn O (rLstQ K) [tup K xs] k := fun E G0 H0 G H Q vs f a zz => by
  cases a with
  | cons a r =>
    cases r
    obtain ⟨p, ws, rfl, h1, h2⟩ := a
    refine ⟨p, ws, rfl, .inr (SqT.mono f.gh h1), fun D nD => ?_⟩
    have ex := Ext.new (o := .lst ws) f.gh nD
    exact zz _ _ _ _ _ q (f.ext ex) ex.g ⟨D, _, rfl, upd_same, h2.m ex.g⟩
/-! lists joined: + of lists that are new -/
/-! what is owned, read and changed -/
theorem own_at {E : List Addr} {G0 H0 G H : Hp} {pre post : OO} {D : Addr} {c : OC} (f : Fr E G0 H0 (pre ++ (D, c) :: post) G H) : OcOk G H D c := (f.ow (D, c) (by simp)).2.2
theorem v_append {pre post : OO} {D : Addr} {xs : List As} {A : As} (hl : xs.length < 100000) (q : k no (pre ++ (D, .ol (xs ++ [A])) :: post)) : Vm (pre ++ (D, .ol xs) :: post) rAppend (pt D) [A] k := fun E G0 H0 G H Q x vs f a b zz => by
  obtain rfl : x = .ref D := a
  cases b with
  | cons b r =>
    cases r
    obtain ⟨ws, h1, h2⟩ := own_at f
    refine ⟨D, ws, _, rfl, rfl, h1, by rw [h2.len]; exact szlt (by omega), ?_⟩
    exact zz _ _ _ _ _ q (f.change (fun z => z) ⟨ws ++ [_], upd_same, h2.snoc b⟩) (Same.refl _) rfl
theorem ty_o {pre post : OO} {D : Addr} {xs : List As} : TyA K "list" (pt D) (pre ++ (D, .ol xs) :: post) := fun E G0 H0 G H x f a => by
  obtain rfl : x = .ref D := a
  obtain ⟨ws, h1, h2⟩ := own_at f
  exact .inl ⟨rfl, ws, SqL.of h1⟩
theorem v_lenO {pre post : OO} {D : Addr} {xs : List As} (q : k (it (xs.length : Int)) (pre ++ (D, .ol xs) :: post)) : Vn (pre ++ (D, .ol xs) :: post) (rLenQ K) [pt D] k := fun E G0 H0 G H Q vs f a zz => by
  cases a with
  | cons a r =>
    cases r
    obtain rfl := (show _ = V.ref D from a)
    obtain ⟨ws, h1, h2⟩ := own_at f
    exact ⟨D, ws, rfl, .inl (SqL.of h1), by rw [h2.len]; exact zz _ _ _ _ _ q f (Same.refl _) rfl⟩
/-- given up: from here on it is a value -/
theorem Go.frz {te : TE} (h : Go L O te fun A O1 => ∃ D xs pre post, A = pt D ∧ O1 = pre ++ (D, OC.ol xs) :: post ∧ k (Sy.lst K xs) (pre ++ post)) : Go L O te k := fun E G0 H0 σ G H Q f s z =>
  h _ _ _ _ _ _ _ f s fun A O1 G1 H1 v q f1 s1 a => by
    obtain ⟨D, xs, pre, post, rfl, rfl, q⟩ := q
    obtain rfl : v = .ref D := a
    obtain ⟨ws, h1, h2⟩ := own_at f1
    obtain ⟨fz, sz⟩ := f1.freeze rfl h1
    exact z _ _ _ _ _ q fz (s1.trans sz) ⟨D, ws, rfl, upd_same, h2.m sz⟩
/-- dicts with written keys -/
theorem AllK.val {G : Hp} : ∀ {l : List (Key × As)} {vs : List (Key × V)} (key : Key), AllK G l vs → (∀ A, (l.find? fun kv => decide (kv.1 = key)).map (·.2) = some A → ∃ v, valV vs key = some v ∧ A.p G v) ∧ ((l.find? fun kv => decide (kv.1 = key)) = none → valV vs key = none)
  | _, _, key, .nil => ⟨fun A h => by simp at h, fun _ => rfl⟩
  | _, _, key, @AllK.cons _ k0 A0 v0 l vs a t => by
    obtain ⟨i1, i2⟩ := AllK.val key t
    by_cases hk : k0 = key
    · refine ⟨fun A h => ?_, fun h => ?_⟩
      · rw [List.find?_cons, decide_eq_true hk] at h
        obtain rfl := Option.some.inj h
        exact ⟨v0, valV_pos hk, a⟩
      · rw [List.find?_cons, decide_eq_true hk] at h; cases h
    · refine ⟨fun A h => ?_, fun h => ?_⟩
      · rw [List.find?_cons, decide_eq_false hk] at h
        obtain ⟨v, h1, h2⟩ := i1 A h
        exact ⟨v, by rw [valV_neg hk]; exact h1, h2⟩
      · rw [List.find?_cons, decide_eq_false hk] at h
        rw [valV_neg hk]
        exact i2 h
theorem AllK.len {G : Hp} : ∀ {l : List (Key × As)} {vs : List (Key × V)}, AllK G l vs → vs.length = l.length
  | _, _, .nil => rfl
  | _, _, .cons _ t => congrArg (· + 1) (AllK.len t)
def getA (l : List (Key × As)) (key : Key) : Option As := (l.find? fun kv => decide (kv.1 = key)).map (·.2)
def putA (l : List (Key × As)) (key : Key) (A : As) : List (Key × As) := if (l.any fun kv => decide (kv.1 = key)) = true then l.map (fun kv => if kv.1 = key then (kv.1, A) else kv) else l ++ [(key, A)]
theorem AllK.any {G : Hp} (key : Key) : ∀ {l : List (Key × As)} {vs : List (Key × V)}, AllK G l vs → (vs.any fun kv => decide (kv.1 = key)) = (l.any fun kv => decide (kv.1 = key))
  | _, _, .nil => rfl
  | _, _, .cons _ t => by rw [List.any_cons, List.any_cons, AllK.any key t]
theorem AllK.upd {G : Hp} {A : As} {v : V} (key : Key) (a : A.p G v) : ∀ {l : List (Key × As)} {vs : List (Key × V)}, AllK G l vs → AllK G (l.map fun kv => if kv.1 = key then (kv.1, A) else kv) (vs.map fun kv => if kv.1 = key then (kv.1, v) else kv)
  | _, _, .nil => .nil
  | _, _, @AllK.cons _ k0 A0 v0 l vs b t => by
    rw [List.map_cons, List.map_cons]
    by_cases h : k0 = key
    · rw [if_pos h, if_pos h]; exact .cons a (AllK.upd key a t)
    · rw [if_neg h, if_neg h]; exact .cons b (AllK.upd key a t)
theorem AllK.app {G : Hp} : ∀ {l m : List (Key × As)} {vs ws : List (Key × V)}, AllK G l vs → AllK G m ws → AllK G (l ++ m) (vs ++ ws)
  | _, _, _, _, .nil, s => s
  | _, _, _, _, .cons h t, s => .cons h (AllK.app t s)
theorem AllK.put {G : Hp} {A : As} {v : V} (key : Key) (a : A.p G v) {l : List (Key × As)} {vs : List (Key × V)} (h : AllK G l vs) : AllK G (putA l key A) (putK vs key v) := by
  unfold putA putK
  rw [h.any key]
  split
  · exact h.upd key a
  · exact h.app (.cons a .nil)
theorem Go.dget {te ty : TE} (h : Go L O te fun D O1 => Go L O1 ty fun B O2 => ∃ pb d kvs pre post key, D = pt d ∧ B = cst (kV key) ∧ O2 = pre ++ (d, .od pb kvs) :: post ∧ ∃ A, getA kvs key = some A ∧ k A O2) : Go L O (tDGet te ty) k := fun E G0 H0 σ G H Q f s z =>
  h _ _ _ _ _ _ _ f s fun A O1 G1 H1 x hx f1 s1 a => hx _ _ _ _ _ _ _ f1 (s.m s1) fun B O2 G2 H2 y hy f2 s2 b => by
    obtain ⟨pb, d, kvs, pre, post, key, rfl, rfl, rfl, A, hg, q⟩ := hy
    obtain rfl : x = .ref d := a
    obtain rfl : y = kV key := b
    obtain ⟨vs, h1, h2⟩ := own_at f2
    obtain ⟨v, e, av⟩ := (h2.val key).1 A hg
    exact ⟨d, v, rfl, .inl ⟨vs, key, .inl h1, rfl, e.symm⟩, z _ _ _ _ _ q f2 (s1.trans s2) av⟩
theorem getA_none {kvs : List (Key × As)} {key : Key} {G : Hp} {vs : List (Key × V)} (h : AllK G kvs vs) : (valV vs key).isSome = (getA kvs key).isSome := by
  cases e : kvs.find? (fun kv => decide (kv.1 = key)) with
  | none => rw [(h.val key).2 e]; unfold getA; rw [e]; rfl
  | some p =>
    obtain ⟨v, hv, _⟩ := (h.val key).1 p.2 (by rw [e]; rfl)
    rw [hv]; unfold getA; rw [e]; rfl
theorem Go.din {te ty : TE} (h : Go L O ty fun B O1 => Go L O1 te fun D O2 => ∃ pb d kvs pre post key, D = pt d ∧ B = cst (kV key) ∧ O2 = pre ++ (d, .od pb kvs) :: post ∧ k (bo (getA kvs key).isSome) O2) : Go L O (tDIn ty te) k := fun E G0 H0 σ G H Q f s z =>
  h _ _ _ _ _ _ _ f s fun A O1 G1 H1 y hx f1 s1 b => hx _ _ _ _ _ _ _ f1 (s.m s1) fun B O2 G2 H2 x hy f2 s2 a => by
    obtain ⟨pb, d, kvs, pre, post, key, rfl, rfl, rfl, q⟩ := hy
    obtain rfl : x = .ref d := a
    obtain rfl : y = kV key := b
    obtain ⟨vs, h1, h2⟩ := own_at f2
    exact ⟨d, _, rfl, DGet.k h1, z _ _ _ _ _ q f2 (s1.trans s2) (by rw [getA_none h2]; rfl)⟩
theorem Go.dni {te ty : TE} (h : Go L O ty fun B O1 => Go L O1 te fun D O2 => ∃ pb d kvs pre post key, D = pt d ∧ B = cst (kV key) ∧ O2 = pre ++ (d, .od pb kvs) :: post ∧ k (bo (!(getA kvs key).isSome)) O2) : Go L O (tDNotIn ty te) k := fun E G0 H0 σ G H Q f s z =>
  h _ _ _ _ _ _ _ f s fun A O1 G1 H1 y hx f1 s1 b => hx _ _ _ _ _ _ _ f1 (s.m s1) fun B O2 G2 H2 x hy f2 s2 a => by
    obtain ⟨pb, d, kvs, pre, post, key, rfl, rfl, rfl, q⟩ := hy
    obtain rfl : x = .ref d := a
    obtain rfl : y = kV key := b
    obtain ⟨vs, h1, h2⟩ := own_at f2
    exact ⟨d, _, rfl, DGet.k h1, z _ _ _ _ _ q f2 (s1.trans s2) (by rw [getA_none h2]; rfl)⟩
theorem GoS.dput {td ty tv : TE} {k : Es} (h : Go L O tv fun A O1 => Go L O1 td fun D O2 => Go L O2 ty fun B O3 => ∃ pb d kvs pre post key, D = pt d ∧ B = cst (kV key) ∧ O3 = pre ++ (d, .od pb kvs) :: post ∧ kvs.length < 100000 ∧ k.nx L (pre ++ (d, .od pb (putA kvs key A)) :: post)) : GoS L O (sDPut td ty tv) k := fun E G0 H0 σ G H D f s e =>
  h _ _ _ _ _ _ _ f s fun A O1 G1 H1 v hv f1 s1 a => hv _ _ _ _ _ _ _ f1 (s.m s1) fun DD O2 G2 H2 x hx f2 s2 dd => hx _ _ _ _ _ _ _ f2 (s.m (s1.trans s2)) fun B O3 G3 H3 y hy f3 s3 b => by
    obtain ⟨pb, d, kvs, pre, post, key, rfl, rfl, rfl, hl, q⟩ := hy
    obtain rfl : x = .ref d := dd
    obtain rfl : y = kV key := b
    obtain ⟨vs, h1, h2⟩ := own_at f3
    have s13 := (s1.trans s2).trans s3
    refine ⟨d, _, rfl, DPut.k h1 (by rw [h2.len]; exact szlt (by omega)), e.nx _ _ _ _ _ q (f3.change (fun z => z) ⟨_, upd_same, h2.put key (A.m (s2.trans s3) a)⟩) s13 (s.m s13)⟩
theorem v_lenD {pre post : OO} {pb : Bool} {D : Addr} {kvs : List (Key × As)} (q : k (it (kvs.length : Int)) (pre ++ (D, .od pb kvs) :: post)) : Vn (pre ++ (D, .od pb kvs) :: post) (fun xs H Q => ∃ a kvs, xs = [.ref a] ∧ H a = some (.dK kvs) ∧ Q (.int kvs.length) H) [pt D] k := fun E G0 H0 G H Q vs f a zz => by
  cases a with
  | cons a r =>
    cases r
    obtain rfl := (show _ = V.ref D from a)
    obtain ⟨ws, h1, h2⟩ := own_at f
    exact ⟨D, ws, rfl, h1, by rw [h2.len]; exact zz _ _ _ _ _ q f (Same.refl _) rfl⟩
/-! lists: joined, more at the end, repeated -/
theorem v_cat {xs ys : List As} (hl : xs.length + ys.length ≤ 100000) (q : k (lst K (xs ++ ys)) O) : V2 O rCat (lst K xs) (lst K ys) k := fun E G0 H0 G H Q x y f a b zz => by
  obtain ⟨p, ws, rfl, h1, h2⟩ := a
  obtain ⟨p', us, rfl, h3, h4⟩ := b
  refine ⟨p, p', ws, us, rfl, rfl, f.gh _ _ h1, f.gh _ _ h3, by rw [h2.len, h4.len]; exact sz hl, fun D nD => ?_⟩
  have ex := Ext.new (o := .lst (ws ++ us)) f.gh nD
  exact zz _ _ _ _ _ q (f.ext ex) ex.g ⟨D, _, rfl, upd_same, (h2.app h4).m ex.g⟩
theorem v_catT {xs ys : List As} (hl : xs.length + ys.length ≤ 100000) (q : k (tup K (xs ++ ys)) O) (hx : xs ≠ []) (hy : ys ≠ []) : V2 O (rCatT K) (tup K xs) (tup K ys) k := fun E G0 H0 G H Q x y f a b zz => by
  obtain ⟨p, ws, rfl, h1, h2⟩ := a
  obtain ⟨p', us, rfl, h3, h4⟩ := b
  refine ⟨p, p', ws, us, rfl, rfl, SqT.mono f.gh h1, SqT.mono f.gh h3, fun z => hx (by subst z; cases h2; rfl), by rw [h2.len, h4.len]; exact sz hl, fun z => absurd z (fun z => hy (by subst z; cases h4; rfl)), fun _ D nD => ?_⟩
  have ex := Ext.new (o := .tup (ws ++ us)) f.gh nD
  exact zz _ _ _ _ _ q (f.ext ex) ex.g ⟨D, _, rfl, .inl (.inl upd_same), (h2.app h4).m ex.g⟩
theorem v_extend {pre post : OO} {D : Addr} {xs ys : List As} (hl : xs.length + ys.length ≤ 100000) (q : k no (pre ++ (D, .ol (xs ++ ys)) :: post)) : Vm (pre ++ (D, .ol xs) :: post) rExtend (pt D) [lst K ys] k := fun E G0 H0 G H Q x vs f a b zz => by
  obtain rfl : x = .ref D := a
  cases b with
  | cons b r =>
    cases r
    obtain ⟨ws, h1, h2⟩ := own_at f
    obtain ⟨p, us, rfl, h3, h4⟩ := b
    refine ⟨D, p, ws, us, rfl, rfl, h1, f.gh _ _ h3, by rw [h2.len, h4.len]; exact sz hl, ?_⟩
    exact zz _ _ _ _ _ q (f.change (fun z => z) ⟨ws ++ us, upd_same, h2.app h4⟩) (Same.refl _) rfl
theorem All2.reps {G : Hp} {l : List As} {vs : List V} (h : All2 G l vs) : ∀ n : Nat, All2 G (List.replicate n l).flatten (List.replicate n vs).flatten
  | 0 => .nil
  | n + 1 => by rw [List.replicate_succ, List.replicate_succ, List.flatten_cons, List.flatten_cons]; exact h.app (All2.reps h n)
/-- what is owned, as a value for one look -/
theorem GoI.ofS {k : List As → OO → Prop} {te : TE} (h : Go L O te fun A O1 => ∃ xs, A = sql K xs ∧ k xs O1) : GoI L O (iList K te) k := fun E G0 H0 σ G H R f s z =>
  h _ _ _ _ _ _ _ f s fun A O1 G1 H1 v q f1 s1 a => by
    obtain ⟨xs, rfl, q⟩ := q
    obtain ⟨p, vs, rfl, h1, h2⟩ := a
    refine ⟨p, rfl, ⟨vs, f1.gh.seq h1⟩, z _ _ _ _ _ q f1 s1 ⟨_, _, by rw [← h2.len]; exact walk_list, fun H e => e.seq h1, fun i H x H' hi y Gc e1 e2 => ?_⟩⟩
    obtain ⟨rfl, hx⟩ := y
    obtain ⟨A, hA, ha⟩ := h2.get hx
    exact ⟨A, Gc, hA, Ext.refl e2, A.m e1 ha⟩
theorem v_slQ {xs : List As} {lo hi : Option Int} (q : k (lst K (Cj.cut xs lo hi)) O) : Vs O (rSlL K) (sql K xs) lo hi k := fun E G0 H0 G H Q x f a zz => by
  obtain ⟨p, ws, rfl, h1, h2⟩ := a
  refine ⟨p, ws, rfl, f.gh.seq h1, fun D nD => ?_⟩
  have ex := Ext.new (o := .lst (cutV ws lo hi)) f.gh nD
  exact zz _ _ _ _ _ q (f.ext ex) ex.g ⟨D, _, rfl, upd_same, (h2.cut lo hi).m ex.g⟩
theorem v_sumQ {ns : List Int} (q : k (it ns.sum) O) : Vn O (rSum K) [sql K (ns.map it)] k := fun E G0 H0 G H Q vs f a zz => by
  cases a with
  | cons a r =>
    cases r
    obtain ⟨p, ws, rfl, h1, h2⟩ := a
    obtain rfl := All2.map.mp h2
    exact ⟨p, ns, rfl, f.gh.seq h1, zz _ _ _ _ _ q f (Same.refl _) rfl⟩
theorem v_lenQ {xs : List As} (q : k (it (xs.length : Int)) O) : Vn O (rLenQ K) [sql K xs] k := fun E G0 H0 G H Q vs f a zz => by
  cases a with
  | cons a r =>
    cases r
    obtain ⟨p, ws, rfl, h1, h2⟩ := a
    exact ⟨p, ws, rfl, .inl (f.gh.seq h1), by rw [h2.len]; exact zz _ _ _ _ _ q f (Same.refl _) rfl⟩
theorem GoI.enumQ {k : List As → OO → Prop} (h : GoA L O t fun l O1 => ∃ xs, l = [sql K xs] ∧ k (enA K xs) O1) : GoI L O (iEnum K t) k := fun E G0 H0 σ G H R f s z =>
  h _ _ _ _ _ _ _ f s fun l O1 G1 H1 vs q f1 s1 a => by
    obtain ⟨xs, rfl, q⟩ := q
    cases a with
    | cons a r =>
      cases r
      obtain ⟨p, vs, rfl, h1, h2⟩ := a
      refine ⟨p, vs, rfl, f1.gh.seq h1, z _ _ _ _ _ q f1 s1 (pair_ok (n := vs.length) walk_enum (by simp [nums, h2.len]) h2.len.symm (fun H e => e.seq h1) (fun i v hi e => ?_) (fun i v _ e => h2.get e))⟩
      obtain rfl := Option.some.inj e
      exact nums_at (by rw [← h2.len]; exact hi)
/-! dicts that do not change any more -/
def dct (kvs : List (Key × As)) : As := ⟨fun G v => ∃ a vs, v = .ref a ∧ G a = some (.dK vs) ∧ AllK G kvs vs, fun e h => by
  obtain ⟨a, vs, h1, h2, h3⟩ := h
  exact ⟨a, vs, h1, e _ _ h2, h3.m e⟩⟩
theorem Go.dnew (h : k (dct []) O) : Go L O tDNewK k := fun E G0 H0 σ G H Q f s z p np => by
  have ex := Ext.new (o := .dK []) f.gh np
  exact z _ _ _ _ _ h (f.ext ex) ex.g ⟨p, [], rfl, upd_same, .nil⟩
theorem Go.frzD {te : TE} (h : Go L O te fun A O1 => ∃ D kvs pre post, A = pt D ∧ O1 = pre ++ (D, OC.od false kvs) :: post ∧ k (dct kvs) (pre ++ post)) : Go L O te k := fun E G0 H0 σ G H Q f s z =>
  h _ _ _ _ _ _ _ f s fun A O1 G1 H1 v q f1 s1 a => by
    obtain ⟨D, xs, pre, post, rfl, rfl, q⟩ := q
    obtain rfl : v = .ref D := a
    obtain ⟨ws, h1, h2⟩ := own_at f1
    obtain ⟨fz, sz⟩ := f1.freeze rfl h1
    exact z _ _ _ _ _ q fz (s1.trans sz) ⟨D, ws, rfl, upd_same, h2.m sz⟩
theorem Go.dgetC {te ty : TE} (h : Go L O te fun D O1 => Go L O1 ty fun B O2 => ∃ kvs key, D = dct kvs ∧ B = cst (kV key) ∧ ∃ A, getA kvs key = some A ∧ k A O2) : Go L O (tDGet te ty) k := fun E G0 H0 σ G H Q f s z =>
  h _ _ _ _ _ _ _ f s fun A O1 G1 H1 x hx f1 s1 a => hx _ _ _ _ _ _ _ f1 (s.m s1) fun B O2 G2 H2 y hy f2 s2 b => by
    obtain ⟨kvs, key, rfl, rfl, A, hg, q⟩ := hy
    obtain rfl : y = kV key := b
    obtain ⟨d, vs, rfl, h1, h2⟩ := a
    obtain ⟨v, e, av⟩ := ((h2.m s2).val key).1 A hg
    exact ⟨d, v, rfl, .inl ⟨vs, key, .inl (f2.gh _ _ (s2 _ _ h1)), rfl, e.symm⟩, z _ _ _ _ _ q f2 (s1.trans s2) av⟩
theorem v_lenC {kvs : List (Key × As)} (q : k (it (kvs.length : Int)) O) : Vn O (fun xs H Q => ∃ a kvs, xs = [.ref a] ∧ H a = some (.dK kvs) ∧ Q (.int kvs.length) H) [dct kvs] k := fun E G0 H0 G H Q vs f a zz => by
  cases a with
  | cons a r =>
    cases r
    obtain ⟨p, ws, rfl, h1, h2⟩ := a
    exact ⟨p, ws, rfl, f.gh _ _ h1, by rw [h2.len]; exact zz _ _ _ _ _ q f (Same.refl _) rfl⟩
/-- what the def returns, told by a word on it -/
theorem Go.callG {α : Type} {pre : α → Prop} {as : α → List As} {post : α → As → OO → Prop} {X : XK}
    (h : GoA L O t fun l O1 => ∃ a, l = as a ∧ pre a ∧ ∀ A O', post a A O' → k A (O' ++ O1)) : Go L O (tCall (SpG pre as (fun _ => []) post) [] X t) k := Go.call (fun _ _ h => nomatch h) fun E G0 H0 σ G H Q f s z =>
  h _ _ _ _ _ _ _ f s fun l O' G' H' vs q => z _ _ _ _ _ (by
    obtain ⟨a, h1, h2, h3⟩ := q
    exact ⟨a, O', h1, rfl, h2, h3⟩)
/-! written tuples of texts, of numbers -/
theorem Go.cWS {a : Addr} {ws : List (List Nat)} (h : ∀ H, SqT K H a (ws.map fun l => V.str (S l))) (q : k (Sy.tup K (ws.map tx)) O) : Go L O (tC (.ref a)) k := Go.cW h (by rw [List.map_map]; exact q)
theorem Go.cWI {a : Addr} {ws : List Int} (h : ∀ H, SqT K H a (ws.map V.int)) (q : k (Sy.tup K (ws.map it)) O) : Go L O (tC (.ref a)) k := Go.cW h (by rw [List.map_map]; exact q)
theorem Go.bmW {T : String} {a : Addr} {ws : List (List Nat)} {r : V → List V → Hp → VK → Prop} (hT : ∀ H, tyV K T (.ref a) H) (hs : ∀ H, SqT K H a (ws.map fun l => V.str (S l))) (h : GoA L O t fun l O2 => Vm O2 r (Sy.tup K (ws.map tx)) l k) : Go L O (tBM K T r (tC (.ref a)) t) k := fun E G0 H0 σ G H Q f s z =>
  ⟨hT _, h _ _ _ _ _ _ _ f s fun l O2 G2 H2 vs hk f2 s2 b => hk _ _ _ _ _ _ _ _ f2 ⟨a, _, rfl, hs _, All2.map.mpr rfl⟩ b fun C O3 G3 H3 v hk f3 s3 c => z _ _ _ _ _ hk f3 (s2.trans s3) c⟩
theorem idx_at {α : Type} [BEq α] [LawfulBEq α] : ∀ {l : List α} {a : α}, a ∈ l → l[l.idxOf a]? = some a ∧ ∀ m, m < l.idxOf a → l[m]? ≠ some a
  | x :: r, a, h => by
    by_cases e : x = a
    · subst e
      have ei : (x :: r).idxOf x = 0 := by rw [List.idxOf_cons, beq_self_eq_true]; rfl
      rw [ei]
      exact ⟨rfl, fun m hm => absurd hm (Nat.not_lt_zero m)⟩
    · have hr : a ∈ r := by
        rcases List.mem_cons.mp h with q | q
        · exact absurd q.symm e
        · exact q
      obtain ⟨h1, h2⟩ := idx_at hr
      have eb : (x == a) = false := beq_eq_false_iff_ne.mpr e
      have ei : (x :: r).idxOf a = r.idxOf a + 1 := by rw [List.idxOf_cons, eb]; rfl
      rw [ei]
      refine ⟨by simpa using h1, fun m hm => ?_⟩
      cases m with
      | zero => simpa using e
      | succ m => simpa using h2 m (by omega)
theorem v_tidxS {n : List Nat} {ws : List (List Nat)} (h : n ∈ ws) (q : k (it (ws.idxOf n : Int)) O) : Vm O (fun x xs H Q => ∃ p, ∃ ys : List Str, ∃ z j, x = .ref p ∧ xs = [.str z] ∧ SqT K H p (ys.map V.str) ∧ ys[j]? = some z ∧ (∀ m, m < j → ys[m]? ≠ some z) ∧ Q (.int (j : Nat)) H) (tup K (ws.map tx)) [tx n] k := fun E G0 H0 G H Q x vs f a b zz => by
  cases b with
  | cons b r =>
    cases r
    obtain rfl := (show _ = V.str (S n) from b)
    obtain ⟨p, us, rfl, h1, h2⟩ := a
    have e := h2.strs
    subst e
    obtain ⟨g1, g2⟩ := idx_at h
    refine ⟨p, ws.map S, S n, ws.idxOf n, rfl, rfl, SqT.mono f.gh h1, ?_, fun m hm z => ?_, zz _ _ _ _ _ q f (Same.refl _) rfl⟩
    · rw [List.getElem?_map, g1]; rfl
    · rw [List.getElem?_map] at z
      cases hq : ws[m]? with
      | none => rw [hq] at z; cases z
      | some y =>
        rw [hq] at z
        have : y = n := S_inj (Option.some.inj z)
        subst this
        exact g2 m hm hq
/-! compared with the empty list -/
theorem All2.nil_iff {G : Hp} {l : List As} {vs : List V} (h : All2 G l vs) : vs.isEmpty = l.isEmpty := by cases h <;> rfl
theorem v_eqE {xs : List As} (q : k (bo xs.isEmpty) O) : V2 O (rEqE K) (lst K xs) (lst K []) k := fun E G0 H0 G H Q x y f a b zz => by
  obtain ⟨p, ws, rfl, h1, h2⟩ := a
  obtain ⟨p', us, rfl, h3, h4⟩ := b
  cases h4
  refine ⟨p, p', ws, [], rfl, rfl, SqL.of (f.gh _ _ h1), SqL.of (f.gh _ _ h3), .inr rfl, ?_⟩
  rw [h2.nil_iff, show ([] : List V).isEmpty = true from rfl, Bool.and_true]
  exact zz _ _ _ _ _ q f (Same.refl _) rfl
theorem v_neE {xs : List As} (q : k (bo (!xs.isEmpty)) O) : V2 O (rNeE K) (lst K xs) (lst K []) k := fun E G0 H0 G H Q x y f a b zz => by
  obtain ⟨p, ws, rfl, h1, h2⟩ := a
  obtain ⟨p', us, rfl, h3, h4⟩ := b
  cases h4
  refine ⟨p, p', ws, [], rfl, rfl, SqL.of (f.gh _ _ h1), SqL.of (f.gh _ _ h3), .inr rfl, ?_⟩
  rw [h2.nil_iff, show ([] : List V).isEmpty = true from rfl, Bool.and_true]
  exact zz _ _ _ _ _ q f (Same.refl _) rfl
/-! walks over what is owned (given up there), new owned things by a name -/
theorem GoI.ofO {k : List As → OO → Prop} {te : TE} (h : Go L O te fun A O1 => ∃ D xs pre post, A = pt D ∧ O1 = pre ++ (D, OC.ol xs) :: post ∧ k xs (pre ++ post)) : GoI L O (iList K te) k :=
  GoI.ofL (Go.frz (K := K) (h.imp fun A O1 e => by
    obtain ⟨D, xs, pre, post, e1, e2, q⟩ := e
    exact ⟨D, xs, pre, post, e1, e2, xs, rfl, q⟩))
theorem GoS.setO {k : Es} {t : TA} (i : Nat) (h : GoA L O t fun l O1 => l.length ≤ 100000 ∧ ∀ D, k.nx (setL L i (pt D)) (O1 ++ [(D, .ol l)])) : GoS L O (tAsg (tLst t) (gName i)) k := GoS.set (Go.lstO h)
theorem GoS.setD {k : Es} (i : Nat) (h : ∀ D, k.nx (setL L i (pt D)) (O ++ [(D, .od false [])])) : GoS L O (tAsg tDNewK (gName i)) k := GoS.set (Go.dnewO h)
/-- None told apart from values that never are None -/
def NN (A : As) : Prop := ∀ G v, A.p G v → v ≠ .non
theorem v_notOp {o : Option As} (h : ∀ A, o = some A → NN A) (q : k (bo o.isSome) O) : V2 O (fun x y H Q => y = V.non ∧ Q (V.bl (!decide (x = V.non))) H) (op o) (cst .non) k := fun E G0 H0 G H Q x y f a b zz => by
  refine ⟨b, ?_⟩
  cases o with
  | none =>
    obtain rfl : x = .non := a
    exact zz _ _ _ _ _ q f (Same.refl _) rfl
  | some A =>
    have n := h A rfl G x a
    rw [decide_eq_false n]
    exact zz _ _ _ _ _ q f (Same.refl _) rfl
theorem nn_it {i : Int} : NN (it i) := fun G v h => by rw [show v = _ from h]; intro z; cases z
theorem nn_tx {l : List Nat} : NN (tx l) := fun G v h => by rw [show v = _ from h]; intro z; cases z
theorem nn_tup {xs : List As} : NN (tup K xs) := fun G v h => by obtain ⟨p, ws, rfl, _⟩ := h; intro z; cases z
theorem at0 {α : Type} (x : α) (l : List α) : atI (x :: l) 0 = some x := atI_nat (j := 0) rfl
/-! isinstance -/
theorem v_isi {A : As} {T U : String} {b : Bool} (h : TyXA K A O (.type T)) (hb : kitB T U = some b) (q : k (bo b) O) : Vn O (rIsi K) [A, cst (.ty U)] k := fun E G0 H0 G H Q vs f a zz => by
  cases a with
  | cons a r =>
    cases r with
    | cons c r =>
      cases r
      obtain rfl := (show _ = V.ty U from c)
      exact ⟨_, .ty U, .type T, .type U, b, rfl, .ty _, h _ _ _ _ _ _ f a, kit_ty hb, zz _ _ _ _ _ q f (Same.refl _) rfl⟩
theorem tx_s {l : List Nat} : TyXA K (tx l) O (.type "str") := fun _ _ _ _ _ x _ a => by rw [show x = _ from a]; exact .base (.str _)
theorem tx_i {i : Int} : TyXA K (it i) O (.type "int") := fun _ _ _ _ _ x _ a => by rw [show x = _ from a]; exact .base (.int _)
theorem tx_b {i : Bool} : TyXA K (bo i) O (.type "bool") := fun _ _ _ _ _ x _ a => by rw [show x = _ from a]; exact .base (.bl _)
theorem tx_n : TyXA K no O (.type "NoneType") := fun _ _ _ _ _ x _ a => by rw [show x = _ from a]; exact .base .non
theorem tx_l {xs : List As} : TyXA K (lst K xs) O (.type "list") := fun _ _ _ _ _ x f a => by
  obtain ⟨p, ws, rfl, h1, h2⟩ := a
  exact .base (.lst (f.gh _ _ h1))
theorem tx_t {xs : List As} : TyXA K (tup K xs) O (.type "tuple") := fun _ _ _ _ _ x f a => by
  obtain ⟨p, ws, rfl, h1, h2⟩ := a
  rcases SqT.mono f.gh h1 with (h | ⟨o, h⟩) | ⟨o, its, n, h, c, _⟩
  · exact .base (.tup h)
  · exact .fTuple h
  · exact .kTuple h c
theorem tx_d {kvs : List (Key × As)} : TyXA K (dct kvs) O (.type "dict") := fun _ _ _ _ _ x f a => by
  obtain ⟨p, ws, rfl, h1, h2⟩ := a
  exact .base (.dK (f.gh _ _ h1))
theorem v_is_s_str {l : List Nat} (q : k (bo true) O) : Vn O (rIsi K) [tx l, cst (.ty "str")] k := v_isi tx_s (by decide +kernel) q
theorem v_is_s_int {l : List Nat} (q : k (bo false) O) : Vn O (rIsi K) [tx l, cst (.ty "int")] k := v_isi tx_s (by decide +kernel) q
theorem v_is_s_bool {l : List Nat} (q : k (bo false) O) : Vn O (rIsi K) [tx l, cst (.ty "bool")] k := v_isi tx_s (by decide +kernel) q
theorem v_is_s_tuple {l : List Nat} (q : k (bo false) O) : Vn O (rIsi K) [tx l, cst (.ty "tuple")] k := v_isi tx_s (by decide +kernel) q
theorem v_is_s_list {l : List Nat} (q : k (bo false) O) : Vn O (rIsi K) [tx l, cst (.ty "list")] k := v_isi tx_s (by decide +kernel) q
theorem v_is_s_dict {l : List Nat} (q : k (bo false) O) : Vn O (rIsi K) [tx l, cst (.ty "dict")] k := v_isi tx_s (by decide +kernel) q
theorem v_is_i_str {i : Int} (q : k (bo false) O) : Vn O (rIsi K) [it i, cst (.ty "str")] k := v_isi tx_i (by decide +kernel) q
theorem v_is_i_int {i : Int} (q : k (bo true) O) : Vn O (rIsi K) [it i, cst (.ty "int")] k := v_isi tx_i (by decide +kernel) q
theorem v_is_i_bool {i : Int} (q : k (bo false) O) : Vn O (rIsi K) [it i, cst (.ty "bool")] k := v_isi tx_i (by decide +kernel) q
theorem v_is_i_tuple {i : Int} (q : k (bo false) O) : Vn O (rIsi K) [it i, cst (.ty "tuple")] k := v_isi tx_i (by decide +kernel) q
theorem v_is_i_list {i : Int} (q : k (bo false) O) : Vn O (rIsi K) [it i, cst (.ty "list")] k := v_isi tx_i (by decide +kernel) q
theorem v_is_i_dict {i : Int} (q : k (bo false) O) : Vn O (rIsi K) [it i, cst (.ty "dict")] k := v_isi tx_i (by decide +kernel) q
theorem v_is_b_str {i : Bool} (q : k (bo false) O) : Vn O (rIsi K) [bo i, cst (.ty "str")] k := v_isi tx_b (by decide +kernel) q
theorem v_is_b_int {i : Bool} (q : k (bo true) O) : Vn O (rIsi K) [bo i, cst (.ty "int")] k := v_isi tx_b (by decide +kernel) q
theorem v_is_b_bool {i : Bool} (q : k (bo true) O) : Vn O (rIsi K) [bo i, cst (.ty "bool")] k := v_isi tx_b (by decide +kernel) q
theorem v_is_b_tuple {i : Bool} (q : k (bo false) O) : Vn O (rIsi K) [bo i, cst (.ty "tuple")] k := v_isi tx_b (by decide +kernel) q
theorem v_is_b_list {i : Bool} (q : k (bo false) O) : Vn O (rIsi K) [bo i, cst (.ty "list")] k := v_isi tx_b (by decide +kernel) q
theorem v_is_b_dict {i : Bool} (q : k (bo false) O) : Vn O (rIsi K) [bo i, cst (.ty "dict")] k := v_isi tx_b (by decide +kernel) q
theorem v_is_n_str (q : k (bo false) O) : Vn O (rIsi K) [no, cst (.ty "str")] k := v_isi tx_n (by decide +kernel) q
theorem v_is_n_int (q : k (bo false) O) : Vn O (rIsi K) [no, cst (.ty "int")] k := v_isi tx_n (by decide +kernel) q
theorem v_is_n_bool (q : k (bo false) O) : Vn O (rIsi K) [no, cst (.ty "bool")] k := v_isi tx_n (by decide +kernel) q
theorem v_is_n_tuple (q : k (bo false) O) : Vn O (rIsi K) [no, cst (.ty "tuple")] k := v_isi tx_n (by decide +kernel) q
theorem v_is_n_list (q : k (bo false) O) : Vn O (rIsi K) [no, cst (.ty "list")] k := v_isi tx_n (by decide +kernel) q
theorem v_is_n_dict (q : k (bo false) O) : Vn O (rIsi K) [no, cst (.ty "dict")] k := v_isi tx_n (by decide +kernel) q
theorem v_is_l_str {xs : List As} (q : k (bo false) O) : Vn O (rIsi K) [lst K xs, cst (.ty "str")] k := v_isi tx_l (by decide +kernel) q
theorem v_is_l_int {xs : List As} (q : k (bo false) O) : Vn O (rIsi K) [lst K xs, cst (.ty "int")] k := v_isi tx_l (by decide +kernel) q
theorem v_is_l_bool {xs : List As} (q : k (bo false) O) : Vn O (rIsi K) [lst K xs, cst (.ty "bool")] k := v_isi tx_l (by decide +kernel) q
theorem v_is_l_tuple {xs : List As} (q : k (bo false) O) : Vn O (rIsi K) [lst K xs, cst (.ty "tuple")] k := v_isi tx_l (by decide +kernel) q
theorem v_is_l_list {xs : List As} (q : k (bo true) O) : Vn O (rIsi K) [lst K xs, cst (.ty "list")] k := v_isi tx_l (by decide +kernel) q
theorem v_is_l_dict {xs : List As} (q : k (bo false) O) : Vn O (rIsi K) [lst K xs, cst (.ty "dict")] k := v_isi tx_l (by decide +kernel) q
theorem v_is_t_str {xs : List As} (q : k (bo false) O) : Vn O (rIsi K) [tup K xs, cst (.ty "str")] k := v_isi tx_t (by decide +kernel) q
theorem v_is_t_int {xs : List As} (q : k (bo false) O) : Vn O (rIsi K) [tup K xs, cst (.ty "int")] k := v_isi tx_t (by decide +kernel) q
theorem v_is_t_bool {xs : List As} (q : k (bo false) O) : Vn O (rIsi K) [tup K xs, cst (.ty "bool")] k := v_isi tx_t (by decide +kernel) q
theorem v_is_t_tuple {xs : List As} (q : k (bo true) O) : Vn O (rIsi K) [tup K xs, cst (.ty "tuple")] k := v_isi tx_t (by decide +kernel) q
theorem v_is_t_list {xs : List As} (q : k (bo false) O) : Vn O (rIsi K) [tup K xs, cst (.ty "list")] k := v_isi tx_t (by decide +kernel) q
theorem v_is_t_dict {xs : List As} (q : k (bo false) O) : Vn O (rIsi K) [tup K xs, cst (.ty "dict")] k := v_isi tx_t (by decide +kernel) q
theorem v_is_d_str {kvs : List (Key × As)} (q : k (bo false) O) : Vn O (rIsi K) [dct kvs, cst (.ty "str")] k := v_isi tx_d (by decide +kernel) q
theorem v_is_d_int {kvs : List (Key × As)} (q : k (bo false) O) : Vn O (rIsi K) [dct kvs, cst (.ty "int")] k := v_isi tx_d (by decide +kernel) q
theorem v_is_d_bool {kvs : List (Key × As)} (q : k (bo false) O) : Vn O (rIsi K) [dct kvs, cst (.ty "bool")] k := v_isi tx_d (by decide +kernel) q
theorem v_is_d_tuple {kvs : List (Key × As)} (q : k (bo false) O) : Vn O (rIsi K) [dct kvs, cst (.ty "tuple")] k := v_isi tx_d (by decide +kernel) q
theorem v_is_d_list {kvs : List (Key × As)} (q : k (bo false) O) : Vn O (rIsi K) [dct kvs, cst (.ty "list")] k := v_isi tx_d (by decide +kernel) q
theorem v_is_d_dict {kvs : List (Key × As)} (q : k (bo true) O) : Vn O (rIsi K) [dct kvs, cst (.ty "dict")] k := v_isi tx_d (by decide +kernel) q
abbrev SpQ {α : Type} (pre : α → Prop) (as : α → List As) (post : α → As → Prop) : Sp := SpG pre as (fun _ => []) fun a A O' => O' = [] ∧ post a A
theorem Go.callQ {α : Type} {pre : α → Prop} {as : α → List As} {post : α → As → Prop} {X : XK}
    (h : GoA L O t fun l O1 => ∃ a, l = as a ∧ pre a ∧ ∀ A, post a A → k A O1) : Go L O (tCall (SpQ pre as post) [] X t) k := Go.callG fun E G0 H0 σ G H Q f s z =>
  h _ _ _ _ _ _ _ f s fun l O' G' H' vs q => z _ _ _ _ _ (by
    obtain ⟨a, h1, h2, h3⟩ := q
    refine ⟨a, h1, h2, ?_⟩
    rintro A O2 ⟨rfl, h4⟩
    exact h3 A h4)
theorem and_T {b : Bool} {A B : Prop} (h : b = true) (q : A) : (b = true → A) ∧ (b = false → B) := ⟨fun _ => q, fun z => (by rw [h] at z; cases z)⟩
theorem and_F {b : Bool} {A B : Prop} (h : b = false) (q : B) : (b = true → A) ∧ (b = false → B) := ⟨fun z => (by rw [h] at z; cases z), fun _ => q⟩
/-! the source of drawn numbers -/
def drA (l c t : Int) : List (Key × As) := [(.inr (S [108, 101, 102, 116]), it l), (.inr (S [99, 101, 108, 108]), it c), (.inr (S [116, 117, 114, 110, 115]), it t)]
theorem left_S : ("left" : Str) = S [108, 101, 102, 116] := by decide +kernel
theorem cell_S : ("cell" : Str) = S [99, 101, 108, 108] := by decide +kernel
theorem turns_S : ("turns" : Str) = S [116, 117, 114, 110, 115] := by decide +kernel
theorem drA_ok {G H : Hp} {d : Addr} {n : Nat} (h : OcOk G H d (.dr n)) : ∃ l c t : Int, 0 ≤ t ∧ t ≤ n ∧ OcOk G H d (.od true (drA l c t)) := by
  obtain ⟨l, c, t, h1, h2, h3⟩ := h
  rw [left_S, cell_S, turns_S] at h1
  exact ⟨l, c, t, h2, h3, _, h1, .cons rfl (.cons rfl (.cons rfl .nil))⟩
theorem drA_dr {G H : Hp} {d : Addr} {n : Nat} {l c t : Int} (h0 : 0 ≤ t) (h1 : t ≤ n) (h : OcOk G H d (.od true (drA l c t))) : OcOk G H d (.dr n) := by
  obtain ⟨vs, h2, h3⟩ := h
  cases h3 with
  | cons a r => cases r with
    | cons b r => cases r with
      | cons c' r =>
        cases r
        rw [show _ = V.int l from a, show _ = V.int c from b, show _ = V.int t from c'] at h2
        exact ⟨l, c, t, by rw [left_S, cell_S, turns_S]; exact h2, h0, h1⟩
theorem Fr.head {E : List Addr} {G0 H0 G H : Hp} {d : Addr} {c c' : OC} {R : OO} (f : Fr E G0 H0 ((d, c) :: R) G H) (hp : c.par = true → c'.par = true) (h : OcOk G H d c → OcOk G H d c') : Fr E G0 H0 ((d, c') :: R) G H := by
  refine ⟨f.gg, f.gh, f.hh, f.hn, f.fr, fun x hx => ?_, f.nd⟩
  rcases List.mem_cons.mp hx with rfl | hx
  · obtain ⟨h1, h2, h3⟩ := f.ow (d, c) List.mem_cons_self
    exact ⟨h1, h2.imp (fun q => ⟨hp q.1, q.2⟩) id, h h3⟩
  · exact f.ow x (List.mem_cons_of_mem _ hx)
theorem GoS.openDr {d : Addr} {n : Nat} {R : OO} {t : TS} {k : Es} (h : ∀ l c u : Int, 0 ≤ u → u ≤ n → GoS L ((d, .od true (drA l c u)) :: R) t k) : GoS L ((d, .dr n) :: R) t k := fun E G0 H0 σ G H D f s e => by
  obtain ⟨l, c, u, h1, h2, h3⟩ := drA_ok (f.ow (d, .dr n) List.mem_cons_self).2.2
  exact h l c u h1 h2 _ _ _ _ _ _ _ (f.head (fun _ => rfl) fun _ => h3) s e
theorem Go.closeDr {d : Addr} {te : TE} (h : Go L O te fun A O1 => ∃ l c u R n, O1 = (d, .od true (drA l c u)) :: R ∧ 0 ≤ u ∧ u ≤ (n : Nat) ∧ k A ((d, .dr n) :: R)) : Go L O te k := fun E G0 H0 σ G H Q f s z =>
  h _ _ _ _ _ _ _ f s fun A O1 G1 H1 v q f1 s1 a => by
    obtain ⟨l, c, u, R, n, rfl, h1, h2, q⟩ := q
    exact z _ _ _ _ _ q (f1.head (fun _ => rfl) (drA_dr h1 h2)) s1 a
/-- a draw -/
abbrev SpDigit : Sp := SpG (fun a : Addr × Int × Nat => 0 < a.2.1 ∧ a.2.1 < 1000000000000 ∧ a.2.2 ≤ 100000000) (fun a => [pt a.1, it a.2.1]) (fun a => [(a.1, .dr a.2.2)]) (fun a A O' => ∃ i : Int, 0 ≤ i ∧ i < a.2.1 ∧ A = it i ∧ O' = [(a.1, .dr (a.2.2 + 4))])
theorem Go.digit {X : XK} (h : GoA L O t fun l O1 => ∃ d m n R, l = [pt d, it m] ∧ O1 = (d, .dr n) :: R ∧ (0 < m ∧ m < 1000000000000 ∧ n ≤ 100000000) ∧ ∀ i : Int, 0 ≤ i → i < m → k (it i) ((d, .dr (n + 4)) :: R)) : Go L O (tCall SpDigit [] X t) k := Go.call (fun a x hx => by rw [List.mem_singleton.mp hx]; rfl) fun E G0 H0 σ G H Q f s z => h _ _ _ _ _ _ _ f s fun l O' G' H' vs q => z _ _ _ _ _ (by
    obtain ⟨d, m, n, R, rfl, rfl, h1, h2⟩ := q
    refine ⟨(d, m, n), R, rfl, rfl, h1, ?_⟩
    rintro A O2 ⟨i, i1, i2, rfl, rfl⟩
    exact h2 i i1 i2)
theorem at_any {α : Type} {xs : List α} {i : Int} (h0 : 0 ≤ i) (h1 : i < xs.length) : ∃ v, atI xs i = some v ∧ v ∈ xs := by
  have h2 : i.toNat < xs.length := by omega
  refine ⟨xs[i.toNat], ?_, List.getElem_mem h2⟩
  unfold atI ixN
  rw [if_pos h0, if_pos h1]
  exact List.getElem?_eq_getElem h2
theorem v_ixLany {xs : List As} {i : Int} (h0 : 0 ≤ i) (h1 : i < xs.length) (q : ∀ A, A ∈ xs → k A O) : V2 O (rIxL K) (lst K xs) (it i) k := by
  obtain ⟨A, h2, h3⟩ := at_any h0 h1
  exact v_ixL h2 (q A h3)
theorem v_ixTany {xs : List As} {i : Int} (h0 : 0 ≤ i) (h1 : i < xs.length) (q : ∀ A, A ∈ xs → k A O) : V2 O (rIxT K) (tup K xs) (it i) k := by
  obtain ⟨A, h2, h3⟩ := at_any h0 h1
  exact v_ixT h2 (q A h3)
theorem v_ixSany {l : List Nat} {i : Int} (h : l.length ≤ 100000) (h0 : 0 ≤ i) (h1 : i < l.length) (q : ∀ c, c ∈ l → k (tx [c]) O) : V2 O rIxS (tx l) (it i) k := by
  obtain ⟨A, h2, h3⟩ := at_any h0 h1
  exact v_ixS h h2 (q A h3)
theorem fmod_in {a m : Int} (h : 0 < m) : 0 ≤ a.fmod m ∧ a.fmod m < m := ⟨Int.fmod_nonneg_of_pos a h, Int.fmod_lt_of_pos a h⟩
abbrev SpDraw : Sp := SpG (fun a : Int × Int => 0 ≤ a.2 ∧ a.2 ≤ 100) (fun a => [it a.1, it a.2]) (fun _ => []) (fun _ A O' => ∃ d, A = pt d ∧ O' = [(d, .dr 100000)])
theorem draw_imp {vs : List V} {H : Hp} {Q : VK} {E : XK} (h : SpDraw vs H Q E) : ∃ c k : Int, vs = [.int c, .int k] ∧ 0 ≤ k ∧ k ≤ 100 ∧ ∀ H' d, Same H H' → H d = none → Dr d 100000 H' → Q (.ref d) H' := by
  obtain ⟨⟨c, k⟩, G, h1, h2, h3, h4⟩ := h
  cases h2 with
  | cons a r => cases r with
    | cons b r =>
      cases r
      refine ⟨c, k, by rw [show _ = V.int c from a, show _ = V.int k from b], h1.1, h1.2, fun H' d s n dr => ?_⟩
      have e := h3.ext (Ext.heap h3.gh s)
      refine h4 (pt d) [(d, .dr 100000)] G H' _ ⟨d, rfl, rfl⟩ ⟨e.gg, e.gh, e.hh, e.hn, e.fr, fun x hx => ?_, by simp⟩ rfl
      rw [List.mem_singleton] at hx
      subst hx
      exact ⟨h3.gh.free n, .inr n, dr⟩
theorem fin_Q {α : Type} {post : α → As → Prop} {a : α} {A : As} (h : post a A) : (eR fun A O' => O' = [] ∧ post a A).rt A [] := ⟨rfl, h⟩
theorem Go.callQ2 {α β : Type} {pre : α × β → Prop} {as : α × β → List As} {post : α × β → As → Prop} {X : XK}
    (h : GoA L O t fun l O1 => ∃ a b, l = as (a, b) ∧ pre (a, b) ∧ ∀ A, post (a, b) A → k A O1) : Go L O (tCall (SpQ pre as post) [] X t) k := Go.callQ fun E G0 H0 σ G H Q f s z => h _ _ _ _ _ _ _ f s fun l O' G' H' vs q => z _ _ _ _ _ (by
    obtain ⟨a, b, h1⟩ := q
    exact ⟨(a, b), h1⟩)
theorem Go.callQ3 {α β γ : Type} {pre : α × β × γ → Prop} {as : α × β × γ → List As} {post : α × β × γ → As → Prop} {X : XK}
    (h : GoA L O t fun l O1 => ∃ a b c, l = as (a, b, c) ∧ pre (a, b, c) ∧ ∀ A, post (a, b, c) A → k A O1) : Go L O (tCall (SpQ pre as post) [] X t) k := Go.callQ fun E G0 H0 σ G H Q f s z => h _ _ _ _ _ _ _ f s fun l O' G' H' vs q => z _ _ _ _ _ (by
    obtain ⟨a, b, c, h1⟩ := q
    exact ⟨(a, b, c), h1⟩)
/-! a pick out of a list -/
abbrev SpPick (K : PySem.W.Frag) : Sp := SpG (fun a : Addr × List As × Nat => 0 < a.2.1.length ∧ a.2.1.length ≤ 1000 ∧ a.2.2 ≤ 100000000) (fun a => [pt a.1, lst K a.2.1]) (fun a => [(a.1, .dr a.2.2)]) (fun a A O' => A ∈ a.2.1 ∧ O' = [(a.1, .dr (a.2.2 + 4))])
theorem Go.pick {X : XK} (h : GoA L O t fun l O1 => ∃ d xs n R, l = [pt d, Sy.lst K xs] ∧ O1 = (d, .dr n) :: R ∧ (0 < xs.length ∧ xs.length ≤ 1000 ∧ n ≤ 100000000) ∧ ∀ A : As, A ∈ xs → k A ((d, .dr (n + 4)) :: R)) : Go L O (tCall (SpPick K) [] X t) k := Go.call (fun a x hx => by rw [List.mem_singleton.mp hx]; rfl) fun E G0 H0 σ G H Q f s z => h _ _ _ _ _ _ _ f s fun l O' G' H' vs q => z _ _ _ _ _ (by
    obtain ⟨d, xs, n, R, rfl, rfl, h1, h2⟩ := q
    refine ⟨(d, xs, n), R, rfl, rfl, h1, ?_⟩
    rintro A O2 ⟨i, rfl⟩
    exact h2 A i)
/-! what is owned, otherwise told -/
def FrLe (O O' : OO) : Prop := ∀ (E : List Addr) (G0 H0 G H : Hp), Fr E G0 H0 O G H → Fr E G0 H0 O' G H
theorem FrLe.refl (O : OO) : FrLe O O := fun _ _ _ _ _ f => f
theorem FrLe.trans {O1 O2 O3 : OO} (a : FrLe O1 O2) (b : FrLe O2 O3) : FrLe O1 O3 := fun _ _ _ _ _ f => b _ _ _ _ _ (a _ _ _ _ _ f)
theorem FrLe.perm {O O' : OO} (p : O.Perm O') : FrLe O O' := fun E G0 H0 G H f => ⟨f.gg, f.gh, f.hh, f.hn, f.fr, fun x hx => f.ow x (p.mem_iff.mpr hx), (p.map _).nodup_iff.mp f.nd⟩
theorem FrLe.up {d : Addr} {n m : Nat} (R : OO) (h : n ≤ m) : FrLe ((d, .dr n) :: R) ((d, .dr m) :: R) := fun E G0 H0 G H f => f.head (fun z => z) fun o => Dr.mono o h
theorem FrLe.drop {x : Addr × OC} (R : OO) : FrLe (x :: R) R := fun E G0 H0 G H f => ⟨f.gg, f.gh, f.hh, f.hn, f.fr, fun y hy => f.ow y (List.mem_cons_of_mem _ hy), (List.nodup_cons.mp f.nd).2⟩
theorem GoS.le {O O' : OO} {t : TS} {k : Es} (e : FrLe O O') (h : GoS L O' t k) : GoS L O t k := fun E G0 H0 σ G H D f s z => h _ _ _ _ _ _ _ (e _ _ _ _ _ f) s z
theorem GoS.post {O : OO} {t : TS} {k : Es} (h : GoS L O t { k with nx := fun L' O' => ∃ O2, FrLe O' O2 ∧ k.nx L' O2 }) : GoS L O t k := fun E G0 H0 σ G H D f s e => h _ _ _ _ _ _ _ f s ⟨fun L O σ G H q f z s => by
    obtain ⟨O2, h1, h2⟩ := q
    exact e.nx _ _ _ _ _ h2 (h1 _ _ _ _ _ f) z s, e.rt, e.bk, e.ct⟩
def Hold (p : Prop) : Prop := p
theorem Hold.mk {p : Prop} (h : Hold p) : p := h
theorem GoS.mono {O : OO} {t : TS} {k : Es} (N : LL → OO → Prop) (h : GoS L O t { k with nx := N }) (n : ∀ L O, N L O → k.nx L O) : GoS L O t k := h.imp n (fun _ _ x => x) (fun _ _ x => x) fun _ _ x => x
theorem Go.le {te : TE} (h : Go L O te fun A O1 => ∃ O2, FrLe O1 O2 ∧ k A O2) : Go L O te k := fun E G0 H0 σ G H Q f s z => h _ _ _ _ _ _ _ f s fun A O1 G1 H1 v q f1 s1 a => by
    obtain ⟨O2, h1, h2⟩ := q
    exact z _ _ _ _ _ h2 (h1 _ _ _ _ _ f1) s1 a
/-- a call by keywords in the parameters' order -/
theorem Go.callK1 {α : Type} {pre : α → Prop} {as : α → List As} {r : α → As} {X : XK} {tk : TA}
    (h : GoA L O tk fun l O1 => ∃ a, l = as a ∧ pre a ∧ k (r a) O1) : Go L O (tCallK (SpP pre as r) (fun vs zs => vs ++ zs) X tNil tk) k := fun E G0 H0 σ G H Q f s z => by
  have e := Go.callP (r := r) (X := X) (pre := pre) (as := as) h E G0 H0 σ G H Q f s z
  have e2 : ∀ vs : List V, vs ++ [] = [] ++ vs := fun vs => by simp
  unfold tCall at e
  simp only [e2] at e
  exact e
/-- a value that is no text -/
def OddA (K : PySem.W.Frag) (U : String) (A : As) : Prop := ∃ T, kitB T U = some false ∧ ∀ (O : OO), TyXA K A O (.type T)
theorem v_isiOdd {A : As} {U : String} (h : OddA K U A) (q : k (bo false) O) : Vn O (rIsi K) [A, cst (.ty U)] k := by
  obtain ⟨T, h1, h2⟩ := h
  exact v_isi (h2 O) h1 q
theorem odd_s_n : OddA K "str" no := ⟨"NoneType", by decide +kernel, fun _ => tx_n⟩
theorem odd_s_i {i : Int} : OddA K "str" (it i) := ⟨"int", by decide +kernel, fun _ => tx_i⟩
theorem odd_s_b {i : Bool} : OddA K "str" (bo i) := ⟨"bool", by decide +kernel, fun _ => tx_b⟩
theorem odd_s_l {xs : List As} : OddA K "str" (lst K xs) := ⟨"list", by decide +kernel, fun _ => tx_l⟩
theorem odd_s_t {xs : List As} : OddA K "str" (tup K xs) := ⟨"tuple", by decide +kernel, fun _ => tx_t⟩
theorem odd_s_d {kvs : List (Key × As)} : OddA K "str" (dct kvs) := ⟨"dict", by decide +kernel, fun _ => tx_d⟩
/-! numbers in figures -/
theorem numS_len {i : Int} (h0 : 0 ≤ i) (h1 : i < 1000000000000) : (numS i).length ≤ 12 := by
  obtain ⟨n, rfl⟩ := Int.eq_ofNat_of_zero_le h0
  rw [show numS (n : Int) = TL.numL n from TL.tl_num n]
  exact TL.numL_len (k := 12) (by decide) (by omega)
theorem nl1 {i : Int} {l : List Nat} (h0 : 0 ≤ i) (h1 : i < 1000000000000) (h : l.length ≤ 1000) : (numS i).length + l.length ≤ 100000 := by have := numS_len h0 h1; omega
theorem nl2 {i : Int} {l : List Nat} (h0 : 0 ≤ i) (h1 : i < 1000000000000) (h : l.length ≤ 1000) : l.length + (numS i).length ≤ 100000 := by have := numS_len h0 h1; omega
theorem nl3 {i : Int} {l m : List Nat} (h0 : 0 ≤ i) (h1 : i < 1000000000000) (h : l.length ≤ 1000) (h' : m.length ≤ 1000) : (l ++ numS i).length + m.length ≤ 100000 := by have := numS_len h0 h1; rw [List.length_append]; omega
theorem v_strN {i : Int} (h0 : 0 ≤ i) (h1 : i < 1000000000000) (q : k (tx (numS i)) O) : Vn O (fun xs H Q => ∃ i, xs = [.int i] ∧ i.natAbs.log2 < 1920 ∧ Q (.str (toString i)) H) [it i] k := v_strI (by
  by_cases z : i.natAbs = 0
  · rw [z]; decide
  · refine (Nat.log2_lt z).mpr (Nat.lt_of_lt_of_le (show i.natAbs < 2 ^ 40 by omega) (Nat.pow_le_pow_right (by decide) (by decide)))) q
/-! small and great letters, by the library's own tables -/
def lowL (a : List Nat) : List Nat := (Txt.lower (S a)).cps.toList
def upL (a : List Nat) : List Nat := (Txt.upper (S a)).cps.toList
theorem S_eta (x : Str) : S x.cps.toList = x := by simp [S]
theorem v_lower {a : List Nat} (h : a.length ≤ 100000) (q : k (tx (lowL a)) O) : Vm O (fun x xs H Q => ∃ a, x = .str a ∧ xs = [] ∧ a.length ≤ 5592405 ∧ Q (.str (Txt.lower a)) H) (tx a) [] k := Vm.sc0 (z := .str (S (lowL a))) (fun _ _ q => ⟨_, rfl, rfl, by rw [S_len]; omega, by rw [← S_eta (Txt.lower (S a))]; exact q⟩) q
theorem v_upper {a : List Nat} (h : a.length ≤ 100000) (q : k (tx (upL a)) O) : Vm O (fun x xs H Q => ∃ a, x = .str a ∧ xs = [] ∧ a.length ≤ 5592405 ∧ Q (.str (Txt.upper a)) H) (tx a) [] k := Vm.sc0 (z := .str (S (upL a))) (fun _ _ q => ⟨_, rfl, rfl, by rw [S_len]; omega, by rw [← S_eta (Txt.upper (S a))]; exact q⟩) q
end
section
variable {K : PySem.W.Frag}
def IsD (K : PySem.W.Frag) (A : As) (d : PyData) : Prop := ∀ G v, A.p G v → Dp K G v d
theorem all2_dp {G : Hp} : ∀ {xs : List As} {vs : List V} {d : PyData}, All2 G xs vs → (∀ A ∈ xs, IsD K A d) → DpAll K G vs (List.replicate xs.length d)
  | _, _, _, .nil, _ => .nil
  | _, _, _, .cons a r, h => .cons (h _ List.mem_cons_self _ _ a) (all2_dp r fun A hA => h A (List.mem_cons_of_mem _ hA))
theorem isD_no : IsD K no .none := fun G v h => by rw [show v = V.non from h]; exact .non
theorem isD_rep {n : Nat} {A : As} {d : PyData} (h : IsD K A d) : IsD K (lst K (List.replicate n A)) (.list (List.replicate n d)) := fun G v z => by
  obtain ⟨a, vs, rfl, h1, h2⟩ := z
  have := all2_dp (K := K) (d := d) h2 fun B hB => by rw [(List.mem_replicate.mp hB).2]; exact h
  rw [List.length_replicate] at this
  exact .lst (SqL.of h1) this
theorem v_eqD {O : OO} {k : As → OO → Prop} {A B : As} {d e : PyData} (h1 : IsD K A d) (h2 : IsD K B e) (s1 : SeqAt.shaped d = true) (s2 : SeqAt.shaped e = true) (q : k (bo (PyData.eqv d e)) O) : V2 O (rEqD K) A B k := fun E G0 H0 G H Q x y f a b zz =>
  ⟨d, e, Dp.mono f.gh _ _ (h1 _ _ a), Dp.mono f.gh _ _ (h2 _ _ b), s1, s2, zz _ _ _ _ _ q f (Same.refl _) rfl⟩
theorem all2_rep {G : Hp} {xs : List As} {vs : List V} (h : All2 G xs vs) : ∀ n : Nat, All2 G (List.replicate n xs).flatten (List.replicate n vs).flatten
  | 0 => .nil
  | n + 1 => by
    rw [List.replicate_succ, List.replicate_succ, List.flatten_cons, List.flatten_cons]
    exact h.app (all2_rep h n)
theorem v_rep {O : OO} {k : As → OO → Prop} {xs : List As} {n : Nat} (hz : xs.length * n ≤ 100000) (hn : n ≤ 100000) (q : k (lst K (List.replicate n xs).flatten) O) : V2 O rRep (lst K xs) (cst (.int (n : Int))) k := fun E G0 H0 G H Q x y f a b zz => by
  obtain ⟨p, vs, rfl, h1, h2⟩ := a
  obtain rfl : y = .int (n : Int) := b
  refine ⟨p, _, vs, rfl, rfl, f.gh _ _ h1, by omega, by omega, ?_, fun D nD => ?_⟩
  · rw [h2.len, Int.toNat_natCast]; exact Nat.le_trans hz (by decide)
  have ex := Ext.new (o := .lst (List.replicate n vs).flatten) f.gh nD
  exact zz _ _ _ _ _ q (f.ext ex) ex.g ⟨D, _, rfl, upd_same, (all2_rep h2 n).m ex.g⟩
theorem GoS.forE {L : LL} {O : OO} {wi : TI} {g : TG} {tb : TS} {k : Es} (vs : List Nat)
    (h : GoI L O wi fun xs O1 => ∃ (L9 : LL) (P : Nat → OO → Prop), wipeL L vs = L9 ∧ P 0 O1 ∧
      (∀ i A O', xs[i]? = some A → P i O' → GoG L9 A g fun L2 => GoS L2 O' tb { k with nx := fun L' O'' => wipeL L' vs = L9 ∧ P (i + 1) O'', ct := fun L' O'' => wipeL L' vs = L9 ∧ P (i + 1) O'', bk := k.nx }) ∧
      (∀ O', P xs.length O' → k.nx L9 O')) (hk : ∀ L' O', k.nx (wipeL L' vs) O' → k.nx L' O') : GoS L O (tFor wi g tb) k := GoS.for fun E G0 H0 σ G H R fr s z => h _ _ _ _ _ _ _ fr s fun xs O1 G1 H1 J e => z _ _ _ _ _ (by
    obtain ⟨L9, P, rfl, p0, h1, h2⟩ := e
    refine ⟨fun i L' O' => wipeL L' vs = wipeL L vs ∧ P i O', ⟨rfl, p0⟩, fun i A L' O' hA ⟨es, p⟩ => ?_, fun L' O' ⟨es, p⟩ => hk _ _ (by rw [es]; exact h2 O' p)⟩
    refine fun σ G H Q x sm sl a z => h1 i A O' hA p _ _ _ _ _ sm (es ▸ sl.forgets vs) a z)
inductive Keep (p : Prop) : Prop
  | mk (h : p)
  | mk2 (h : p)
theorem Keep.out {p : Prop} (h : Keep p) : p := by
  cases h with
  | mk h => exact h
  | mk2 h => exact h
theorem FrLe.drop2 {x y : Addr × OC} {R : OO} : FrLe (x :: y :: R) (x :: R) := (FrLe.perm (List.Perm.swap y x R)).trans (FrLe.drop _)
theorem enA_at {K : PySem.W.Frag} {xs : List As} {i : Nat} {A : As} (h : (enA K xs)[i]? = some A) : ∃ B, xs[i]? = some B ∧ A = tup K [it i, B] := by
  unfold enA at h
  rw [List.getElem?_map] at h
  obtain ⟨⟨p1, p2⟩, hp, rfl⟩ := Option.map_eq_some_iff.mp h
  obtain ⟨h1, h2⟩ := List.getElem?_zip_eq_some.mp hp
  refine ⟨p2, h2, ?_⟩
  unfold nums at h1
  rw [List.getElem?_map] at h1
  obtain ⟨j, hj, rfl⟩ := Option.map_eq_some_iff.mp h1
  have := (List.getElem?_eq_some_iff.mp hj).2
  rw [List.getElem_range] at this
  rw [← this]
theorem enA_len {K : PySem.W.Frag} {xs : List As} : (enA K xs).length = xs.length := by
  unfold enA nums
  simp
theorem all2_it {G : Hp} : ∀ ns : List Int, All2 G (ns.map it) (ns.map V.int)
  | [] => .nil
  | _ :: r => .cons rfl (all2_it r)
end
end Sy

/-! ### more rules: while, divmod, zfill, find, index, order of tuples -/
section
variable {X : Cx} {K : PySem.W.Frag}
theorem kIndex (h : X.K = K) : MtR X "list.index" (rIndex K) := by subst h; exact mt_index
/-- two of one kind: both numbers, or both texts -/
def kinV : V → V → Bool
  | .int _, .int _ => true
  | .str _, .str _ => true
  | _, _ => false
def ltV : V → V → Bool
  | .int i, .int j => decide (i < j)
  | .str a, .str b => decide (a.cps.toList < b.cps.toList)
  | _, _ => false
theorem rc_ltV {A : Around} {s : Shared} {x y : V} {u v : Value} (rx : RelV x u) (ry : RelV y v) (h : kinV x y = true) : Ob.RcOp .Lt A s u v (ltV x y) := by
  cases x with
  | int i =>
    cases y with
    | int j =>
      obtain ⟨t, rfl⟩ := rx
      obtain ⟨t', rfl⟩ := ry
      exact Ob.RcOp.lt_int _ _ _ _
    | _ => cases h
  | str a =>
    cases y with
    | str b =>
      obtain ⟨t, rfl⟩ := rx
      obtain ⟨t', rfl⟩ := ry
      exact fun _ _ _ _ h => PyProof.Rows.lt_str h
    | _ => cases h
  | _ => cases h
theorem rc_geV {A : Around} {s : Shared} {x y : V} {u v : Value} (rx : RelV x u) (ry : RelV y v) (h : kinV x y = true) : Ob.RcOp .GtE A s u v (!ltV x y) := by
  cases x with
  | int i =>
    cases y with
    | int j =>
      obtain ⟨t, rfl⟩ := rx
      obtain ⟨t', rfl⟩ := ry
      have e : (!ltV (.int i) (.int j)) = decide (j ≤ i) := by
        show (!decide (i < j)) = _
        rw [← decide_not]
        exact decide_eq_decide.mpr Int.not_lt
      rw [e]
      exact Ob.RcOp.ge_int _ _ _ _
    | _ => cases h
  | str a =>
    cases y with
    | str b =>
      obtain ⟨t, rfl⟩ := rx
      obtain ⟨t', rfl⟩ := ry
      exact fun _ _ _ _ h => PySem.P.ge_str h
    | _ => cases h
  | _ => cases h
def rOrdT (K : PySem.W.Frag) (neg : Bool) : R2 := fun x y H Q => ∃ a b xs ys, x = .ref a ∧ y = .ref b ∧ SqT K H a xs ∧ SqT K H b ys ∧ xs.length = ys.length ∧
  (∀ j, j < xs.length → kinV (xs.getD j .non) (ys.getD j .non) = true) ∧ Q (.bl (Ob.lexAt (fun j => eqV (xs.getD j .non) (ys.getD j .non)) (fun j => if neg = true then !ltV (xs.getD j .non) (ys.getD j .non) else ltV (xs.getD j .non) (ys.getD j .non)) neg 0 xs.length)) H
theorem vals_at : ∀ {xs : List V} {us : List Value}, Vals xs us → ∀ j (h : j < us.toArray.size), RelV (xs.getD j .non) us.toArray[j]
  | _, _, .cons r1 r2, j, h => by
    cases j with
    | zero => exact r1
    | succ j =>
      have := vals_at r2 j (by simp at h ⊢; omega)
      simpa using this
theorem kin_flat {x y : V} (h : kinV x y = true) : flatV x = true ∧ flatV y = true := by
  cases x <;> cases y <;> first | exact ⟨rfl, rfl⟩ | cases h
theorem tc_lt (h : X.K = K) (hu : X.A.units + 64 < cLine) : OpR X (compareOp .Lt) (rOrdT K false) := by
  subst h
  intro pins s σ H x y v u Q I rx ry h
  obtain ⟨a, b, xs, ys, rfl, rfl, ha, hb, hl, hk, q⟩ := h
  cases rx
  cases ry
  obtain ⟨its, r1, p1, _⟩ := I.tuple ha
  obtain ⟨its2, r2, p2, _⟩ := I.tuple hb
  have l1 : its.toArray.size = xs.length := by rw [List.size_toArray]; exact r1.length.symm
  have l2 : its2.toArray.size = ys.length := by rw [List.size_toArray]; exact r2.length.symm
  refine Ob.RcOp.tuples_lt (A := X.A) (s := s) (e := fun j => eqV (xs.getD j .non) (ys.getD j .non)) (r := fun j => ltV (xs.getD j .non) (ys.getD j .non)) p1 p2 (by omega) (fun j h1 h2 => ?_) (fun j h1 h2 _ => ?_) _ _ _ _ ?_
  · have hf := kin_flat (hk j (by omega))
    exact eqAt_V (vals_at r1 j h1) (vals_at r2 j h2) hf.1 hf.2
  · exact rc_ltV (vals_at r1 j h1) (vals_at r2 j h2) (hk j (by omega))
  · rw [l1, l2, hl, Nat.min_self, decide_eq_false (Nat.lt_irrefl _), ← hl]
    exact ⟨.bl _, H, I, rfl, q⟩
theorem tc_ge (h : X.K = K) (hu : X.A.units + 64 < cLine) : OpR X (compareOp .GtE) (rOrdT K true) := by
  subst h
  intro pins s σ H x y v u Q I rx ry h
  obtain ⟨a, b, xs, ys, rfl, rfl, ha, hb, hl, hk, q⟩ := h
  cases rx
  cases ry
  obtain ⟨its, r1, p1, _⟩ := I.tuple ha
  obtain ⟨its2, r2, p2, _⟩ := I.tuple hb
  have l1 : its.toArray.size = xs.length := by rw [List.size_toArray]; exact r1.length.symm
  have l2 : its2.toArray.size = ys.length := by rw [List.size_toArray]; exact r2.length.symm
  refine Ob.RcOp.tuples_ge (A := X.A) (s := s) (e := fun j => eqV (xs.getD j .non) (ys.getD j .non)) (r := fun j => !ltV (xs.getD j .non) (ys.getD j .non)) p1 p2 (by omega) (fun j h1 h2 => ?_) (fun j h1 h2 _ => ?_) _ _ _ _ ?_
  · have hf := kin_flat (hk j (by omega))
    exact eqAt_V (vals_at r1 j h1) (vals_at r2 j h2) hf.1 hf.2
  · exact rc_geV (vals_at r1 j h1) (vals_at r2 j h2) (hk j (by omega))
  · rw [l1, l2, hl, Nat.min_self, decide_eq_true (Nat.le_refl _), ← hl]
    exact ⟨.bl _, H, I, rfl, q⟩
end
namespace Sy
open PySem PySem.Spec PyProof.Rows L2
open SX (S S_len S_cat S_inj)
section
variable {K : PySem.W.Frag} {L : LL} {O : OO} {k : As → OO → Prop}
/-- while: J tells, with what is left to do -/
theorem GoS.whl {tt : TT} {tb : TS} {k : Es} (J : Nat → LL → OO → Prop) (h0 : ∃ m, J m L O)
    (hs : ∀ m L' O', J m L' O' → GoT L' O' tt fun b O2 => (b = true → GoS L' O2 tb { k with nx := fun L2 O3 => ∃ m', m' < m ∧ J m' L2 O3, ct := fun L2 O3 => ∃ m', m' < m ∧ J m' L2 O3, bk := k.nx }) ∧ (b = false → k.nx L' O2)) : GoS L O (tWhile tt tb) k := fun E G0 H0 σ G H D f s e => by
  obtain ⟨m0, h0⟩ := h0
  refine ⟨fun m σ' H' => ∃ L' O' G', J m L' O' ∧ Fr E G0 H0 O' G' H' ∧ Same G G' ∧ Slots G' L' σ', ⟨m0, L, O, G, h0, f, Same.refl _, s⟩, fun m σ' H' ⟨L', O', G', j, f', z, s'⟩ => hs m L' O' j _ _ _ _ _ _ _ f' s' fun b O2 G2 H2 q f2 s2 => ?_⟩
  cases b with
  | true =>
    rw [if_pos rfl]
    refine ⟨fun σ'' H'' => ∃ m', m' < m ∧ ∃ L' O' G', J m' L' O' ∧ Fr E G0 H0 O' G' H'' ∧ Same G G' ∧ Slots G' L' σ'', fun _ _ h => h, q.1 rfl _ _ _ _ _ _ _ f2 (s'.m s2) ⟨?_, ?_, ?_, ?_⟩⟩
    · exact fun L O σ G H ⟨m', hm, j'⟩ f3 s3 sl => ⟨m', hm, L, O, G, j', f3, (z.trans s2).trans s3, sl⟩
    · exact fun A O G H v q f3 s3 a => e.rt _ _ _ _ _ q f3 ((z.trans s2).trans s3) a
    · exact fun L O σ G H q f3 s3 sl => e.nx _ _ _ _ _ q f3 ((z.trans s2).trans s3) sl
    · exact fun L O σ G H ⟨m', hm, j'⟩ f3 s3 sl => ⟨m', hm, L, O, G, j', f3, (z.trans s2).trans s3, sl⟩
  | false =>
    rw [if_neg Bool.false_ne_true]
    exact e.nx _ _ _ _ _ (q.2 rfl) f2 (z.trans s2) (s'.m s2)
theorem v_divmod {i j : Int} (h : 0 < j ∧ j < 1073741824) (q : k (tup K [it (i / j), it (i % j)]) O) : Vn O (fun xs H Q => ∃ i j, xs = [.int i, .int j] ∧ CDiv i j ∧ ∀ p, H p = none → Q (.ref p) (upd H p (.tup [.int (i / j), .int (i % j)]))) [it i, it j] k := fun E G0 H0 G H Q xs f a zz => by
  cases a with
  | cons a r =>
    cases r with
    | cons b r =>
      cases r
      obtain rfl := (show _ = V.int i from a)
      obtain rfl := (show _ = V.int j from b)
      refine ⟨i, j, rfl, h, fun p np => ?_⟩
      have e := Ext.new (o := .tup [.int (i / j), .int (i % j)]) f.gh np
      exact zz _ _ _ _ _ q (f.ext e) e.g ⟨p, _, rfl, .inl (.inl upd_same), .cons rfl (.cons rfl .nil)⟩
def zfL (a : List Nat) (i : Int) : List Nat := (Txt.zfill (S a) i).cps.toList
theorem v_zfill {a : List Nat} {i : Int} (h : PadOk i = true) (q : k (tx (zfL a i)) O) : Vm O (fun x xs H Q => ∃ (a : Str) (i : Int), x = .str a ∧ xs = [.int i] ∧ PadOk i = true ∧ Q (.str (Txt.zfill a i)) H) (tx a) [it i] k :=
  Vm.sc1 (z := .str (S (zfL a i))) (fun _ _ q => ⟨_, _, rfl, rfl, h, by rw [← S_eta (Txt.zfill (S a) i)]; exact q⟩) q
theorem v_find {a b : List Nat} (q : k (it (Txt.find (S a) (S b))) O) : Vm O (fun x xs H Q => ∃ a b, x = .str a ∧ xs = [.str b] ∧ Q (.int (Txt.find a b)) H) (tx a) [tx b] k := Vm.sc1 (z := .int (Txt.find (S a) (S b))) (fun _ _ q => ⟨_, _, rfl, rfl, q⟩) q
theorem v_lidxS {n : List Nat} {ws : List (List Nat)} (h : n ∈ ws) (q : k (it (ws.idxOf n : Int)) O) : Vm O (rIndex K) (lst K (ws.map tx)) [tx n] k := fun E G0 H0 G H Q x vs f a b zz => by
  cases b with
  | cons b r =>
    cases r
    obtain rfl := (show _ = V.str (S n) from b)
    obtain ⟨p, us, rfl, h1, h2⟩ := a
    have e := h2.strs
    subst e
    obtain ⟨g1, g2⟩ := idx_at h
    refine ⟨p, (ws.map S).map V.str, .str (S n), ws.idxOf n, .str (S n), rfl, rfl, SqL.of (f.gh _ _ h1), rfl, ?_, ?_, ?_, fun m z' hm z => ?_, zz _ _ _ _ _ q f (Same.refl _) rfl⟩
    · rw [List.map_map]; exact flat_map (fun _ => rfl) _
    · rw [List.getElem?_map, List.getElem?_map, g1]; rfl
    · exact beq_self_eq_true (S n)
    · rw [List.getElem?_map, List.getElem?_map] at z
      cases hq : ws[m]? with
      | none => rw [hq] at z; cases z
      | some y =>
        rw [hq] at z
        obtain rfl : V.str (S y) = z' := Option.some.inj z
        refine beq_eq_false_iff_ne.mpr fun w => g2 m hm ?_
        rw [hq, S_inj w]
theorem v_ixLS {ws : List (List Nat)} {i : Int} {n : Nat} {w : List Nat} (hi : i = (n : Int)) (h : ws[n]? = some w) (q : k (tx w) O) : V2 O (rIxL K) (lst K (ws.map tx)) (it i) k := by
  subst hi
  exact v_ixL (A := tx w) (atI_nat (by rw [List.getElem?_map, h]; rfl)) q
theorem v_ixTS {ws : List (List Nat)} {i : Int} {n : Nat} {w : List Nat} (hi : i = (n : Int)) (h : ws[n]? = some w) (q : k (tx w) O) : V2 O (rIxT K) (tup K (ws.map tx)) (it i) k := by
  subst hi
  exact v_ixT (A := tx w) (atI_nat (by rw [List.getElem?_map, h]; rfl)) q
theorem v_slT {xs : List As} {lo hi : Option Int} (q : k (tup K (Cj.cut xs lo hi)) O) : Vs O (rSlA K) (tup K xs) lo hi k := fun E G0 H0 G H Q x f a zz => by
  obtain ⟨p, ws, rfl, h1, h2⟩ := a
  refine ⟨p, ws, rfl, SqT.mono f.gh h1, fun hw => ?_, fun _ D nD => ?_⟩
  · refine zz _ _ _ _ _ q f (Same.refl _) ⟨p, ws, rfl, h1, ?_⟩
    have := h2.cut lo hi
    rw [show cutV ws lo hi = ws by unfold cutV; rw [hw.1, hw.2]; simp] at this
    exact this
  · have ex := Ext.new (o := .tup (cutV ws lo hi)) f.gh nD
    exact zz _ _ _ _ _ q (f.ext ex) ex.g ⟨D, _, rfl, .inl (.inl upd_same), (h2.cut lo hi).m ex.g⟩
theorem v_neD {A B : As} {d e : PyData} (h1 : IsD K A d) (h2 : IsD K B e) (s1 : SeqAt.shaped d = true) (s2 : SeqAt.shaped e = true) (q : k (bo (!PyData.eqv d e)) O) : V2 O (rNeD K) A B k := fun E G0 H0 G H Q x y f a b zz =>
  ⟨d, e, Dp.mono f.gh _ _ (h1 _ _ a), Dp.mono f.gh _ _ (h2 _ _ b), s1, s2, zz _ _ _ _ _ q f (Same.refl _) rfl⟩
theorem isD_it {i : Int} : IsD K (it i) (.int i) := fun G v h => by rw [show v = V.int i from h]; exact .int _
theorem isD_tx {l : List Nat} : IsD K (tx l) (.str (S l)) := fun G v h => by rw [show v = V.str (S l) from h]; exact .str _
inductive IsDs (K : PySem.W.Frag) : List As → List PyData → Prop
  | nil : IsDs K [] []
  | cons {A : As} {d : PyData} {xs : List As} {ds : List PyData} : IsD K A d → IsDs K xs ds → IsDs K (A :: xs) (d :: ds)
theorem IsDs.all {G : Hp} : ∀ {xs : List As} {ds : List PyData} {vs : List V}, IsDs K xs ds → All2 G xs vs → DpAll K G vs ds
  | _, _, _, .nil, .nil => .nil
  | _, _, _, .cons h t, .cons a r => .cons (h _ _ a) (IsDs.all t r)
theorem isD_tup {xs : List As} {ds : List PyData} (h : IsDs K xs ds) : IsD K (tup K xs) (.tuple ds) := fun G v z => by
  obtain ⟨a, vs, rfl, h1, h2⟩ := z
  exact .tup h1 (h.all h2)
theorem isD_lst {xs : List As} {ds : List PyData} (h : IsDs K xs ds) : IsD K (lst K xs) (.list ds) := fun G v z => by
  obtain ⟨a, vs, rfl, h1, h2⟩ := z
  exact .lst (SqL.of h1) (h.all h2)
theorem joinL_len {s : List Nat} : ∀ {ws : List (List Nat)}, (TL.joinL s ws).length ≤ (ws.map (·.length)).sum + ws.length * s.length
  | [] => Nat.zero_le _
  | [w] => by
    show w.length ≤ _
    simp
  | w :: v :: r => by
    show (w ++ (s ++ TL.joinL s (v :: r))).length ≤ _
    have := joinL_len (s := s) (ws := v :: r)
    rw [List.length_append, List.length_append, List.map_cons, List.sum_cons, List.length_cons, Nat.succ_mul]
    omega
theorem take_step {α : Type} {l : List α} {i : Nat} {x : α} (h : l[i]? = some x) : l.take (i + 1) = l.take i ++ [x] := by
  rw [List.take_add_one, h]
  rfl
theorem strOk_S {l : List Nat} (h : l.all (fun c => decide (c < 1114112)) = true) : PyData.strOk (S l) = true := by
  unfold PyData.strOk S
  simpa using h
theorem v_eqSame {A B : As} {d : PyData} (h1 : IsD K A d) (h2 : IsD K B d) (s : SeqAt.shaped d = true) (q : k (bo true) O) : V2 O (rEqD K) A B k := v_eqD h1 h2 s s (by rw [SeqAt.eqv_refl _ (SeqAt.canLay_of_shaped s)]; exact q)
theorem v_neSame {A B : As} {d : PyData} (h1 : IsD K A d) (h2 : IsD K B d) (s : SeqAt.shaped d = true) (q : k (bo false) O) : V2 O (rNeD K) A B k := v_neD h1 h2 s s (by rw [SeqAt.eqv_refl _ (SeqAt.canLay_of_shaped s)]; exact q)
/-- the order of (number, number, number, text) -/
def keyLt (a b c : Int) (s : List Nat) (a' b' c' : Int) (s' : List Nat) : Bool :=
  if a = a' then if b = b' then if c = c' then if s = s' then false else decide (s < s') else decide (c < c') else decide (b < b') else decide (a < a')
theorem v_ordK {neg : Bool} {a b c : Int} {s : List Nat} {a' b' c' : Int} {s' : List Nat} (q : k (bo (if neg = true then !keyLt a b c s a' b' c' s' else keyLt a b c s a' b' c' s')) O) :
    V2 O (rOrdT K neg) (tup K [it a, it b, it c, tx s]) (tup K [it a', it b', it c', tx s']) k := fun E G0 H0 G H Q x y f h1 h2 zz => by
  obtain ⟨p, vs, rfl, p1, p2⟩ := h1
  obtain ⟨p', ws, rfl, q1, q2⟩ := h2
  obtain rfl : vs = [.int a, .int b, .int c, .str (S s)] := by
    cases p2 with | cons x r => cases r with | cons x2 r => cases r with | cons x3 r => cases r with | cons x4 r => cases r; rw [show _ = _ from x, show _ = _ from x2, show _ = _ from x3, show _ = _ from x4]
  obtain rfl : ws = [.int a', .int b', .int c', .str (S s')] := by
    cases q2 with | cons x r => cases r with | cons x2 r => cases r with | cons x3 r => cases r with | cons x4 r => cases r; rw [show _ = _ from x, show _ = _ from x2, show _ = _ from x3, show _ = _ from x4]
  refine ⟨p, p', _, _, rfl, rfl, SqT.mono f.gh p1, SqT.mono f.gh q1, rfl, fun j hj => ?_, ?_⟩
  · have : j = 0 ∨ j = 1 ∨ j = 2 ∨ j = 3 := by simp at hj; omega
    rcases this with rfl | rfl | rfl | rfl <;> rfl
  · refine zz _ _ _ _ _ q f (Same.refl _) ?_
    show V.bl _ = V.bl _
    congr 1
    show (if (a == a') = true then if (b == b') = true then if (c == c') = true then if (S s == S s') = true then neg else _ else _ else _ else _) = _
    have e : (S s == S s') = decide (s = s') := by
      by_cases z : s = s'
      · subst z; rw [decide_eq_true rfl]; exact beq_self_eq_true _
      · rw [decide_eq_false z]; exact beq_eq_false_iff_ne.mpr fun w => z (S_inj w)
    rw [e]
    unfold keyLt
    have lt : ltV (.str (S s)) (.str (S s')) = decide (s < s') := rfl
    by_cases h1 : a = a'
    · rw [if_pos (beq_iff_eq.mpr h1), if_pos h1]
      by_cases h2 : b = b'
      · rw [if_pos (beq_iff_eq.mpr h2), if_pos h2]
        by_cases h3 : c = c'
        · rw [if_pos (beq_iff_eq.mpr h3), if_pos h3]
          by_cases h4 : s = s'
          · rw [if_pos (decide_eq_true h4), if_pos h4]; cases neg <;> rfl
          · rw [if_neg (by rw [decide_eq_false h4]; exact Bool.false_ne_true), if_neg h4]
            show (if neg = true then !ltV (.str (S s)) (.str (S s')) else ltV (.str (S s)) (.str (S s'))) = _
            rw [lt]
        · rw [if_neg (fun z => h3 (beq_iff_eq.mp z)), if_neg h3]; rfl
      · rw [if_neg (fun z => h2 (beq_iff_eq.mp z)), if_neg h2]; rfl
    · rw [if_neg (fun z => h1 (beq_iff_eq.mp z)), if_neg h1]; rfl
end
end Sy
namespace Sy
open PySem PySem.Spec PyProof.Rows L2
theorem delL_get : ∀ (L : LL) (i j : Nat), (delL L i)[j]? = if j = i then (L[j]?).map (fun _ => none) else L[j]?
  | [], i, j => by simp [delL]
  | x :: L, 0, 0 => by simp [delL]
  | x :: L, 0, j + 1 => by simp [delL]
  | x :: L, i + 1, 0 => by simp [delL]
  | x :: L, i + 1, j + 1 => by
    have := delL_get L i j
    simpa [delL] using this
theorem wipeL_get (L : LL) (j : Nat) : ∀ vs : List Nat, (wipeL L vs)[j]? = if j ∈ vs then (L[j]?).map (fun _ => none) else L[j]?
  | [] => by simp [wipeL]
  | v :: vs => by
    have ih := wipeL_get L j vs
    show (delL (wipeL L vs) v)[j]? = _
    rw [delL_get, ih]
    by_cases h : j = v
    · subst h
      by_cases h2 : j ∈ vs
      · simp [h2]; cases L[j]? <;> rfl
      · simp [h2]
    · by_cases h2 : j ∈ vs <;> simp [h, h2]
theorem wipeL_sub (L : LL) {vs ws : List Nat} (h : ∀ v ∈ ws, v ∈ vs) : wipeL (wipeL L ws) vs = wipeL L vs := by
  refine List.ext_getElem? fun j => ?_
  rw [wipeL_get, wipeL_get, wipeL_get]
  by_cases h1 : j ∈ vs
  · rw [if_pos h1, if_pos h1]
    by_cases h2 : j ∈ ws
    · rw [if_pos h2]; cases L[j]? <;> rfl
    · rw [if_neg h2]
  · rw [if_neg h1, if_neg h1, if_neg fun z => h1 (h j z)]
/-- an inner loop's names are forgotten with the outer one's -/
theorem wipe_post {L' L9 : LL} {O' : OO} {vs ws : List Nat} {P : OO → Prop} (h : ∀ v ∈ ws, v ∈ vs) (q : ∃ O2, FrLe O' O2 ∧ wipeL (wipeL L' ws) vs = L9 ∧ P O2) : ∃ O2, FrLe O' O2 ∧ wipeL L' vs = L9 ∧ P O2 := by
  obtain ⟨O2, h1, h2, h3⟩ := q
  exact ⟨O2, h1, by rw [wipeL_sub L' h] at h2; exact h2, h3⟩
end Sy
namespace Sy
open PySem PySem.Spec PyProof.Rows L2
theorem setL_get : ∀ (L : LL) (i j : Nat) (A : As), j ≠ i → (setL L i A)[j]? = L[j]?
  | [], i, j, A, _ => by simp [setL]
  | x :: L, 0, 0, A, h => absurd rfl h
  | x :: L, 0, j + 1, A, _ => by simp [setL]
  | x :: L, i + 1, 0, A, _ => by simp [setL]
  | x :: L, i + 1, j + 1, A, h => by
    have := setL_get L i j A (fun z => h (by rw [z]))
    simpa [setL] using this
theorem setL_map : ∀ (L : LL) (i j : Nat) (A : As), ((setL L i A)[j]?).map (fun _ => (none : Option As)) = (L[j]?).map (fun _ => none)
  | [], i, j, A => by simp [setL]
  | x :: L, 0, 0, A => by simp [setL]
  | x :: L, 0, j + 1, A => by simp [setL]
  | x :: L, i + 1, 0, A => by simp [setL]
  | x :: L, i + 1, j + 1, A => by
    have := setL_map L i j A
    simpa [setL] using this
theorem wipeL_setL {L : LL} {i : Nat} {A : As} {vs : List Nat} (h : i ∈ vs) : wipeL (setL L i A) vs = wipeL L vs := by
  refine List.ext_getElem? fun j => ?_
  rw [wipeL_get, wipeL_get]
  by_cases h1 : j ∈ vs
  · rw [if_pos h1, if_pos h1, setL_map]
  · rw [if_neg h1, if_neg h1, setL_get _ _ _ _ (fun z : j = i => h1 (by rw [z]; exact h))]
end Sy
namespace Sy
open PySem PySem.Spec PyProof.Rows L2
open SX (S S_len S_cat S_inj)
section
variable {K : PySem.W.Frag} {L : LL} {O : OO} {k : As → OO → Prop}
theorem v_reprI {i : Int} (h0 : 0 ≤ i) (h1 : i < 1000000000000) (q : k (tx (numS i)) O) : Vn O (fun xs H Q => ∃ i, xs = [.int i] ∧ i.natAbs.log2 < 1920 ∧ Q (.str (toString i)) H) [it i] k := v_strN h0 h1 q
theorem ixn {n j : Nat} (hj : j < n) : ixN n (j : Int) = some j := by
  unfold ixN
  rw [if_pos (by omega), if_pos (by omega)]
  simp
theorem All2.erase {G : Hp} : ∀ {l : List As} {vs : List V} (n : Nat), All2 G l vs → All2 G (l.eraseIdx n) (vs.eraseIdx n)
  | _, _, _, .nil => .nil
  | _, _, 0, .cons _ t => t
  | _, _, n + 1, .cons h t => .cons h (All2.erase n t)
/-! owned lists, read -/
theorem v_neO {pre post : OO} {D : Addr} {xs : List As} (q : k (bo (!xs.isEmpty)) (pre ++ (D, .ol xs) :: post)) : V2 (pre ++ (D, .ol xs) :: post) (rNeE K) (pt D) (lst K []) k := fun E G0 H0 G H Q x y f a b zz => by
  obtain rfl : x = .ref D := a
  obtain ⟨p, vs, rfl, h1, h2⟩ := b
  cases h2
  obtain ⟨us, u1, u2⟩ := own_at f
  refine ⟨D, p, us, [], rfl, rfl, SqL.of u1, SqL.of (f.gh _ _ h1), .inr rfl, ?_⟩
  have e : (us.isEmpty && ([] : List V).isEmpty) = xs.isEmpty := by cases u2 <;> rfl
  rw [e]
  exact zz _ _ _ _ _ q f (Same.refl _) rfl
theorem v_popAt {pre post : OO} {D : Addr} {xs : List As} {i : Int} {n : Nat} {A : As} (hi : i = (n : Int)) (hn : n < 100000) (hA : xs[n]? = some A) (q : k A (pre ++ (D, .ol (xs.eraseIdx n)) :: post)) : Vm (pre ++ (D, .ol xs) :: post) rPopAt (pt D) [it i] k := fun E G0 H0 G H Q x vs f a b zz => by
  subst hi
  cases b with
  | cons b r =>
    cases r
    obtain rfl := (show _ = V.int (n : Int) from b)
    obtain rfl : x = .ref D := a
    obtain ⟨us, u1, u2⟩ := own_at f
    obtain ⟨v, hv, av⟩ := u2.at hA
    have hl := (List.getElem?_eq_some_iff.mp hv).1
    refine ⟨D, us, (n : Int), n, v, rfl, rfl, u1, by omega, by omega, ?_, hv, ?_⟩
    · exact (ixN_seq (ixn hl)).1
    · exact zz _ _ _ _ _ q (Fr.change f (fun z => z) ⟨us.eraseIdx n, upd_same, u2.erase n⟩) (Same.refl _) av
theorem v_lidxO {pre post : OO} {D : Addr} {ns : List Int} {i : Int} (h : i ∈ ns) (q : k (it (ns.idxOf i : Int)) (pre ++ (D, .ol (ns.map it)) :: post)) : Vm (pre ++ (D, .ol (ns.map it)) :: post) (rIndex K) (pt D) [it i] k := fun E G0 H0 G H Q x vs f a b zz => by
  cases b with
  | cons b r =>
    cases r
    obtain rfl := (show _ = V.int i from b)
    obtain rfl : x = .ref D := a
    obtain ⟨us, u1, u2⟩ := own_at f
    obtain rfl := All2.map.mp u2
    obtain ⟨g1, g2⟩ := idx_at h
    refine ⟨D, ns.map V.int, .int i, ns.idxOf i, .int i, rfl, rfl, SqL.of u1, rfl, flat_map (fun _ => rfl) _, ?_, beq_self_eq_true i, fun m z' hm z => ?_, zz _ _ _ _ _ q f (Same.refl _) rfl⟩
    · rw [List.getElem?_map, g1]; rfl
    · rw [List.getElem?_map] at z
      cases hq : ns[m]? with
      | none => rw [hq] at z; cases z
      | some y =>
        rw [hq] at z
        obtain rfl : V.int y = z' := Option.some.inj z
        exact beq_eq_false_iff_ne.mpr fun w => g2 m hm (by rw [hq, w])
/-! targets that store in what is owned -/
def GoGh (L : LL) (O : OO) (A : As) (g : TG) (k : LL → OO → Prop) : Prop :=
  ∀ (E : List Addr) (G0 H0 : Hp) (σ : L2.St) (G H : Hp) (Q : L2.St → Hp → Prop) (x : V), Fr E G0 H0 O G H → Slots G L σ → A.p G x → (∀ L' O' σ' G' H', k L' O' → Fr E G0 H0 O' G' H' → Same G G' → Slots G' L' σ' → Q σ' H') → g x σ H Q
def GoGhs (L : LL) (O : OO) (l : List As) (g : TGs) (k : LL → OO → Prop) : Prop :=
  ∀ (E : List Addr) (G0 H0 : Hp) (σ : L2.St) (G H : Hp) (Q : L2.St → Hp → Prop) (xs : List V), Fr E G0 H0 O G H → Slots G L σ → All2 G l xs → (∀ L' O' σ' G' H', k L' O' → Fr E G0 H0 O' G' H' → Same G G' → Slots G' L' σ' → Q σ' H') → g xs σ H Q
theorem GoS.asgH {k : Es} {te : TE} {g : TG} (h : Go L O te fun A O1 => GoGh L O1 A g k.nx) : GoS L O (tAsg te g) k := fun E G0 H0 σ G H D f s e =>
  h _ _ _ _ _ _ _ f s fun A O1 G1 H1 v q f1 s1 a => q _ _ _ _ _ _ _ _ f1 (s.m s1) a fun L' O' σ' G' H' hk f2 s2 sl => e.nx _ _ _ _ _ hk f2 (s1.trans s2) sl
theorem GoGhs.nil {k : LL → OO → Prop} (q : k L O) : GoGhs L O [] gNil k := fun E G0 H0 σ G H Q xs f s a z => by
  cases a
  exact ⟨rfl, z _ _ _ _ _ q f (Same.refl _) s⟩
theorem GoGhs.cons {A : As} {l : List As} {g : TG} {u : TGs} {k : LL → OO → Prop} (h : GoGh L O A g fun L' O' => GoGhs L' O' l u k) : GoGhs L O (A :: l) (gCons g u) k := fun E G0 H0 σ G H Q xs f s a z => by
  cases a with
  | cons a r => exact ⟨_, _, rfl, h _ _ _ _ _ _ _ _ f s a fun L' O' σ' G' H' q' f' s' sl => q' _ _ _ _ _ _ _ _ f' sl (r.m s') fun L2 O2 σ2 G2 H2 hk f2 s2 sl2 => z _ _ _ _ _ hk f2 (s'.trans s2) sl2⟩
theorem GoGh.tup {l : List As} {n : Nat} {u : TGs} {k : LL → OO → Prop} (hn : l.length = n) (h : GoGhs L O l u k) : GoGh L O (tup K l) (gTup K n u) k := fun E G0 H0 σ G H Q x f s a z => by
  obtain ⟨p, vs, rfl, h1, h2⟩ := a
  exact ⟨p, vs, rfl, SqT.mono f.gh h1, by rw [h2.len, hn], h _ _ _ _ _ _ _ _ f s h2 z⟩
theorem All2.setAt {G : Hp} {A : As} {v : V} (a : A.p G v) : ∀ {l : List As} {vs : List V} (n : Nat), All2 G l vs → All2 G (l.set n A) (vs.set n v)
  | _, _, _, .nil => .nil
  | _, _, 0, .cons _ t => .cons a t
  | _, _, n + 1, .cons h t => .cons h (All2.setAt a n t)
theorem GoGh.sub {to ti : TE} {A : As} {k : LL → OO → Prop} (h : Go L O to fun B O1 => Go L O1 ti fun C O2 => ∃ (D : Addr) (xs : List As) (pre post : OO) (n : Nat), B = pt D ∧ C = it (n : Int) ∧ O2 = pre ++ (D, .ol xs) :: post ∧ n < xs.length ∧ k L (pre ++ (D, .ol (xs.set n A)) :: post)) : GoGh L O A (gSub to ti rSetL) k := fun E G0 H0 σ G H Q x f s a z =>
  h _ _ _ _ _ _ _ f s fun B O1 G1 H1 v q f1 s1 b => q _ _ _ _ _ _ _ f1 (s.m s1) fun C O2 G2 H2 w q2 f2 s2 c => by
    obtain ⟨D, xs, pre, post, n, rfl, rfl, rfl, hn, hk⟩ := q2
    obtain ⟨us, u1, u2⟩ := own_at f2
    have hv : v = .ref D := b
    have hw : w = .int (n : Int) := c
    have hl := u2.len
    refine ⟨D, us, (n : Int), n, hv, hw, u1, ?_, z _ _ _ _ _ hk (Fr.change f2 (fun z => z) ⟨us.set n x, upd_same, u2.setAt (A.m (s1.trans s2) a) n⟩) (s1.trans s2) (s.m (s1.trans s2))⟩
    exact ixn (by omega)
end
end Sy

/-! ### defs called where no repr is under way (guards known): repr of data -/
section
/-- as FnOk, where the guards are known to be none -/
structure FnG (P : Program) (w : World) (K : PySem.W.Frag) (mg : Str → Option Value) (base : Heap) (CX : CXT) (k : Nat) (f : Addr) (fd : FuncData) (ps : List Str) (sp : Sp) : Prop where
  len : ∀ vs H Q E, sp vs H Q E → vs.length = ps.length
  go : ∀ (A : Around) (outer : List Env) (s : Shared) (H : Hp) (args : Args) (us : List Value) (vs : List V) (Q : VK) (E : XK), Room k A → A.guards = some [] → Env0 P w K mg base A outer s H → BindsTo s fd args (ps.zip us) →
    Vals vs us → sp vs H Q E → codeAny (model P w) A (.call (.ref f) args) (CR CX outer P w H s Q E) s
variable {P : Program} {w : World} {K : PySem.W.Frag} {mg : Str → Option Value} {base : Heap} {CX : CXT} {k j : Nat} {f : Addr} {fd : FuncData} {ps : List Str} {sp sp' : Sp}
theorem FnOk.toG (F : FnOk P w K mg base CX k f fd ps sp) : FnG P w K mg base CX k f fd ps sp := ⟨F.len, fun A outer s H args us vs Q E hr _ => F.run A outer s H args us vs Q E hr⟩
theorem FnG.imp (F : FnG P w K mg base CX k f fd ps sp) (h : ∀ vs H Q E, sp' vs H Q E → sp vs H Q E) : FnG P w K mg base CX k f fd ps sp' :=
  ⟨fun vs H Q E q => F.len vs H Q E (h _ _ _ _ q), fun A outer s H args us vs Q E hr hg he hb hv hs => F.go A outer s H args us vs Q E hr hg he hb hv (h _ _ _ _ hs)⟩
theorem Fun.okG {x qual : Str} {st : Stmt} {N : List Str} (F : Fun K x qual st f fd) (Sc : FnScope N ps (defScope st)) (len : ∀ vs H Q E, sp vs H Q E → vs.length = ps.length)
    (body : ∀ (cdv : Value) (A : Around) (outer : List Env) (s : Shared) (H : Hp) (vs : List V) (Q : VK) (E : XK), Room k (A.deeper (envOfC qual (defScope st) s.heap.objs.size f cdv)) → A.guards = some [] → sp vs H Q E →
      ∃ t, PSs (cxOf CX0 P w K mg base N qual (defScope st) f cdv A outer s H E).nox (defBody st) t ∧ t { nx := fun _ H' => Q .non H', rt := Q } (L2.start N vs) H) : FnG P w K mg base CX0 (k + 1) f fd ps sp := by
  obtain ⟨oc, od, kV, doc, pm, an, cdv, ct, osl, rfl, lk, hcd⟩ := F.ex
  refine ⟨len, fun A outer s H args us vs Q E hr hg e0 hb r hsp => ?_⟩
  have hl := len _ _ _ _ hsp
  refine StX.run_bnd lk hcd Sc hr e0 (G := fun xs H2 => xs = vs ∧ H2 = H) (fun A' Ex Q' h => ?_) (fun s2 H2 xs g hr' => ?_)
  · exact hb _ _ _ _ (h s H vs us e0 Un.refl rfl (fun _ _ z => z) r hl ⟨rfl, rfl⟩)
  · obtain ⟨rfl, rfl⟩ := g
    obtain ⟨t, ht, q⟩ := body cdv A outer s2 H2 xs Q E hr' hg hsp
    exact ⟨t, ht.nox, q⟩
end
section
variable {X : Cx} {CX : CXT} {k : Nat} {f : Addr} {fd : FuncData} {ps : List Str} {sp : Sp} {x : Str} {p pos : Pos} {e : Expr} {es : List Expr} {t : TA} {ds : List Value} {dvs : List V} {E : XK}
theorem run_fnG {pins : List (Addr × Obj)} {σ : L2.St} {H : Hp} {s : Shared} {Q : VK} {us : List Value} {vs : List V} (F : FnG X.prog X.w X.K X.mg X.base CX k f fd ps sp) (hr : Room k X.A) (gd : X.A.guards = some []) (hb : Binds X.K fd ps ds) (hd : Vals dvs ds) (hx : Passes CX X E)
    (I : Inv X pins σ H s) (r : Vals vs us) (h : sp (vs ++ dvs) H Q E) : wpAny (model X.prog X.w) X.A (PySem.call (.ref f) us) (EP X pins σ Q) X.xe s := by
  have hl := F.len _ _ _ _ h
  have rr := r.append hd
  refine wpAny_call (codeAny_mono (F.go X.A X.stack s H ⟨us, []⟩ (us ++ ds) (vs ++ dvs) Q E hr gd I.env0 (hb s us I.kIn (rr.length.symm.trans hl)) rr h) fun res s' hq => ?_)
  match res, hq with
  | .error u, hq => exact hx pins σ H s u s' I hq
  | .ok (.ret u), hq => exact I.after hq
  | .ok .next, hq => exact hq.elim
  | .ok .brk, hq => exact hq.elim
  | .ok .cont, hq => exact hq.elim
theorem pe_callG (F : FnG X.prog X.w X.K X.mg X.base CX k f fd ps sp) (hr : Room k X.A) (gd : X.A.guards = some []) (hg : Gl X x) (hm : X.mg x = some (.ref f)) (hk : PySem.W.keepIn X.K (.ref f) = true) (hb : Binds X.K fd ps ds) (hd : Vals dvs ds) (hx : Passes CX X E)
    (ha : PA X (e :: es) t) (hdb : (x == ("__debug__" : Str)) = false := by decide) (he : starEach (e :: es) X.env = (false, eval e X.env) :: starEach es X.env := by rfl) (hpl : (backTo pos (starEach es X.env)).any (·.1) = false := by rfl) :
    PE X (.Call (.Name x p) (e :: es) [] pos) (tCall sp dvs E t) := ⟨fun pins s σ H Q I h => wpAny_Call_Name_kw (ld_glob I hg hm (PySem.W.callWith_K (h₀ := X.base) I.ok.mod.kin hk (thn (ha.run pos pins s σ H _ I h) fun _ _ ⟨_, _, I1, r, q⟩ => ⟨I1.kIn, run_fnG F hr gd hb hd hx I1 r q⟩) he hpl) hdb)⟩
/-- repr of data -/
def rRepr (K : PySem.W.Frag) : List V → Hp → VK → Prop := fun xs H Q => ∃ (a : Addr) (d : PyData), xs = [.ref a] ∧ Dp K H (.ref a) d ∧ d.showable = true ∧ d.hasDict = false ∧ d.depth ≤ 60 ∧ d.shown.length ≤ sizeLine ∧ Q (.str d.shown) H
theorem call_reprD (K : PySem.W.Frag) (hK : X.K = K) (gd : X.A.guards = some []) (hu : X.A.units + 64 < cLine) : CallR X (.builtin "repr") (rRepr K) := by
  subst hK
  intro pins s σ H xs us Q I r h
  obtain ⟨a, d, rfl, hd, hs, hn, hp, hz, q⟩ := h
  obtain ⟨u, rfl, ru⟩ := vals1 r
  obtain rfl : u = .ref a := ru
  obtain ⟨as, rd⟩ := Dp.reads I d (.ref a) (.ref a) hd rfl
  refine PySem.repr_of_reads' rd hs (fun z => by rw [hn] at z; cases z) gd (by omega) (fun _ _ z => z) (fun h' u tk hk => ?_) hz
  exact ⟨.str d.shown, H, I.kept hk, ⟨u, rfl⟩, q⟩
end
section
theorem law_runG {P : Program} {w : World} {K : PySem.W.Frag} {mg mb : Str → Option Value} {CX : CXT} {k : Nat} {fa a : Addr} {fd : FuncData} {x : Str} {sp : Sp} {st : Shared} {vs : List Value} {ns : List Int}
    (KX : K.In st.heap) (n1 : st.heap.Ns mainGlobals mg) (n2 : st.heap.Ns builtinsNs mb) (bb : ∀ x : Str, x ≠ "__name__" → mb x = bootBuiltins x) (lim : st.heap.NoLimit) (gs : st.gens = #[])
    (ha : st.heap.get? a = some { cls := .type "list", data := .seq vs.toArray }) (hi : IntsAre vs ns) (hl : ns.length ≤ sizeLine) (hr : Room k callerA)
    (F : ∀ base : Heap, K.In base → base.Ns mainGlobals mg → FnG P w K mg base CX k fa fd [x] sp) (hbind : ∀ (s : Shared) (u : Value), BindsTo s fd ⟨[u], []⟩ [(x, u)])
    (hsp : ∀ H : Hp, Only H → SqL K H a (ns.map V.int) → sp [.ref a] H (fun v _ => v = .bl true) fun _ _ _ => False) (hCX : ∀ H e s', CX [] H st (fun _ _ _ => False) e s' → False) :
    codeAny (model P w) callerA (.call (.ref fa) ⟨[.ref a], []⟩) (fun r s' => r = .ok (.ret (.bool true)) ∧ OldK st.heap s'.heap ∧ s'.os = st.os ∧ AllBare s'.gens) st := by
  have lenV := hi.length
  have main : ∀ H : Hp, Only H → SqL K H a (ns.map V.int) → HOk P w H st.heap → (∀ b, H b ≠ none → b = a ∧ K.lookup a = none) →
      codeAny (model P w) callerA (.call (.ref fa) ⟨[.ref a], []⟩) (fun r s' => r = .ok (.ret (.bool true)) ∧ OldK st.heap s'.heap ∧ s'.os = st.os ∧ AllBare s'.gens) st := by
    intro H hO hS ok own
    have out : ∀ {b : Addr} {o : Obj}, st.heap.get? b = some o → b ≠ a → (hidT st.heap H).get? b = some o := fun {b o} e n => by
      refine hidT_get e ?_
      cases q : H b with
      | none => rfl
      | some u => exact absurd (own b (by rw [q]; simp)).1 n
    have names : ∀ {b : Addr} {m : Str → Option Value}, st.heap.Ns b m → (hidT st.heap H).Ns b m := by
      rintro b m ⟨o, es, ep, e, d, r⟩
      refine ⟨o, es, ep, out e fun z => ?_, d, r⟩
      subst z
      rw [ha] at e
      cases e
      cases d
    have kin : K.In (hidT st.heap H) := fun b o e => by
      cases q : H b with
      | none => exact hidT_get (KX b o e) q
      | some u =>
        obtain ⟨rfl, z⟩ := own b (by rw [q]; simp)
        rw [z] at e
        cases e
    obtain ⟨mc, c1, c2⟩ := lim
    have e0 : Env0 P w K mg (hidT st.heap H) callerA [] st H := ⟨rfl, ⟨kin, names n1, ⟨mb, names n2, bb⟩, mc, names c1, c2⟩, fun b o e => of_hidT e, Nat.le_of_eq (hidT_size _ _), trivial, (fun b z => nomatch z), ok, .of_eq gs⟩
    refine codeAny_mono ((F _ kin (names n1)).go callerA [] st H ⟨[.ref a], []⟩ [.ref a] [.ref a] _ _ hr rfl e0 (hbind st (.ref a)) (.cons rfl .nil) (hsp H hO hS)) fun res s' h => ?_
    match res, h with
    | .error e, h => exact (hCX H e s' h).elim
    | .ok .next, h => exact h.elim
    | .ok .brk, h => exact h.elim
    | .ok .cont, h => exact h.elim
    | .ok (.ret u), h =>
      obtain ⟨v, H', os, bare, un, ok', rv, q⟩ := h
      obtain rfl : v = .bl true := q
      obtain rfl : u = Value.bool true := rv
      refine ⟨rfl, OldK.of_keep fun b o e => ?_, os, bare⟩
      rcases hO b with z | ⟨ob, xs, z⟩
      · exact un.keep b o e z (fun y => nomatch y) (fun y => nomatch y)
      · obtain ⟨e1, _⟩ := ok b _ z
        obtain ⟨e2, _⟩ := ok' b _ (un.frzs b ob _ z)
        rw [e1] at e
        cases e
        exact e2
  have rv := vals_ints hi
  cases hk : K.lookup a with
  | some o =>
    have e := KX a o hk
    rw [ha] at e
    cases e
    exact main (fun _ => none) (fun _ => .inl rfl) (.inr ⟨_, vs.toArray, _, hk, rfl, rfl, rfl, by rw [List.size_toArray, lenV]; exact hl, by simpa using rv⟩) (fun b u z => nomatch (show (none : Option HO) = some u from z)) fun b z => absurd rfl z
  | none =>
    have at_a : ∀ b u, (if b = a then some (HO.frz { cls := .type "list", data := .seq vs.toArray } (.lst (ns.map V.int))) else none) = some u → b = a ∧ u = HO.frz { cls := .type "list", data := .seq vs.toArray } (.lst (ns.map V.int)) := fun b u z => by
      by_cases hb : b = a
      · rw [if_pos hb] at z
        exact ⟨hb, (Option.some.inj z).symm⟩
      · rw [if_neg hb] at z
        cases z
    refine main (fun b => if b = a then some (.frz { cls := .type "list", data := .seq vs.toArray } (.lst (ns.map V.int))) else none) (fun b => ?_) (.inl (.inr ⟨{ cls := .type "list", data := .seq vs.toArray }, if_pos rfl⟩)) (fun b u z => ?_) (fun b z => ⟨?_, hk⟩)
    · by_cases hb : b = a
      · exact .inr ⟨_, _, if_pos hb⟩
      · exact .inl (if_neg hb)
    · obtain ⟨rfl, rfl⟩ := at_a b u z
      exact ⟨ha, by rw [List.length_map]; exact hl, vs, _, rv, ha⟩
    · cases q : (if b = a then some (HO.frz { cls := .type "list", data := .seq vs.toArray } (.lst (ns.map V.int))) else none) with
      | none => exact absurd q z
      | some u => exact (at_a b u q).1
/-- the end of a law whose defs want the guards known -/
theorem walk_G {l : PySem.W.OpenLaw} {n k : Nat} {q : Program} {loose : List Str} {XP : (Str → Option Value) → Heap → Prop} {YP : World → Heap → Prop} {d : DefRec} {K : Params → PySem.W.Frag} {CX : World → CXT} {sp : World → Sp} {x : Str}
    (hn : l.most = some n) (h2 : n ≤ sizeLine) (hdf : d.params.defaults = []) (hr : Room k callerA) (hY : ∀ (w : World) (h : Heap), YP w h → (K w.params).In h)
    (F : ∀ (w : World) (mg : Str → Option Value) (fa : Addr) (h : Heap), (K w.params).In h → h.Ns mainGlobals mg → mg d.name = some (.ref fa) →
      ∃ fd : FuncData, (∀ (s : Shared) (u : Value), BindsTo s fd ⟨[u], []⟩ [(x, u)]) ∧ ∀ base : Heap, (K w.params).In base → base.Ns mainGlobals mg → FnG l.prog w (K w.params) mg base (CX w) k fa fd [x] (sp w))
    (hsp : ∀ (w : World) (H : Hp) (a : Addr) (ns : List Int), ns.length ≤ n → Only H → SqL (K w.params) H a (ns.map V.int) → sp w [.ref a] H (fun v _ => v = .bl true) fun _ _ _ => False)
    (hCX : ∀ (w : World) (H : Hp) (s : Shared) (e : Value) (s' : Shared), CX w [] H s (fun _ _ _ => False) e s' → False) : PySem.W.WalkO q loose XP YP l.row.toRowW d [] (fun f vs => PySem.call f vs) :=
  Att.attach_call hn hdf fun w s₀ st mg mb fa o pm cd doc a vs ns G Y ho hd hcd hmg hobj hints hlen hg => by
    obtain ⟨fd, hb, hF⟩ := F w mg fa _ (hY w _ Y) G.T.g hmg
    exact law_runG (hY w _ Y) G.T.g G.T.b G.T.builtins G.T.nolimit hg hobj hints (Nat.le_trans hlen h2) hr hF hb (fun H hO hS => hsp w H a ns hlen hO hS) fun H e s' => hCX w H st e s'
end

/-! ### repr in the symbolic layer; defs under known guards -/
namespace Sy
open PySem PySem.Spec PyProof.Rows L2
open SX (S S_len S_cat S_inj)
theorem fnG_sy {P : Program} {w : World} {K : PySem.W.Frag} {mg : Str → Option Value} {base : Heap} {α : Type} {pre : α → Prop} {as : α → List As} {oin : α → OO} {post : α → As → OO → Prop} {x qual : Str} {st : Stmt} {f : Addr} {fd : FuncData} {N ps : List Str} {k : Nat}
    (F : Fun K x qual st f fd) (Sc : FnScope N ps (defScope st)) (len : ∀ a, pre a → (as a).length = ps.length)
    (body : ∀ (a : α) (cdv : Value) (A : Around) (outer : List Env) (s : Shared) (H : Hp) (E : XK), Room k (A.deeper (envOfC qual (defScope st) s.heap.objs.size f cdv)) → A.guards = some [] → pre a →
      ∃ t, PSs (cxOf CX0 P w K mg base N qual (defScope st) f cdv A outer s H E).nox (defBody st) t ∧ GoS (startL N (as a)) (oin a) t (eR (post a))) :
    FnG P w K mg base CX0 (k + 1) f fd ps (SpG pre as oin post) := by
  refine Cj.Fun.okG F Sc (fun vs H Q E h => ?_) (fun cdv A outer s H vs Q E hr gd h => ?_)
  · obtain ⟨a, G, h1, h2, _⟩ := h
    rw [h2.len, len a h1]
  · obtain ⟨a, G, h1, h2, h3, h4⟩ := h
    obtain ⟨t, ht, hg⟩ := body a cdv A outer s H E hr gd h1
    refine ⟨t, ht, hg _ _ _ _ _ _ _ h3 ?_ ⟨fun L O σ G' H' q f z s => h4 _ _ _ _ _ q f rfl, fun A O G' H' v q f z a => h4 _ _ _ _ _ q f a, fun _ _ _ _ _ q => q.elim, fun _ _ _ _ _ q => q.elim⟩⟩
    have e : L2.start N vs = vs.map some ++ List.replicate (N.length - (as a).length) none := by
      unfold L2.start
      rw [h2.len]
    rw [e]
    exact Slots.start _ h2
section
variable {K : PySem.W.Frag} {O : OO} {k : As → OO → Prop}
/-- an object, never a plain value -/
def IsR (A : As) : Prop := ∀ G v, A.p G v → ∃ a, v = .ref a
theorem isR_lst {xs : List As} : IsR (lst K xs) := fun G v ⟨a, _, e, _⟩ => ⟨a, e⟩
theorem isR_tup {xs : List As} : IsR (tup K xs) := fun G v ⟨a, _, e, _⟩ => ⟨a, e⟩
def shw (d : PyData) : List Nat := d.shown.cps.toList
theorem v_repr {A : As} {d : PyData} (h1 : IsD K A d) (h2 : IsR A) (s : d.showable = true ∧ d.hasDict = false ∧ d.depth ≤ 60) (hz : d.shown.length ≤ sizeLine) (q : k (tx (shw d)) O) : Vn O (rRepr K) [A] k := fun E G0 H0 G H Q vs f a zz => by
  cases a with
  | cons a r =>
    cases r
    obtain ⟨p, rfl⟩ := h2 _ _ a
    refine ⟨p, d, rfl, Dp.mono f.gh _ _ (h1 _ _ a), s.1, s.2.1, s.2.2, hz, ?_⟩
    rw [← S_eta d.shown]
    exact zz _ _ _ _ _ q f (Same.refl _) rfl
end
end Sy

/-! ### own error classes: __init__ says super().__init__(text), then keeps one field -/
namespace ExS
open PySem PySem.Spec PyProof.Rows L2 PySem.W PySem.Calls NdefX
/-- what the written part says of the class at C: its __init__ is the def at fI, closed over C itself -/
structure ExcK (P : Program) (K : Frag) (C fI : Addr) : Prop where
  T : OexC K C
  iC : findIn K (.ref C) "__init__" = some (some (.ref fI))
  tI : typeIn K (.ref fI) = some (.type "function")
  me : mroIn K C (.ref C) = some true
  any : nsIn K cStatics "thirdparty.any" = some none
  up : ks_superIn K C C "__init__" = some (some (.builtin "ValueError.__init__"))
  isV : subIn K (.ref C) (.type "ValueError") = some true
  top : (P.main.scope.names.lookup ("super" : Str)).isSome = false
/-- the promise of such an __init__ -/
def spI (C : Addr) (fld : Str) : Sp := fun vs H Q _ => ∃ (a : Addr) (y : V), vs = [.ref a, y] ∧ H a = some (exo a C none) ∧
  ∀ dx, H dx = none → dx ≠ a → Q .non (upd (upd H dx (exd dx [(fld, y)])) a (exo a C (some dx)))
abbrev iBody (pn fld txt : Str) (j : Nat) (p0 p1 p2 p3 p4 p5 q0 q1 q2 q3 : Pos) : List Stmt :=
  [.Expr (.Call (.Attribute (.Call (.Name "super" p0) [] [] p1) "__init__" p2) [.Constant (.str txt) j p3] [] p4) p5, .Assign [.Attribute (.Name "self" q0) fld q1] (.Name pn q2) q3]
section
variable {X : Cx} {pins : List (Addr × Obj)} {σ : L2.St} {H : Hp} {s : Shared} {C x u : Addr} {rest : List Value} {A : Around} {E : Value → Shared → Prop} {Q : Value → Shared → Prop}
/-- the bound ValueError.__init__ called: nothing of it is told -/
theorem call_mw (T : OexC X.K C) (I : Inv X pins σ H s) (e : H x = some (exo x C none)) (hu : s.heap.get? u = some (kxs_mw "ValueError.__init__" x)) (hz : rest.length ≤ sizeLine) (h : ∀ s', Inv X pins σ H s' → Q .none s') :
    wpAny (model X.prog X.w) A (call (.ref u) rest) Q E s := by
  obtain ⟨nm, q, N, bs, bm, sn, sub, ab, col, dd, k0, k1, k2, k3, k5, hC, hbm⟩ := T.cls
  obtain ⟨t1, ho⟩ := exo_at I.hok e
  have hCs := I.kIn _ _ hC
  obtain ⟨hp, g, d, t, os⟩ := s
  refine wpAny_call (codeAny_of_tree (show wpAny _ A.in1 (callAny (.ref u) ⟨rest, []⟩) _ _ _ from ?_))
  simp only [callAny]
  refine wpAny_bind (wpAny_load hu ?_)
  have m1 : (Value.type "method-wrapper" == Value.type "method" || Value.type "method-wrapper" == Value.type "builtin_function_or_method" || Value.type "method-wrapper" == Value.type "method-wrapper") = true := by decide
  simp only [kxs_mw, m1, if_true]
  refine KFB.if_so (by decide) (wpAny_bind (check_bound_init F.excBase_ValueError.toExcCallFacts hCs ho rfl (wpAny_bind (wpAny_pure (wpAny_pure ⟨plainId_quiet F.excBase_ValueError.init.plain _, codeAny_builtin F.excBase_ValueError.initEntry ?_⟩)))))
  refine exc_init_tree (cls := .ref C) (t0 := t1) (dv := none) (c2 := .none) (c3 := .none) (b4 := .bool false) ho hz fun h' k hx _ => ?_
  have J := I.write (t' := t) (x := x) (e := x) (o := exo x C none) (by rw [e]; trivial) (.inl rfl) k ⟨_, hx⟩ (exo_ok hx)
  have eu : upd H x (exo x C none) = H := funext fun b => by
    by_cases hb : b = x
    · rw [hb, upd_same, e]
    · exact upd_ne hb
  exact h _ (eu ▸ J)
end
theorem mc_same {o : Expr} {name : Str} {apos pos : Pos} {env : Env} {ov : Value} {n : Nat} {args : List (Bool × Sem Value)} (hf : methodCallForm n args [] = true) (hl : (apos.endLine == pos.line) = true) :
    methodCall o name apos pos env ov n args [] = (do let (f, first) ← holding [ov] (getMethod ov name (do return (← importBound o env).getD true)); callWith pos f first args []) := by
  unfold methodCall methodCallPos calleeOf
  simp only [hf, hl, Bool.not_true, Bool.false_or, if_true, pure_bind]
section
variable {P : Program} {w : World} {K : Frag} {mg : Str → Option Value} {base : Heap} {C fI cc cda : Addr} {qual pn fld txt : Str} {params : Arguments} {body : List Stmt} {scope : Scope} {dV kV doc pm ct oc ccl cl : Value} {an od cdd cld : Option Addr}
  {osl ccs csl : Array (Option Value)} {vs : Array Value} {file : Str} {tf : Tok} {p0 p1 p2 p3 p4 p5 q0 q1 q2 q3 : Pos} {j k : Nat} {ar : Arg}
theorem init_ok (X : ExcK P K C fI) (lk : K.lookup fI = some ⟨oc, od, .func (ksFn "__init__" qual params body scope dV kV doc pm an (.ref cda) ct cc), osl⟩) (hcd : codeIn K (.ref cda) qual = true) (hcode : K.lookup cda = some ⟨ccl, cdd, .fields vs, ccs⟩)
    (hvs : vs[2]? = some (.str file tf)) (hfile : ((P.main.file : Str) == file) = true) (hcell : K.lookup cc = some ⟨cl, cld, .cell (some (.ref C)), csl⟩) (hS : mg "super" = none) (hno : findIn K (.ref C) fld = some none)
    (hB : body = iBody pn fld txt j p0 p1 p2 p3 p4 p5 q0 q1 q2 q3) (hp : (params.posonlyargs ++ params.args).head? = some ar) (ha : ar.arg = "self") (Sc : NScope ["self", pn, "__class__"] ["self", pn] ["__class__"] scope)
    (hks : scope.names.lookup ("super" : Str) = some .globalImplicit) (hln : (p2.endLine == p4.line) = true) (hpd : (pn == ("__debug__" : Str)) = false) (hpc : (pn == ("__classdict__" : Str)) = false) :
    FnOk P w K mg base CX0 (k + 1) fI (ksFn "__init__" qual params body scope dV kV doc pm an (.ref cda) ct cc) ["self", pn] (spI C fld) := by
  subst hB
  refine ⟨fun vs H Q E ⟨a, y, e, _⟩ => by rw [e]; rfl, fun A outer s H args us ws Q E hr e0 hb r hsp => ?_⟩
  obtain ⟨a, y, rfl, hae, hq⟩ := hsp
  obtain ⟨u0, u, rfl, r0, r1⟩ : ∃ u0 u, us = [u0, u] ∧ RelV (.ref a) u0 ∧ RelV y u := by
    cases r with
    | cons ra r' =>
      cases r' with
      | cons rb r'' =>
        cases r''
        exact ⟨_, _, rfl, ra, rb⟩
  obtain rfl : u0 = Value.ref a := r0
  obtain ⟨nm, q, N, bs, bm, sn, sub, ab, col, dd, k0, k1, k2, k3, k5, hC, hbm⟩ := X.T.cls
  have hcl : clsIn K C = some { name := nm, bases := bs, mro := .ref C :: bm, ns := N, qualname := q, hasDict := true, slotNames := sn, subclasses := sub, abstract := ab, collection := col, hasDel := false } := by
    unfold clsIn
    rw [hC]
  have up := X.up
  unfold ks_superIn at up
  rw [hcl] at up
  have KX : K.In s.heap := e0.mod.kin.keeps fun b o e => (e0.bs b o e).1
  have nd := Sc.nd
  have nd2 : (["self", pn] : List Str).Nodup := nd.sublist (by simp)
  have hcb : ∀ o, K.lookup cc = some o → H cc = none := fun o e => (e0.bs cc o (e0.mod.kin cc o e)).2
  have Cl : CellsAt [("__class__", cc)] ["__class__"] [none] s.heap H := by
    have key : ∀ {z : Str} {c : Addr}, ([("__class__", cc)] : List (Str × Addr)).lookup z = some c → z = "__class__" ∧ c = cc := fun {z c} e => by
      by_cases hz : z = "__class__"
      · subst hz
        exact ⟨rfl, by simpa [List.lookup] using e.symm⟩
      · have hf : (z == ("__class__" : Str)) = false := by simpa using hz
        simp [List.lookup, hf] at e
    refine ⟨rfl, fun z c e => ?_, fun z z' c e1 e2 => (key e1).1.trans (key e2).1.symm, fun i z e => ?_⟩
    · obtain ⟨_, rfl⟩ := key e
      exact ⟨hcb _ hcell, _, _, KX _ _ hcell, rfl⟩
    · match i, e with
      | 0, e =>
        obtain rfl : "__class__" = z := by simpa using e
        exact ⟨cc, rfl, fun v e => by cases e⟩
      | i + 1, e => simp at e
  refine ks_codeAny_call_defAt (binds := (["self", pn] : List Str).zip [Value.ref a, u]) hr.depth (KX _ _ lk) rfl (e0.mod.nolimit.keeps fun b o e => (e0.bs b o e).1) (codeRec_of KX hcd) rfl hb Sc.nocell (fun ⟨z, _⟩ hz => Sc.par z (List.of_mem_zip hz).1) (fun h₁ hns kp => ?_) Sc.co Sc.gen Sc.kind
  have I : Inv (ncx CX0 P w K mg base ["self", pn, "__class__"] ⟨"__init__", qual, params, iBody pn fld txt j p0 p1 p2 p3 p4 p5 q0 q1 q2 q3, scope, [("__class__", cc)], cda⟩ fI A outer s H E) [] (startF ["self", pn, "__class__"] [.ref a, y] [none]) H
      { s with heap := h₁, toks := s.toks + ((["self", pn] : List Str).zip [Value.ref a, u]).length } := inv_startN Sc hr.hd e0 rfl (.cons rfl (.cons r1 .nil)) Cl hns kp
  have K1 : K.In h₁ := I.kIn
  obtain ⟨t1, ho⟩ := exo_at I.hok hae
  obtain ⟨mb, hmb, hbb⟩ := e0.mod.blt
  have k1 : ∀ b o, base.get? b = some o → h₁.get? b = some o := I.bk
  have hne : a ≠ C := fun z => by
    have e1 := K1 _ _ hC
    rw [← z] at e1
    rw [show h₁.get? a = _ from ho] at e1
    cases e1
  have hi : interactive (callEnv (ksFn "__init__" qual params (iBody pn fld txt j p0 p1 p2 p3 p4 p5 q0 q1 q2 q3) scope dV kV doc pm an (.ref cda) ct cc) s.heap.objs.size fI) = false := by
    have hk : (callEnv (ksFn "__init__" qual params (iBody pn fld txt j p0 p1 p2 p3 p4 p5 q0 q1 q2 q3) scope dV kV doc pm an (.ref cda) ct cc) s.heap.objs.size fI).scope.kind = .function := Sc.kind
    unfold interactive
    rw [hk]
    rfl
  refine ks_wpAt_execs_cons (ks_wpAt_Expr_any (hi := hi) (ks_wpAt_MethodCall (pl := (do return (← importBound (.Call (.Name "super" p0) [] [] p1) (callEnv (ksFn "__init__" qual params (iBody pn fld txt j p0 p1 p2 p3 p4 p5 q0 q1 q2 q3) scope dV kV doc pm an (.ref cda) ct cc) s.heap.objs.size fI)).getD true)) (he := by
    refine Eq.trans (b := (do
      let ov ← attributeBase (.Call (.Name "super" p0) [] [] p1) "__init__" (callEnv (ksFn "__init__" qual params (iBody pn fld txt j p0 p1 p2 p3 p4 p5 q0 q1 q2 q3) scope dV kV doc pm an (.ref cda) ct cc) s.heap.objs.size fI) (eval (.Call (.Name "super" p0) [] [] p1) (callEnv (ksFn "__init__" qual params (iBody pn fld txt j p0 p1 p2 p3 p4 p5 q0 q1 q2 q3) scope dV kV doc pm an (.ref cda) ct cc) s.heap.objs.size fI))
      standAt p2.atName
      methodCall (.Call (.Name "super" p0) [] [] p1) "__init__" p2 p4 (callEnv (ksFn "__init__" qual params (iBody pn fld txt j p0 p1 p2 p3 p4 p5 q0 q1 q2 q3) scope dV kV doc pm an (.ref cda) ct cc) s.heap.objs.size fI) ov 1 (backTo p4 (starEach [.Constant (.str txt) j p3] (callEnv (ksFn "__init__" qual params (iBody pn fld txt j p0 p1 p2 p3 p4 p5 q0 q1 q2 q3) scope dV kV doc pm an (.ref cda) ct cc) s.heap.objs.size fI))) [])) rfl ?_
    simp only [mc_same (show methodCallForm 1 (backTo p4 (starEach [.Constant (.str txt) j p3] (callEnv (ksFn "__init__" qual params (iBody pn fld txt j p0 p1 p2 p3 p4 p5 q0 q1 q2 q3) scope dV kV doc pm an (.ref cda) ct cc) s.heap.objs.size fI))) [] = true from rfl) hln]) (ks_wpAt_super_base hks (Sc.frk _ (by simp)) (by decide) rfl (K1 _ _ lk) rfl hp rfl (K1 _ _ hcode) rfl hvs hfile X.top ?_)))
  refine ks_loadName_global Sc.kind hks (loadGlobal_builtin (e0.mod.glob.keeps k1) hS (hmb.keeps k1) ((hbb _ (by decide +kernel)).trans (by kernel_rfl)) ⟨rfl, ?_⟩)
  refine wpAny_loadName_free Sc.kind (Sc.frk _ (by simp)) rfl ⟨_, K1 _ _ hcell, rfl⟩ ?_
  rw [ha]
  refine wpAny_loadName_local Sc.kind (Sc.par _ (by simp)) hns (zip_look (i := 0) nd2 rfl rfl) (ks_wpAny_isType_cls (K1 _ _ hC) rfl ⟨rfl, ?_⟩)
  refine ks_wpAny_call_super (K1 _ _ hC) rfl ho rfl (fun c e => by cases e) (looks_mroIn K1 X.me) fun h2 e2 kp2 => ?_
  have I2 := I.kept (t' := s.toks + ((["self", pn] : List Str).zip [Value.ref a, u]).length) kp2
  have K2 : K.In h2 := I2.kIn
  have IA : InstAt h2 a _ C none := ⟨kp2 _ _ ho, rfl, rfl, trivial⟩
  refine kxs_getMethod kxs_ValueError e2 (looks_opaque K2 X.any) (l₀ := .ref C :: bm) (fun A Q E s k q => wpAny_bind ((looks_clsIn K2 hcl) A _ E s k (wpAny_pure q))) rfl K2 up (IA.type.andThen (looks_subIn K2 X.isV)) hne (by decide) ?_
  have kp3 : ∀ b o, h2.get? b = some o → (h2.push (kxs_mw "ValueError.__init__" a)).get? b = some o := fun b o e => Heap.get?_push_of_some _ e
  refine kxs_callWith (i := "ValueError.__init__") (x := a) rfl (evalArgs_plain (spliced_cons (Constant_str (x := txt) (k := j) (pos := p3) (spliced_nil ?_))))
  refine ⟨Heap.get?_push_size h2 rfl, ?_⟩
  refine call_mw X.T (I2.kept kp3) hae (Heap.get?_push_size h2 rfl) (by show 1 ≤ sizeLine; rw [sizeLine_eq]; omega) fun s3 I3 => ?_
  refine wpAt_of_wpAny (wpAny_mono ((pss_one (ps_ost (f := fld) (pe_var (i := 0) rfl (.inl (Sc.par _ (by simp)))) (pe_var (i := 1) rfl (.inl (Sc.par _ (by simp))) hpd hpc))).run [] s3 _ H { nx := fun _ H' => Q .non H', rt := Q } I3 ?_) (fun fl s' hs => ?_) fun e s' hs => hs)
  · exact ⟨y, rfl, .ref a, rfl, a, C, rfl, X.T, hno, .inl ⟨hae, fun dx n1 n2 => hq dx n1 n2⟩⟩
  · cases fl with
    | next =>
      obtain ⟨σ', H', J, q⟩ := hs
      exact ⟨V.non, H', J.os, J.bare, J.base, J.hok, rfl, q⟩
    | ret u =>
      obtain ⟨v, σ', H', J, rv, q⟩ := hs
      exact ⟨v, H', J.os, J.bare, J.base, J.hok, rv, q⟩
    | brk =>
      obtain ⟨_, _, _, q⟩ := hs
      exact q.elim
    | cont =>
      obtain ⟨_, _, _, q⟩ := hs
      exact q.elim
end
end ExS

/-! ### raising: what is wished of an exception, told by its class, its fields, the slots and what is owned -/
namespace Sy
open PySem PySem.Spec PyProof.Rows L2
open SX (S S_len S_cat S_inj)
abbrev XP := Value → List (Str × As) → LL → OO → Prop
/-- the fields of an exception's dict -/
def FsOk (G : Hp) (fs : List (Str × As)) (vs : List (Str × V)) : Prop := ∀ f A, fs.lookup f = some A → ∃ v, vs.lookup f = some v ∧ A.p G v
theorem FsOk.m {G G' : Hp} {fs : List (Str × As)} {vs : List (Str × V)} (h : FsOk G fs vs) (e : Same G G') : FsOk G' fs vs := fun f A q => by
  obtain ⟨v, h1, h2⟩ := h f A q
  exact ⟨v, h1, A.m e h2⟩
theorem look_cons {β : Type} (f g : Str) (y : β) (fs : List (Str × β)) : ((f, y) :: fs).lookup g = if g = f then some y else fs.lookup g := by
  by_cases h : g = f
  · subst h
    simp [List.lookup]
  · have e : (g == f) = false := by simpa using h
    rw [if_neg h]
    simp [List.lookup, e]
theorem FsOk.one {G : Hp} {f : Str} {A : As} {v : V} (h : A.p G v) : FsOk G [(f, A)] [(f, v)] := fun g B q => by
  rw [look_cons] at q
  by_cases e : g = f
  · rw [if_pos e] at q
    cases q
    exact ⟨v, by rw [look_cons, if_pos e], h⟩
  · rw [if_neg e] at q
    cases q
/-- an exception with what x says is taken by the wish W -/
def Acc (W : WX) (x : XP) (E : List Addr) (G0 H0 G : Hp) : Prop :=
  ∀ cls fs L O σ G' H' dx vs, x cls fs L O → Fr E G0 H0 O G' H' → Same G G' → Slots G' L σ → G' dx = some (.xd vs) → FsOk G' fs vs → W cls (some dx) σ H'
theorem Acc.m {W : WX} {x : XP} {E : List Addr} {G0 H0 G G' : Hp} (h : Acc W x E G0 H0 G) (s : Same G G') : Acc W x E G0 H0 G' := fun cls fs L O σ G2 H2 dx vs q f z => h cls fs L O σ G2 H2 dx vs q f (s.trans z)
def GoW (W : WX) (x : XP) (L : LL) (O : OO) (t : TE) (k : As → OO → Prop) : Prop :=
  ∀ (E : List Addr) (G0 H0 : Hp) (σ : L2.St) (G H : Hp) (Q : VK), Fr E G0 H0 O G H → Slots G L σ → Post E G0 H0 G k Q → Acc W x E G0 H0 G → t σ H Q
def GoWA (W : WX) (x : XP) (L : LL) (O : OO) (t : TA) (k : List As → OO → Prop) : Prop :=
  ∀ (E : List Addr) (G0 H0 : Hp) (σ : L2.St) (G H : Hp) (Q : List V → Hp → Prop), Fr E G0 H0 O G H → Slots G L σ → (∀ l O' G' H' vs, k l O' → Fr E G0 H0 O' G' H' → Same G G' → All2 G' l vs → Q vs H') → Acc W x E G0 H0 G → t σ H Q
def GoWT (W : WX) (x : XP) (L : LL) (O : OO) (t : TT) (k : Bool → OO → Prop) : Prop :=
  ∀ (E : List Addr) (G0 H0 : Hp) (σ : L2.St) (G H : Hp) (Q : Bool → Hp → Prop), Fr E G0 H0 O G H → Slots G L σ → (∀ b O' G' H', k b O' → Fr E G0 H0 O' G' H' → Same G G' → Q b H') → Acc W x E G0 H0 G → t σ H Q
def GoSW (W : WX) (x : XP) (L : LL) (O : OO) (t : TS) (k : Es) : Prop :=
  ∀ (E : List Addr) (G0 H0 : Hp) (σ : L2.St) (G H : Hp) (D : Ends), Fr E G0 H0 O G H → Slots G L σ → EndsOk E G0 H0 G D k → Acc W x E G0 H0 G → t D σ H
/-- raise C(..) -/
def tRz (W : WX) (t : L2.St → Hp → XK → Prop) : TS := fun _ σ H => t σ H fun cls d H' => W cls d σ H'
theorem ps_rz {X : Cx} {W : WX} {e : Expr} {t : L2.St → Hp → XK → Prop} {pos : Pos} (hc : X.calm = true) (tk : Takes X W) (he : PMk X e t) : PS X (.Raise (some e) none pos) (tRz W t) := ps_raise hc tk he
/-- a promise that tells of what is raised, too -/
def SpX {α : Type} (pre : α → Prop) (as : α → List As) (oin : α → OO) (post : α → As → OO → Prop) (rp : α → Value → List (Str × As) → OO → Prop) : Sp := fun vs H Q E => ∃ a G, pre a ∧ All2 G (as a) vs ∧ Fr ((oin a).map (·.1)) G H (oin a) G H ∧
  (∀ A O' G' H' v, post a A O' → Fr ((oin a).map (·.1)) G H O' G' H' → A.p G' v → Q v H') ∧
  ∀ cls fs O' G' H' dx ds, rp a cls fs O' → Fr ((oin a).map (·.1)) G H O' G' H' → G' dx = some (.xd ds) → FsOk G' fs ds → E cls (some dx) H'
theorem passF {X : Cx} {P : Program} {w : World} : Passes (L2.CX P w) X (fun _ _ _ => False) := fun _ _ _ _ _ _ _ ⟨_, _, _, _, _, _, _, _, _, _, _, _, h⟩ => h.elim
section
variable {K : PySem.W.Frag} {L : LL} {O : OO} {W : WX} {x : XP} {k : As → OO → Prop} {ta tb te : TE} {t : TA} {tt : TT}
theorem GoW.up (h : Go L O te k) : GoW W x L O te k := fun E G0 H0 σ G H Q f s z _ => h E G0 H0 σ G H Q f s z
theorem GoWA.up {k : List As → OO → Prop} (h : GoA L O t k) : GoWA W x L O t k := fun E G0 H0 σ G H Q f s z _ => h E G0 H0 σ G H Q f s z
theorem GoWT.up {k : Bool → OO → Prop} (h : GoT L O tt k) : GoWT W x L O tt k := fun E G0 H0 σ G H Q f s z _ => h E G0 H0 σ G H Q f s z
theorem GoSW.up {u : TS} {k : Es} (h : GoS L O u k) : GoSW W x L O u k := fun E G0 H0 σ G H D f s e _ => h E G0 H0 σ G H D f s e
theorem GoWA.cons {k : List As → OO → Prop} (h : GoW W x L O ta fun A O1 => GoWA W x L O1 t fun l O2 => k (A :: l) O2) : GoWA W x L O (tCons ta t) k := fun E G0 H0 σ G H Q f s z c =>
  h _ _ _ _ _ _ _ f s (fun A O1 G1 H1 y hr f1 s1 a => hr _ _ _ _ _ _ _ f1 (s.m s1) (fun l O2 G2 H2 vs hk f2 s2 b => z _ _ _ _ _ hk f2 (s1.trans s2) (.cons (A.m s2 a) b)) (c.m s1)) c
theorem GoW.tup (h : GoWA W x L O t fun l O1 => l.length ≤ 100000 ∧ k (tup K l) O1) : GoW W x L O (tTup t) k := fun E G0 H0 σ G H Q f s z c =>
  h _ _ _ _ _ _ _ f s (fun l O1 G1 H1 vs hk f1 s1 a => ⟨a.sz hk.1, fun p np => by
    have e := Ext.new (o := .tup vs) f1.gh np
    exact z _ _ _ _ _ hk.2 (f1.ext e) (s1.trans e.g) ⟨p, vs, rfl, .inl (.inl upd_same), a.m e.g⟩⟩) c
theorem GoW.lst (h : GoWA W x L O t fun l O1 => l.length ≤ 100000 ∧ k (lst K l) O1) : GoW W x L O (tLst t) k := fun E G0 H0 σ G H Q f s z c =>
  h _ _ _ _ _ _ _ f s (fun l O1 G1 H1 vs hk f1 s1 a => ⟨a.sz hk.1, fun p np => by
    have e := Ext.new (o := .lst vs) f1.gh np
    exact z _ _ _ _ _ hk.2 (f1.ext e) (s1.trans e.g) ⟨p, vs, rfl, upd_same, a.m e.g⟩⟩) c
theorem GoW.op {r : R2} (h : GoW W x L O ta fun A O1 => GoW W x L O1 tb fun B O2 => V2 O2 r A B k) : GoW W x L O (tOp r ta tb) k := fun E G0 H0 σ G H Q f s z c =>
  h _ _ _ _ _ _ _ f s (fun A O1 G1 H1 x hb f1 s1 a => hb _ _ _ _ _ _ _ f1 (s.m s1) (fun B O2 G2 H2 y hr f2 s2 b => hr _ _ _ _ _ _ _ _ f2 (A.m s2 a) b fun C O3 G3 H3 v hk f3 s3 c => z _ _ _ _ _ hk f3 ((s1.trans s2).trans s3) c) (c.m s1)) c
theorem GoW.cb {r : List V → Hp → VK → Prop} (h : GoWA W x L O t fun l O1 => Vn O1 r l k) : GoW W x L O (tCB r t) k := fun E G0 H0 σ G H Q f s z c =>
  h _ _ _ _ _ _ _ f s (fun l O1 G1 H1 vs hk f1 s1 a => hk _ _ _ _ _ _ _ f1 a fun C O3 G3 H3 v hk f3 s3 c => z _ _ _ _ _ hk f3 (s1.trans s3) c) c
theorem GoW.ite (h : GoWT W x L O tt fun b O1 => (b = true → GoW W x L O1 ta k) ∧ (b = false → GoW W x L O1 tb k)) : GoW W x L O (tIf tt ta tb) k := fun E G0 H0 σ G H Q f s z c =>
  h _ _ _ _ _ _ _ f s (fun b O1 G1 H1 hk f1 s1 => by
    cases b with
    | true => exact iteT (hk.1 rfl _ _ _ _ _ _ _ f1 (s.m s1) (fun A O' G' H' v q f' s' a => z _ _ _ _ _ q f' (s1.trans s') a) (c.m s1))
    | false => exact iteF (hk.2 rfl _ _ _ _ _ _ _ f1 (s.m s1) (fun A O' G' H' v q f' s' a => z _ _ _ _ _ q f' (s1.trans s') a) (c.m s1))) c
/-- a def that may raise, called where it does not -/
theorem Go.callX {α : Type} {pre : α → Prop} {as : α → List As} {oin : α → OO} {post : α → As → OO → Prop} {rp : α → Value → List (Str × As) → OO → Prop} {X : XK} (hI : ∀ a, ∀ x ∈ oin a, x.2.par = true)
    (h : GoA L O t fun l O1 => ∃ a R, l = as a ∧ O1 = oin a ++ R ∧ pre a ∧ (∀ cls fs O', ¬ rp a cls fs O') ∧ ∀ A O', post a A O' → k A (O' ++ R)) : Go L O (tCall (SpX pre as oin post rp) [] X t) k := fun E G0 H0 σ G H Q f s z =>
  h _ _ _ _ _ _ _ f s fun l O1 G1 H1 vs hk f1 s1 b => by
    obtain ⟨a, R, rfl, rfl, hp, hn, hq⟩ := hk
    refine ⟨a, G1, hp, ?_, f1.part (hI a), fun A O' G' H' v q g c => z _ _ _ _ _ (hq _ _ q) (f1.frame g) (s1.trans g.gg) c, fun cls fs O' G' H' dx ds q => absurd q (hn _ _ _)⟩
    rw [List.append_nil]
    exact b
/-- .. where it may -/
theorem GoW.call {α : Type} {pre : α → Prop} {as : α → List As} {oin : α → OO} {post : α → As → OO → Prop} {rp : α → Value → List (Str × As) → OO → Prop} (hI : ∀ a, ∀ x ∈ oin a, x.2.par = true)
    (h : GoWA W x L O t fun l O1 => ∃ a R, l = as a ∧ O1 = oin a ++ R ∧ pre a ∧ (∀ cls fs O', rp a cls fs O' → x cls fs L (O' ++ R)) ∧ ∀ A O', post a A O' → k A (O' ++ R)) : GoW W x L O (L2.tCallS (SpX pre as oin post rp) (WE W) t) k := fun E G0 H0 σ G H Q f s z c =>
  h _ _ _ _ _ _ _ f s (fun l O1 G1 H1 vs hk f1 s1 b => by
    obtain ⟨a, R, rfl, rfl, hp, hn, hq⟩ := hk
    exact ⟨a, G1, hp, b, f1.part (hI a), fun A O' G' H' v q g c => z _ _ _ _ _ (hq _ _ q) (f1.frame g) (s1.trans g.gg) c, fun cls fs O' G' H' dx ds q g e d => c _ _ _ _ _ _ _ _ _ (hn _ _ _ q) (f1.frame g) (s1.trans g.gg) (s.m (s1.trans g.gg)) e d⟩) c
/-- a field of a caught exception -/
def exA (a dx : Addr) (fs : List (Str × As)) : As := ⟨fun G v => v = .ref a ∧ ∃ ds, G dx = some (.xd ds) ∧ FsOk G fs ds, fun e h => by
  obtain ⟨h1, ds, h2, h3⟩ := h
  exact ⟨h1, ds, e _ _ h2, h3.m e⟩⟩
theorem Go.xf {a dx C : Addr} {f : Str} {cls : Value} (h : Go L O te fun A O1 => ∃ fs B, A = exA a dx fs ∧ cls = .ref C ∧ fs.lookup f = some B ∧ k B O1) : Go L O (tXf a cls (some dx) C f te) k := fun E G0 H0 σ G H Q fr s z =>
  h _ _ _ _ _ _ _ fr s fun A O1 G1 H1 v q f1 s1 a1 => by
    obtain ⟨fs, B, rfl, hc, hl, hk⟩ := q
    obtain ⟨rfl, ds, h2, h3⟩ := a1
    obtain ⟨y, h4, h5⟩ := h3 _ _ hl
    exact ⟨rfl, hc, dx, ds, y, rfl, f1.gh _ _ h2, h4, z _ _ _ _ _ hk f1 s1 h5⟩
end
section
variable {K : PySem.W.Frag} {L : LL} {O : OO} {W : WX} {x : XP} {k : Es} {te : TE} {t u : TS} {tt : TT} {ta : TA}
theorem GoSW.seq (h : GoSW W x L O t (k.then fun L' O' => GoSW W x L' O' u k)) : GoSW W x L O (tSeq t u) k := fun E G0 H0 σ G H D f s e c =>
  h _ _ _ _ _ _ _ f s ⟨fun L O σ G H q f' z s' => q _ _ _ _ _ _ _ f' s' (e.m z) (c.m z), e.rt, e.bk, e.ct⟩ c
theorem GoSW.cut (h : GoSW W x L O t (k.then fun L' O' => GoSW W x L' O' u k)) : GoSW W x L O (C8.tCut t u) k := fun E G0 H0 σ G H D f s e c =>
  ⟨fun σ' H' => ∃ L' O' G', GoSW W x L' O' u k ∧ Fr E G0 H0 O' G' H' ∧ Same G G' ∧ Slots G' L' σ', h _ _ _ _ _ _ _ f s ⟨fun L O σ G H q f' z s' => ⟨_, _, _, q, f', z, s'⟩, e.rt, e.bk, e.ct⟩ c, fun σ' H' ⟨L', O', G', q, f', z, s'⟩ => q _ _ _ _ _ _ _ f' s' (e.m z) (c.m z)⟩
theorem GoSW.drop (h : GoW W x L O te fun _ O1 => k.nx L O1) : GoSW W x L O (tDrop te) k := fun E G0 H0 σ G H D f s e c =>
  h _ _ _ _ _ _ _ f s (fun A O1 G1 H1 v q f1 s1 a => e.nx _ _ _ _ _ q f1 s1 (s.m s1)) c
theorem GoSW.ret (h : GoW W x L O te fun A O1 => k.rt A O1) : GoSW W x L O (tRet te) k := fun E G0 H0 σ G H D f s e c =>
  h _ _ _ _ _ _ _ f s (fun A O1 G1 H1 v q f1 s1 a => e.rt _ _ _ _ _ q f1 s1 a) c
theorem GoSW.ite (h : GoWT W x L O tt fun b O1 => (b = true → GoSW W x L O1 t k) ∧ (b = false → GoSW W x L O1 u k)) : GoSW W x L O (tIfS tt t u) k := fun E G0 H0 σ G H D f s e c =>
  h _ _ _ _ _ _ _ f s (fun b O1 G1 H1 q f1 s1 => by
    cases b with
    | true => exact iteT (q.1 rfl _ _ _ _ _ _ _ f1 (s.m s1) (e.m s1) (c.m s1))
    | false => exact iteF (q.2 rfl _ _ _ _ _ _ _ f1 (s.m s1) (e.m s1) (c.m s1))) c
theorem GoSW.set {i : Nat} (h : GoW W x L O te fun A O1 => k.nx (setL L i A) O1) : GoSW W x L O (tAsg te (gName i)) k := fun E G0 H0 σ G H D f s e c =>
  h _ _ _ _ _ _ _ f s (fun A O1 G1 H1 v q f1 s1 a => e.nx _ _ _ _ _ q f1 s1 ((s.m s1).set a i)) c
theorem GoSW.asg {g : TG} (h : GoW W x L O te fun A O1 => GoG L A g fun L' => k.nx L' O1) : GoSW W x L O (tAsg te g) k := fun E G0 H0 σ G H D f s e c =>
  h _ _ _ _ _ _ _ f s (fun A O1 G1 H1 v q f1 s1 a => q _ _ _ _ _ f1.gh (s.m s1) a fun L' σ' q' s' => e.nx _ _ _ _ _ q' f1 s1 s') c
theorem GoSW.imp {k' : Es} (h : GoSW W x L O t k') (n : ∀ L O, k'.nx L O → k.nx L O) (r : ∀ A O, k'.rt A O → k.rt A O) (b : ∀ L O, k'.bk L O → k.bk L O) (c : ∀ L O, k'.ct L O → k.ct L O) : GoSW W x L O t k := fun E G0 H0 σ G H D f s e =>
  h _ _ _ _ _ _ _ f s ⟨fun L O σ G H q => e.nx L O σ G H (n _ _ q), fun A O G H v q => e.rt A O G H v (r _ _ q), fun L O σ G H q => e.bk L O σ G H (b _ _ q), fun L O σ G H q => e.ct L O σ G H (c _ _ q)⟩
/-- raise C(e), C's __init__ keeping one field -/
theorem GoSW.raise {C : Addr} {fld : Str} (h : GoA L O ta fun l O1 => ∃ A, l = [A] ∧ x (.ref C) [(fld, A)] L O1) : GoSW W x L O (tRz W (tMkO C (ExS.spI C fld) [] ta)) k := fun E G0 H0 σ G H D f s e c =>
  h _ _ _ _ _ _ _ f s fun l O1 G1 H1 vs q f1 s1 b => by
    obtain ⟨A, rfl, hx⟩ := q
    cases b with
    | @cons _ y _ _ hy b =>
      cases b
      refine ⟨by simp, fun a na => ⟨a, y, rfl, upd_same, fun dx n1 n2 => ?_⟩⟩
      have nd : H1 dx = none := by rw [upd_ne n2] at n1; exact n1
      have eh : upd (del (upd (upd (upd H1 a (exo a C none)) dx (exd dx [(fld, y)])) a (exo a C (some dx))) a) dx (.xd [(fld, y)]) = upd H1 dx (.xd [(fld, y)]) := funext fun b => by
        by_cases hb : b = dx
        · rw [hb, upd_same, upd_same]
        · rw [upd_ne hb, upd_ne hb]
          by_cases ha : b = a
          · rw [ha, del_same, na]
          · rw [del_ne ha, upd_ne ha, upd_ne hb, upd_ne ha]
      refine ⟨rfl, dx, [(fld, y)], upd_same, by rw [upd_ne n2, upd_same], nd, ?_⟩
      rw [eh]
      have ex := Ext.new (o := .xd [(fld, y)]) f1.gh nd
      exact c _ _ _ _ _ _ _ _ _ hx (f1.ext ex) (s1.trans ex.g) (s.m (s1.trans ex.g)) upd_same (FsOk.one (A.m ex.g hy))
/-- try: .. except c as n: .. -/
def tTryAs (K : PySem.W.Frag) (c : Value) (i : Nat) (tb : WX → TS) (ts : Addr → Value → Option Addr → TS) (Wout : WX) : TS := fun D σ H => tb (wAs K c i ts Wout D) D σ H
theorem ps_tryAs {X : Cx} {y n : Str} {c : Value} {i : Nat} {body suite : List Stmt} {b₀ : Stmt} {np pos pos' : Pos} {tb : WX → TS} {ts : Addr → Value → Option Addr → TS} {Wout : WX} (hK : X.K = K) (hs : X.stack = X.env :: X.outer) (hf : X.env.frame = some X.env.locals) (hN : X.N.Nodup) (hi : X.N[i]? = some n) (hln : X.env.kindOf n = some .local) (hc : Names X y c) (tk : Takes X Wout)
    (hb : ∀ (W : WX) (pn : List (Addr × Obj)) (xe : Value → Shared → Prop), Takes (X.tr pn xe) W → PassesOwn (model X.prog X.w) X.A X.env xe → PSs (X.tr pn xe) body (tb W))
    (hsu : ∀ (a : Addr) (oe : Obj) (cls : Value) (d : Option Addr) (pn : List (Addr × Obj)), Zc cls d oe → (∃ vs, oe.data = .fields vs) → PSs (X.suite a ((a, oe) :: pn)) (b₀ :: suite) (ts a cls d)) :
    PS X (.Try body [.ExceptHandler (some (.Name y np)) (some n) (b₀ :: suite) pos'] [] [] pos) (tTryAs K c i tb ts Wout) := by
  subst hK
  exact ps_try_as hs hf hN hi hln hc tk hb hsu
theorem GoSW.tryAs {c : Value} {i : Nat} {tb : WX → TS} {ts : Addr → Value → Option Addr → TS} (x' : XP) (h : ∀ W', GoSW W' x' L O (tb W') k)
    (hx : ∀ cls fs L1 O1, x' cls fs L1 O1 → ∃ b, PySem.W.exmOne K cls c = some b ∧
      (b = true → ∀ a dx, GoS (setL L1 i (exA a dx fs)) O1 (ts a cls (some dx)) ⟨fun L2 O2 => k.nx (delL L2 i) O2, k.rt, fun L2 O2 => k.bk (delL L2 i) O2, fun L2 O2 => k.ct (delL L2 i) O2⟩) ∧ (b = false → x cls fs L1 O1)) :
    GoSW W x L O (tTryAs K c i tb ts W) k := fun E G0 H0 σ G H D f s e ac =>
  h _ E G0 H0 σ G H D f s e fun cls fs L1 O1 σ1 G1 H1 dx ds q f1 s1 sl e1 e2 => by
    obtain ⟨b, hb, ht, hf⟩ := hx _ _ _ _ q
    refine ⟨b, hb, fun hbt a na => ?_, fun hbf => ac _ _ _ _ _ _ _ _ _ (hf hbf) f1 s1 sl e1 e2⟩
    have e' := e.m s1
    exact ht hbt a dx _ _ _ _ _ _ _ f1 (sl.set (A := exA a dx fs) ⟨rfl, ds, e1, e2⟩ i) ⟨fun L O σ G H q f z s => e'.nx _ _ _ _ _ q f z (s.del i), e'.rt, fun L O σ G H q f z s => e'.bk _ _ _ _ _ q f z (s.del i), fun L O σ G H q f z s => e'.ct _ _ _ _ _ q f z (s.del i)⟩
theorem GoS.ofW (h : GoSW (fun _ _ _ _ => False) (fun _ _ _ _ => False) L O t k) : GoS L O t k := fun E G0 H0 σ G H D f s e => h _ _ _ _ _ _ _ f s e fun _ _ _ _ _ _ _ _ _ q => q.elim
theorem GoSW.for {wi : TI} {g : TG} {tb : TS} (h : GoI L O wi fun xs O1 => ∃ J : Nat → LL → OO → Prop, J 0 L O1 ∧
    (∀ i A L' O', xs[i]? = some A → J i L' O' → GoG L' A g fun L2 => GoSW W x L2 O' tb { k with nx := J (i + 1), ct := J (i + 1), bk := k.nx }) ∧ ∀ L' O', J xs.length L' O' → k.nx L' O') : GoSW W x L O (tFor wi g tb) k := fun E G0 H0 σ G H D f s e c =>
  h _ _ _ _ _ _ _ f s fun xs O1 G1 H1 It q f1 s1 ok => by
    obtain ⟨J, j0, js, jd⟩ := q
    obtain ⟨Gp, Y, w, gp, yy⟩ := ok
    refine for_it w (fun i σ' H' => ∃ L' O' G', J i L' O' ∧ Fr E G0 H0 O' G' H' ∧ Same G1 G' ∧ Slots G' L' σ') ⟨L, O1, G1, j0, f1, Same.refl _, s.m s1⟩ (fun i σ' H' _ ⟨_, _, G', _, f', z, _⟩ => gp _ (z.trans f'.gh)) (fun i x σ' H' H'' hi ⟨L', O', G', j', f', z, s'⟩ y => ?_)
      (fun σ' H' ⟨L', O', G', j', f', z, s'⟩ => e.nx _ _ _ _ _ (jd _ _ j') f' (s1.trans z) s')
    obtain ⟨A, G2, hA, ex, a⟩ := yy i H' x H'' hi y G' z f'.gh
    have f2 := f'.ext ex
    have z2 := z.trans ex.g
    refine js i A L' O' hA j' _ _ _ _ _ f2.gh (s'.m ex.g) a fun L2 σ2 q2 s2 => ?_
    exact q2 _ _ _ _ _ _ _ f2 s2 ⟨fun L O σ G H q f z s => ⟨_, _, _, q, f, z2.trans z, s⟩, fun A O G H v q f z a => e.rt _ _ _ _ _ q f ((s1.trans z2).trans z) a, fun L O σ G H q f z s => e.nx _ _ _ _ _ q f ((s1.trans z2).trans z) s, fun L O σ G H q f z s => ⟨_, _, _, q, f, z2.trans z, s⟩⟩ (c.m (s1.trans z2))
end
section
variable {P : Program} {w : World} {K : PySem.W.Frag} {mg : Str → Option Value} {base : Heap}
/-- a def that may raise, by its body -/
theorem fnx_sy {α : Type} {pre : α → Prop} {as : α → List As} {oin : α → OO} {post : α → As → OO → Prop} {rp : α → Value → List (Str × As) → OO → Prop} {y qual : Str} {st : Stmt} {f : Addr} {fd : FuncData} {N ps : List Str} {k : Nat} (F : Fun K y qual st f fd) (S : FnScope N ps (defScope st)) (len : ∀ a, pre a → (as a).length = ps.length)
    (body : ∀ (a : α) (cdv : Value) (A : Around) (outer : List Env) (s : Shared) (H : Hp) (E : XK), Room k (A.deeper (envOfC qual (defScope st) s.heap.objs.size f cdv)) → pre a →
      ∃ t, PSs (cxOf (L2.CX P w) P w K mg base N qual (defScope st) f cdv A outer s H E) (defBody st) t ∧ GoSW (fun cls d _ H => E cls d H) (fun cls fs _ O' => rp a cls fs O') (startL N (as a)) (oin a) t (eR (post a))) :
    FnOk P w K mg base (L2.CX P w) (k + 1) f fd ps (SpX pre as oin post rp) := by
  obtain ⟨oc, od, kV, doc, pm, an, cdv, ct, osl, rfl, lk, hcd⟩ := F.ex
  refine fn_of lk hcd S (fun vs H Q E h => ?_) (fun A outer s H vs Q E hr h => ?_)
  · obtain ⟨a, G, h1, h2, _⟩ := h
    rw [h2.len, len a h1]
  · obtain ⟨a, G, h1, h2, h3, h4, h5⟩ := h
    obtain ⟨t, ht, hg⟩ := body a cdv A outer s H E hr h1
    refine ⟨t, ht, hg _ _ _ _ _ _ _ h3 ?_ ⟨fun L O σ G' H' q f z s => h4 _ _ _ _ _ q f rfl, fun A O G' H' v q f z a => h4 _ _ _ _ _ q f a, fun _ _ _ _ _ q => q.elim, fun _ _ _ _ _ q => q.elim⟩ fun cls fs L O σ G' H' dx ds q f z s e1 e2 => h5 _ _ _ _ _ _ _ q f e1 e2⟩
    have e : L2.start N vs = vs.map some ++ List.replicate (N.length - (as a).length) none := by
      unfold L2.start
      rw [h2.len]
    rw [e]
    exact Slots.start _ h2
/-- its wish about exceptions -/
theorem takesD {N : List Str} {qual : Str} {scope : Scope} {f : Addr} {cdv : Value} {A : Around} {outer : List Env} {s : Shared} {H : Hp} {E : XK} : Takes (cxOf (L2.CX P w) P w K mg base N qual scope f cdv A outer s H E) (fun cls d _ H => E cls d H) := takes_of rfl rfl rfl rfl
end
end Sy

/-! ### an error class of the text, and raising it -/
namespace ExS
open PySem PySem.Spec PyProof.Rows L2 PySem.W PySem.Calls NdefX
/-- the i-th statement of a class -/
def inCls : Stmt → Nat → Stmt
  | .ClassDef _ _ _ b _ _ _ _ _ _ _, i => b.getD i (.Pass ⟨0, 0, 0, 0⟩)
  | s, _ => s
structure ExcT (pw : Program) (K : Frag) (mg : Str → Option Value) (nm qual : Str) (st : Stmt) (C fI : Addr) (fld : Str) : Prop where
  g : mg nm = some (.ref C)
  X : ExcK pw K C fI
  ex : ∃ (oc kV doc pm ct ccl cl : Value) (an od cdd cld : Option Addr) (osl ccs csl : Array (Option Value)) (vs : Array Value) (cda cc : Addr) (file : Str) (tf : Tok),
    K.lookup fI = some ⟨oc, od, .func (ksFn "__init__" qual (defArgs st) (defBody st) (defScope st) .none kV doc pm an (.ref cda) ct cc), osl⟩ ∧ codeIn K (.ref cda) qual = true ∧ K.lookup cda = some ⟨ccl, cdd, .fields vs, ccs⟩ ∧
      vs[2]? = some (.str file tf) ∧ ((pw.main.file : Str) == file) = true ∧ K.lookup cc = some ⟨cl, cld, .cell (some (.ref C)), csl⟩
  no : findIn K (.ref C) fld = some none
  sg : mg "super" = none
  xf : XfC K C
  cls : isClsIn K C = true
theorem exm_pair {K : Frag} {D : Value} {C : Addr} {b : Bool} (h1 : subIn K (.ref C) (.type "BaseException") = some true) (h2 : isClsIn K C = true) (h3 : typeIn K (.ref C) = some (.type "type")) (h4 : subIn K D (.ref C) = some b) : exmOne K D (.ref C) = some b := by
  have h2' : (clsIn K C).isSome = true := h2
  unfold exmOne
  rw [if_pos (by rw [h1]; rfl)]
  show (if ((clsIn K C).isSome && typeIn K (.ref C) == some (.type "type")) = true then subIn K D (.ref C) else none) = some b
  rw [if_pos (by rw [h2', h3]; rfl)]
  exact h4
section
variable {pw : Program} {K : Frag} {mg : Str → Option Value} {nm qual fld : Str} {st : Stmt} {C fI : Addr}
theorem ExcT.exm (T : ExcT pw K mg nm qual st C fI fld) {D : Value} {b : Bool} (h : subIn K D (.ref C) = some b) : exmOne K D (.ref C) = some b := exm_pair T.X.T.exC T.cls T.X.T.tyC h
theorem ExcT.me (T : ExcT pw K mg nm qual st C fI fld) : exmOne K (.ref C) (.ref C) = some true := T.exm T.X.me
theorem pmk_ex {X : Cx} {e : Expr} {es : List Expr} {ta : TA} {p pos : Pos} {pn txt : Str} {j : Nat} {p0 p1 p2 p3 p4 p5 q0 q1 q2 q3 : Pos} {ar : Arg} (T : ExcT pw K mg nm qual st C fI fld) (hK : X.K = K) (hm : X.mg = mg) (hP : X.prog = pw) (hr : Room 2 X.A)
    (hB : defBody st = iBody pn fld txt j p0 p1 p2 p3 p4 p5 q0 q1 q2 q3) (hp : ((defArgs st).posonlyargs ++ (defArgs st).args).head? = some ar) (ha : ar.arg = "self") (Sc : NScope ["self", pn, "__class__"] ["self", pn] ["__class__"] (defScope st))
    (hks : (defScope st).names.lookup ("super" : Str) = some .globalImplicit) (hln : (p2.endLine == p4.line) = true) (hpd : (pn == ("__debug__" : Str)) = false) (hpc : (pn == ("__classdict__" : Str)) = false)
    (hbd : ∀ (kV doc pm cdv ct : Value) (an : Option Addr) (cc : Addr) (a b : Value), bindArgs (ksFn "__init__" qual (defArgs st) (defBody st) (defScope st) .none kV doc pm an cdv ct cc) ⟨[a, b], []⟩ = pure [(("self" : Str), a), (pn, b)])
    (hg : Gl X nm) (hA : PA X (e :: es) ta) (hdb : (nm == ("__debug__" : Str)) = false := by decide) (he : starEach (e :: es) X.env = (false, eval e X.env) :: starEach es X.env := by rfl) (hpl : (backTo pos (starEach es X.env)).any (·.1) = false := by rfl) :
    PMk X (.Call (.Name nm p) (e :: es) [] pos) (tMkO C (spI C fld) [] ta) := by
  subst hK
  subst hm
  subst hP
  obtain ⟨oc, kV, doc, pm, ct, ccl, cl, an, od, cdd, cld, osl, ccs, csl, vs, cda, cc, file, tf, lk, hcd, hcode, hvs, hfile, hcell⟩ := T.ex
  refine pmk_oex (k := 1) T.X.T T.X.iC T.X.tI (init_ok T.X lk hcd hcode hvs hfile hcell T.sg T.no hB hp ha Sc hks hln hpd hpc) hr (ps := ["self", pn]) (ds := []) (dvs := []) (.all fun us hl => ?_) .nil (CX := CX0) pass0 hg T.g hA hdb he hpl
  match us, hl with
  | [a, b], _ => exact hbd kV doc pm (.ref cda) ct an cc a b
end
end ExS

/-! ### repr of any value: None, truth values, numbers, texts, lists, tuples, the empty dict -/
namespace Sy
open PySem PySem.Spec PyProof.Rows L2
open SX (S S_len S_cat S_inj)
/-- a key of a dict as data -/
def keyD : Key → PyData
  | .inl i => .int i
  | .inr x => .str x
mutual
inductive Dx (K : PySem.W.Frag) (H : Hp) : V → PyData → Prop
  | non : Dx K H .non .none
  | bl (b : Bool) : Dx K H (.bl b) (.bool b)
  | int (i : Int) : Dx K H (.int i) (.int i)
  | str (x : Str) : Dx K H (.str x) (.str x)
  | lst {a : Addr} {xs : List V} {ds : List PyData} : SqL K H a xs → a ≠ sysModules → DxAll K H xs ds → Dx K H (.ref a) (.list ds)
  | tup {a : Addr} {xs : List V} {ds : List PyData} : SqT K H a xs → DxAll K H xs ds → Dx K H (.ref a) (.tuple ds)
  | dct {a : Addr} {vs : List (Key × V)} {kds : List (PyData × PyData)} : H a = some (.dK vs) → DxKV K H vs kds → Dx K H (.ref a) (.dict kds)
inductive DxAll (K : PySem.W.Frag) (H : Hp) : List V → List PyData → Prop
  | nil : DxAll K H [] []
  | cons {v : V} {vs : List V} {d : PyData} {ds : List PyData} : Dx K H v d → DxAll K H vs ds → DxAll K H (v :: vs) (d :: ds)
inductive DxKV (K : PySem.W.Frag) (H : Hp) : List (Key × V) → List (PyData × PyData) → Prop
  | nil : DxKV K H [] []
  | cons {k : Key} {v : V} {vs : List (Key × V)} {d : PyData} {kds : List (PyData × PyData)} : Dx K H v d → DxKV K H vs kds → DxKV K H ((k, v) :: vs) ((keyD k, d) :: kds)
end
theorem Dx.emp {K : PySem.W.Frag} {H : Hp} {a : Addr} (h : H a = some (.dK [])) : Dx K H (.ref a) (.dict []) := .dct h .nil
theorem DxKV.keys {K : PySem.W.Frag} {H : Hp} : ∀ {vs : List (Key × V)} {kds : List (PyData × PyData)}, DxKV K H vs kds → kds.map (·.1) = vs.map fun p => keyD p.1
  | _, _, .nil => rfl
  | _, _, .cons _ t => by rw [List.map_cons, List.map_cons, DxKV.keys t]
theorem pairs_vals {P : Program} {w : World} : ∀ {es : List DictEntry} {ws : List (Key × Value)}, Pairs (mixKind P w) es ws → es.map (·.val) = ws.map (·.2)
  | _, _, .nil => rfl
  | _, _, .cons _ h t => by rw [List.map_cons, List.map_cons, h, pairs_vals t]
theorem pairs_keys {P : Program} {w : World} {h : Heap} : ∀ {es : List DictEntry} {ws : List (Key × Value)}, Pairs (mixKind P w) es ws → ∃ as, ReadsAll h (es.map (·.key)) (ws.map fun p => keyD p.1) as ∧ sysModules ∉ as
  | _, _, .nil => ⟨_, .nil, by simp⟩
  | _, _, @Pairs.cons _ _ _ _ _ e kv es kvs h1 h2 t => by
    obtain ⟨as, r, n⟩ := pairs_keys (h := h) t
    rw [List.map_cons, List.map_cons]
    rcases keyIs_shape (show keyIs kv.1 e.key = true from h1) with ⟨i, t9, e1, e2⟩ | ⟨x, t9, e1, e2⟩
    · rw [e1, e2]
      exact ⟨_, .cons (.int i t9) r, by simpa using n⟩
    · rw [e1, e2]
      exact ⟨_, .cons (.str x t9) r, by simpa using n⟩
section
variable {X : Cx} {pins : List (Addr × Obj)} {σ : L2.St} {H : Hp} {s : Shared}
mutual
theorem Dx.reads (I : Inv X pins σ H s) : ∀ (d : PyData) (v : V) (u : Value), Dx X.K H v d → RelV v u → ∃ as, Reads s.heap u d as ∧ sysModules ∉ as
  | .none, _, _, h, r => by
    cases h
    cases r
    exact ⟨_, Reads.none, by simp⟩
  | .bool b, _, _, h, r => by
    cases h
    cases r
    exact ⟨_, Reads.bool b, by simp⟩
  | .int i, _, _, h, r => by
    cases h
    obtain ⟨t, rfl⟩ := r
    exact ⟨_, Reads.int i t, by simp⟩
  | .str x, _, _, h, r => by
    cases h
    obtain ⟨t, rfl⟩ := r
    exact ⟨_, Reads.str x t, by simp⟩
  | .list ds, _, _, h, r => by
    cases h with
    | lst hs hne ha =>
      cases r
      obtain ⟨its, rv, ⟨o, n, ho, hc, _, hd⟩, _⟩ := I.list hs
      obtain ⟨as, hr, hn⟩ := Dx.readsAll I ds _ its ha rv
      refine ⟨_, Reads.list ho hc hd hr, fun z => ?_⟩
      rcases List.mem_cons.mp z with z | z
      · exact hne z.symm
      · exact hn z
  | .tuple ds, _, _, h, r => by
    cases h with
    | tup hs ha =>
      cases r
      obtain ⟨its, rv, ⟨o, ho, hc, n, hd⟩, _⟩ := I.tuple hs
      obtain ⟨as, hr, hn⟩ := Dx.readsAll I ds _ its ha rv
      exact ⟨_, Reads.tuple ho hc hd hr, hn⟩
  | .dict kds, _, _, h, r => by
    cases h with
    | dct e hk =>
      cases r
      obtain ⟨_, hs, vs, rel, o, es, ep, ho, hx, hd, _, hp, _⟩ := dk_of I.hok e
      obtain ⟨as, r1, n1⟩ := pairs_keys (h := s.heap) hp
      obtain ⟨bs, r2, n2⟩ := Dx.readsKV I kds _ vs hk rel
      refine ⟨_, Reads.dict (as := as) (bs := bs) ho hx.1 hd ?_ (by rw [pairs_vals hp]; exact r2), fun z => ?_⟩
      · rw [hk.keys, show (fun p : Key × V => keyD p.1) = keyD ∘ (·.1) from rfl, ← List.map_map, rel.keys, List.map_map]
        exact r1
      · rcases List.mem_append.mp z with z | z
        · rcases List.mem_cons.mp z with z | z
          · rw [← z] at hs
            simp at hs
          · exact n1 z
        · exact n2 z
theorem Dx.readsAll (I : Inv X pins σ H s) : ∀ (ds : List PyData) (vs : List V) (us : List Value), DxAll X.K H vs ds → Vals vs us → ∃ as, ReadsAll s.heap us ds as ∧ sysModules ∉ as
  | [], _, _, h, r => by
    cases h
    cases r
    exact ⟨_, ReadsAll.nil, by simp⟩
  | d :: ds, _, _, h, r => by
    cases h with
    | cons h1 h2 =>
      cases r with
      | cons r1 r2 =>
        obtain ⟨as, q1, n1⟩ := Dx.reads I d _ _ h1 r1
        obtain ⟨bs, q2, n2⟩ := Dx.readsAll I ds _ _ h2 r2
        exact ⟨_, ReadsAll.cons q1 q2, fun z => (List.mem_append.mp z).elim n1 n2⟩
theorem Dx.readsKV (I : Inv X pins σ H s) : ∀ (kds : List (PyData × PyData)) (vs : List (Key × V)) (ws : List (Key × Value)), DxKV X.K H vs kds → KV vs ws → ∃ as, ReadsAll s.heap (ws.map (·.2)) (kds.map (·.2)) as ∧ sysModules ∉ as
  | [], _, _, h, r => by
    cases h
    unfold KV at r
    cases r
    exact ⟨_, ReadsAll.nil, by simp⟩
  | (kd, d) :: kds, _, _, h, r => by
    cases h with
    | cons h1 h2 =>
      unfold KV at r
      cases r with
      | cons r1 r2 =>
        obtain ⟨as, q1, n1⟩ := Dx.reads I d _ _ h1 r1.2
        obtain ⟨bs, q2, n2⟩ := Dx.readsKV I kds _ _ h2 r2
        exact ⟨_, ReadsAll.cons q1 q2, fun z => (List.mem_append.mp z).elim n1 n2⟩
end
/-- data without a dict, or data whose lists do not stand where sys.modules does -/
def Dxx (K : PySem.W.Frag) (H : Hp) (v : V) (d : PyData) : Prop := (Dp K H v d ∧ d.hasDict = false) ∨ Dx K H v d
theorem Dxx.reads (I : Inv X pins σ H s) {d : PyData} {v : V} {u : Value} (h : Dxx X.K H v d) (r : RelV v u) : ∃ as, Reads s.heap u d as ∧ (d.hasDict = true → sysModules ∉ as) := by
  rcases h with ⟨h, hn⟩ | h
  · obtain ⟨as, rd⟩ := Dp.reads I d v u h r
    exact ⟨as, rd, fun z => by rw [hn] at z; cases z⟩
  · obtain ⟨as, rd, n⟩ := Dx.reads I d v u h r
    exact ⟨as, rd, fun _ => n⟩
/-- repr(x) -/
def rReprX (K : PySem.W.Frag) : List V → Hp → VK → Prop := fun xs H Q => ∃ (v : V) (d : PyData), xs = [v] ∧ Dxx K H v d ∧ d.showable = true ∧ d.depth ≤ 60 ∧ d.shown.length ≤ sizeLine ∧ Q (.str d.shown) H
theorem call_reprX (K : PySem.W.Frag) (hK : X.K = K) (gd : X.A.guards = some []) (hu : X.A.units + 64 < cLine) : CallR X (.builtin "repr") (rReprX K) := by
  subst hK
  intro pins s σ H xs us Q I r h
  obtain ⟨v, d, rfl, hd, hs, hp, hz, q⟩ := h
  obtain ⟨u, rfl, ru⟩ := vals1 r
  obtain ⟨as, rd, hn⟩ := hd.reads I ru
  cases rd with
  | none =>
    refine P.repr_of_none ⟨.str _, H, I.tok _, ⟨_, rfl⟩, ?_⟩
    simpa only [PyData.shown] using q
  | bool b =>
    refine P.repr_of_bool ⟨.str _, H, I.tok _, ⟨_, rfl⟩, ?_⟩
    simpa only [PyData.shown] using q
  | int i t =>
    refine P.repr_of_int (by simpa only [PyData.showable, decide_eq_true_eq] using hs) ⟨.str _, H, I.tok _, ⟨_, rfl⟩, ?_⟩
    simpa only [PyData.shown] using q
  | str x t =>
    refine P.repr_of_str ⟨.str _, H, I.tok _, ⟨_, rfl⟩, ?_⟩ (by simpa only [PyData.shown] using hz)
    simpa only [PyData.shown] using q
  | list h1 h2 h3 h4 =>
    refine PySem.repr_of_reads' (.list h1 h2 h3 h4) hs hn gd (by omega) (fun _ _ z => z) (fun h' u tk hk => ?_) hz
    exact ⟨.str _, H, I.kept hk, ⟨u, rfl⟩, q⟩
  | tuple h1 h2 h3 h4 =>
    refine PySem.repr_of_reads' (.tuple h1 h2 h3 h4) hs hn gd (by omega) (fun _ _ z => z) (fun h' u tk hk => ?_) hz
    exact ⟨.str _, H, I.kept hk, ⟨u, rfl⟩, q⟩
  | dict h1 h2 h3 h4 h5 =>
    refine PySem.repr_of_reads' (.dict h1 h2 h3 h4 h5) hs hn gd (by omega) (fun _ _ z => z) (fun h' u tk hk => ?_) hz
    exact ⟨.str _, H, I.kept hk, ⟨u, rfl⟩, q⟩
/-- a new list; it does not stand where sys.modules does -/
def tLstB (t : TA) : TE := fun σ H Q => t σ H fun xs H1 => xs.length ≤ sizeLine ∧ ∀ p, H1 p = none → p ≠ sysModules → Q (.ref p) (upd H1 p (.lst xs))
theorem pe_lstB {es : List Expr} {t : TA} {pos : Pos} (h : PA X es t) : PE X (.List es pos) (tLstB t) := by
  refine ⟨fun pins s σ H Q I hq => wpAny_List_spliced (thn (h.run pos pins s σ H _ I hq) fun us s1 ⟨xs, H1, I1, r, z, q⟩ => ⟨by rw [← r.length]; exact z, ?_⟩)⟩
  have hf : H1 s1.heap.objs.size = none := I1.hok.fresh (Nat.le_refl _)
  refine ⟨.ref s1.heap.objs.size, upd H1 s1.heap.objs.size (.lst xs), I1.laid (t' := s1.toks) (fun b u e => Heap.get?_push_of_some _ e) (Nat.le_refl _) ⟨z, us, 0, r, Heap.get?_push_size _ rfl⟩, rfl, q _ hf fun e => ?_⟩
  exact Nat.lt_irrefl _ (e ▸ I1.big)
end
section
variable {K : PySem.W.Frag} {O : OO} {k : As → OO → Prop} {G G' : Hp}
/-- A tells data that show as d -/
def IsX (K : PySem.W.Frag) (A : As) (d : PyData) : Prop := ∀ G H v, Same G H → A.p G v → Dxx K H v d
theorem isX_of {A : As} {d : PyData} (h : IsD K A d) (n : d.hasDict = false) : IsX K A d := fun G H v e a => .inl ⟨Dp.mono e d v (h _ _ a), n⟩
theorem isD_bo {b : Bool} : IsD K (bo b) (.bool b) := fun G v h => by rw [show v = V.bl b from h]; exact .bl _
/-- a list that does not stand where sys.modules does -/
def lstB (K : PySem.W.Frag) (xs : List As) : As := ⟨fun G v => ∃ a vs, v = .ref a ∧ a ≠ sysModules ∧ G a = some (.lst vs) ∧ All2 G xs vs, fun e h => by
  obtain ⟨a, vs, h1, h0, h2, h3⟩ := h
  exact ⟨a, vs, h1, h0, e _ _ h2, h3.m e⟩⟩
theorem isD_lstB {xs : List As} {ds : List PyData} (h : IsDs K xs ds) : IsD K (lstB K xs) (.list ds) := fun G v z => by
  obtain ⟨a, vs, rfl, h0, h1, h2⟩ := z
  exact .lst (SqL.of h1) (h.all h2)
theorem isX_emp : IsX K (lstB K [dct []]) (.list [.dict []]) := fun G H v e z => by
  obtain ⟨a, vs, rfl, h0, h1, h2⟩ := z
  cases h2 with
  | cons h2 h3 =>
    cases h3
    obtain ⟨b, ws, rfl, h4, h5⟩ := h2
    cases h5
    exact .inr (.lst (SqL.of (e _ _ h1)) h0 (.cons (.emp (e _ _ h4)) .nil))
theorem Go.lstB {L : LL} {t : TA} (h : GoA L O t fun l O1 => l.length ≤ 100000 ∧ k (Sy.lstB K l) O1) : Go L O (tLstB t) k := fun E G0 H0 σ G H Q f s z =>
  h _ _ _ _ _ _ _ f s fun l O1 G1 H1 vs hk f1 s1 a => ⟨a.sz hk.1, fun p np ns => by
    have e := Ext.new (o := .lst vs) f1.gh np
    exact z _ _ _ _ _ hk.2 (f1.ext e) (s1.trans e.g) ⟨p, vs, rfl, ns, upd_same, a.m e.g⟩⟩
theorem v_reprX {A : As} {d : PyData} (h1 : IsX K A d) (s : d.showable = true ∧ d.depth ≤ 60) (hz : d.shown.length ≤ sizeLine) (q : k (tx (shw d)) O) : Vn O (rReprX K) [A] k := fun E G0 H0 G H Q vs f a zz => by
  cases a with
  | cons a r =>
    cases r
    refine ⟨_, d, rfl, h1 _ _ _ f.gh a, s.1, s.2, hz, ?_⟩
    rw [← S_eta d.shown]
    exact zz _ _ _ _ _ q f (Same.refl _) rfl
end
end Sy

/-! ### the least of some texts: min(..), sorted(..)[0] -/
namespace Sy
open PySem PySem.Spec PyProof.Rows L2
open SX (S S_len S_cat S_inj)
/-- m is the least of ws -/
def Least (m : List Nat) (ws : List (List Nat)) : Prop := m ∈ ws ∧ ∀ y ∈ ws, ¬ y < m
theorem Least.uniq {m m' : List Nat} {ws ws' : List (List Nat)} (h : Least m ws) (h' : Least m' ws') (e : ∀ w, w ∈ ws ↔ w ∈ ws') : m = m' := by
  have h1 := h.2 m' ((e m').mpr h'.1)
  have h2 := h'.2 m ((e m).mp h.1)
  exact List.le_antisymm (List.not_lt.mp h1) (List.not_lt.mp h2)
theorem argBest_tx (val : Nat → List Nat) : ∀ k, argBest (fun i j => decide (val i < val j)) k ≤ k ∧ ∀ j ≤ k, ¬ val j < val (argBest (fun i j => decide (val i < val j)) k)
  | 0 => ⟨Nat.le_refl _, fun j hj => by
    obtain rfl : j = 0 := by omega
    exact List.lt_irrefl _⟩
  | k + 1 => by
    obtain ⟨h1, h2⟩ := argBest_tx val k
    unfold argBest
    split
    · rename_i h
      have h := of_decide_eq_true h
      refine ⟨Nat.le_refl _, fun j hj z => ?_⟩
      by_cases e : j = k + 1
      · subst e
        exact List.lt_irrefl _ z
      · exact h2 j (by omega) (List.lt_trans z h)
    · rename_i h
      refine ⟨by omega, fun j hj => ?_⟩
      by_cases e : j = k + 1
      · subst e
        exact fun z => h (decide_eq_true z)
      · exact h2 j (by omega)
def rMinT (K : PySem.W.Frag) : List V → Hp → VK → Prop := fun vs H Q => ∃ (a : Addr) (ws : List (List Nat)), vs = [V.ref a] ∧ SqL K H a (ws.map vS) ∧ ws ≠ [] ∧ ∀ m, Least m ws → Q (.str (S m)) H
theorem call_minT {X : Cx} {K : PySem.W.Frag} (hK : X.K = K) (hc : X.calm = true) : CallR X (.builtin "min") (rMinT K) := by
  subst hK
  intro pins s σ H vs us Q I r h
  obtain ⟨a, ws, rfl, hs, hne, q⟩ := h
  obtain ⟨its, rv, hl, _⟩ := I.list hs
  rw [Vals.ref1 r]
  have len : its.length = ws.length := by
    have := rv.length
    rw [List.length_map] at this
    exact this.symm
  have at_ : ∀ i v, its.toArray[i]? = some v → ∃ t, v = Value.str (S (ws.getD i [])) t := fun i v e => by
    rw [List.getElem?_toArray] at e
    have hi : i < ws.length := by
      have := (List.getElem?_eq_some_iff.mp e).1
      omega
    obtain ⟨u, hu, ru⟩ := Vals.get rv (show (ws.map vS)[i]? = some (vS (ws.getD i [])) by rw [List.getElem?_map, List.getD_eq_getElem?_getD, List.getElem?_eq_getElem hi]; rfl)
    rw [e] at hu
    cases hu
    exact ru
  have hn : 0 < ws.length := List.length_pos_iff.mpr hne
  have hlt : a < s.heap.objs.size := by
    obtain ⟨_, e, _⟩ := hl.isList
    exact Heap.lt_size e
  refine call_min_walk (wpAny_pyIter_list hl.isList ?_)
  refine ⟨_, _, _, _, _, _, fun i j => decide (ws.getD i [] < ws.getD j []), rfl, Walks.list (A := X.A.in1) (I.ok.hd hc) _ a (Nat.ne_of_lt hlt) its.toArray, ⟨⟨_, Heap.get?_push_size _ rfl, rfl, rfl⟩, hl.isList.push _⟩, fun b hb => ?_, by simpa [len] using hn, ?_, ?_⟩
  · show b < (s.heap.push _).objs.size
    rw [Heap.size_push]
    simp only [List.mem_cons, List.not_mem_nil, or_false] at hb
    rcases hb with rfl | rfl
    · exact Nat.lt_succ_self _
    · exact Nat.lt_succ_of_lt hlt
  · intro i j vi vj s' Q' E' hi hj hq
    obtain ⟨t, rfl⟩ := at_ i vi hi
    obtain ⟨u, rfl⟩ := at_ j vj hj
    have e : ∀ l : List Nat, (S l).cps.toList = l := fun l => by simp [S]
    have hq2 : Q' (.bool (decide ((S (ws.getD i [])).cps.toList < (S (ws.getD j [])).cps.toList))) s' := by
      rw [e, e]
      exact hq
    exact (PyProof.Rows.lt_str hq2 : wpAny _ _ (compareOp .Lt (.str _ t) (.str _ u)) Q' E' s')
  · intro v h' tk hv hk
    obtain ⟨t, rfl⟩ := at_ _ v hv
    obtain ⟨b1, b2⟩ := argBest_tx (fun i => ws.getD i []) (ws.length - 1)
    have sz : its.toArray.size = ws.length := by simpa using len
    rw [sz]
    refine ⟨.str (S _), H, I.kept (PySem.old_kept hk), ⟨t, rfl⟩, q _ ⟨?_, fun y hy => ?_⟩⟩
    · rw [List.getD_eq_getElem?_getD, List.getElem?_eq_getElem (show _ < ws.length by omega)]
      exact List.getElem_mem _
    · obtain ⟨j, hj, rfl⟩ := List.mem_iff_getElem.mp hy
      have := b2 j (by omega)
      rw [List.getD_eq_getElem?_getD, List.getElem?_eq_getElem hj] at this
      exact this
section
variable {K : PySem.W.Frag} {O : OO} {k : As → OO → Prop}
theorem v_minT {ws : List (List Nat)} (hn : ws ≠ []) (q : ∀ m, Least m ws → k (tx m) O) : Vn O (rMinT K) [lst K (ws.map tx)] k := fun E G0 H0 G H Q vs f a zz => by
  cases a with
  | cons a r =>
    cases r
    obtain ⟨p, us, rfl, h1, h2⟩ := a
    refine ⟨p, ws, rfl, SqL.of (f.gh _ _ ?_), hn, fun m hm => zz _ _ _ _ _ (q m hm) f (Same.refl _) rfl⟩
    rw [show ws.map vS = us from (All2.map (f := vS).mp h2).symm]
    exact h1
theorem lt_le {a b c : List Nat} (h1 : a < b) (h2 : b ≤ c) : a < c := by
  by_cases e : b = c
  · exact e ▸ h1
  · refine List.lt_trans h1 ?_
    by_cases z : b < c
    · exact z
    · exact absurd (List.le_antisymm h2 (List.not_lt.mp z)) e
theorem rising_le : ∀ {r : List Str} {p : Str}, risingS p r = true → ∀ y ∈ r, ¬ y.cps.toList < p.cps.toList
  | [], _, _, y, hy => by cases hy
  | x :: r, p, h, y, hy => by
    unfold risingS at h
    rw [Bool.and_eq_true] at h
    have h1 : ¬ x.cps.toList < p.cps.toList := fun z => by
      have h0 := h.1
      rw [ltCps_eq, decide_eq_true z] at h0
      cases h0
    rcases List.mem_cons.mp hy with rfl | hy
    · exact h1
    · have h2 := rising_le h.2 y hy
      have h3 : p.cps.toList ≤ x.cps.toList := List.not_lt.mp h1
      exact fun z => h2 (lt_le z h3)
theorem v_sortT {ws : List (List Nat)} (hl : ws.length < 64) (q : ∀ ys : List (List Nat), ys.Perm ws → (∀ m r, ys = m :: r → Least m ws) → k (lst K (ys.map tx)) O) : Vn O (rSortedS K) [lst K (ws.map tx)] k := fun E G0 H0 G H Q vs f a zz => by
  cases a with
  | cons a r =>
    cases r
    obtain ⟨p, us, rfl, h1, h2⟩ := a
    have eu := h2.strs
    refine ⟨p, ws.map S, rfl, SqL.of (f.gh _ _ (eu ▸ h1)), by rw [List.length_map]; exact hl, fun ys p2 hp hs np => ?_⟩
    have ey : ys = (ys.map fun y => y.cps.toList).map S := by
      rw [List.map_map]
      conv => lhs; rw [← List.map_id ys]
      exact List.map_congr_left fun y _ => (S_eta y).symm
    have pm : (ys.map fun y => y.cps.toList).Perm ws := by
      have := hp.map fun y : Str => y.cps.toList
      rw [List.map_map] at this
      rw [show List.map ((fun y : Str => y.cps.toList) ∘ S) ws = ws from by
        conv => rhs; rw [← List.map_id ws]
        exact List.map_congr_left fun y _ => by simp [S]] at this
      exact this
    have ex := Ext.new (o := .lst (ys.map V.str)) f.gh np
    refine zz _ _ _ _ _ (q (ys.map fun y => y.cps.toList) pm fun m r hm => ?_) (f.ext ex) ex.g ⟨p2, ys.map V.str, rfl, upd_same, ?_⟩
    · cases ys with
      | nil => cases hm
      | cons y ys =>
        rw [List.map_cons] at hm
        obtain ⟨rfl, rfl⟩ := List.cons.inj hm
        refine ⟨pm.mem_iff.mp List.mem_cons_self, fun x hx => ?_⟩
        have hx' := pm.mem_iff.mpr hx
        rw [List.map_cons] at hx'
        rcases List.mem_cons.mp hx' with rfl | hx'
        · exact List.lt_irrefl _
        · obtain ⟨z, hz, rfl⟩ := List.mem_map.mp hx'
          exact rising_le hs z hz
    · conv => arg 3; rw [ey]
      exact All2.map.mpr (by rw [List.map_map, List.map_map, List.map_map]; rfl)
end
end Sy

/-! ### list.index of data -/
namespace Sy
open PySem PySem.Spec PyProof.Rows L2
theorem hu65 {k : Nat} {A : Around} (hr : Room k A) : A.units + 65 < cLine := by
  have := hr.un
  omega
theorem kIndexD {X : Cx} {K : PySem.W.Frag} (hK : X.K = K) (hu : X.A.units + 65 < cLine) : MtR X "list.index" (rIndexD K) := by
  subst hK
  exact mt_indexD hu
theorem v_indexD {K : PySem.W.Frag} {O : OO} {k : As → OO → Prop} {xs : List As} {ds : List PyData} {A : As} {d z : PyData} {j : Nat} (h1 : IsDs K xs ds) (h2 : IsD K A d) (s1 : SeqAt.shaped (.list ds) = true) (s2 : SeqAt.shaped d = true) (hz : ds[j]? = some z) (he : PyData.eqv z d = true)
    (hn : ∀ (m : Nat) (z' : PyData), m < j → ds[m]? = some z' → PyData.eqv z' d = false) (q : k (it (j : Int)) O) : Vm O (rIndexD K) (lst K xs) [A] k := fun E G0 H0 G H Q x ys f a b zz => by
  cases b with
  | cons b r =>
    cases r
    have hl := isD_lst (K := K) h1 _ _ a
    obtain ⟨p, vs, rfl, h3, h4⟩ := a
    exact ⟨p, _, d, ds, j, z, rfl, rfl, Dp.mono f.gh _ _ hl, Dp.mono f.gh _ _ (h2 _ _ b), s1, s2, hz, he, hn, zz _ _ _ _ _ q f (Same.refl _) rfl⟩
theorem Slots.re {G : Hp} {A : As} {v : V} (h : A.p G v) : ∀ {L : LL} {σ : L2.St} {i : Nat}, Slots G L σ → L[i]? = some (some (cst v)) → Slots G (setL L i A) σ
  | _, _, i, .nil, e => by simp at e
  | _, _, 0, .un _, e => by simp at e
  | _, _, 0, .im q t, e => by
    simp at e
    subst e
    obtain rfl := (show _ = v from q)
    exact .im h t
  | _, _, i + 1, .un t, e => .un (Slots.re h t (by simpa using e))
  | _, _, i + 1, .im q t, e => .im q (Slots.re h t (by simpa using e))
/-- an owned list that a slot holds is given up: the slot holds the list -/
theorem GoS.frzS {K : PySem.W.Frag} {L : LL} {t : TS} {k : Es} {i : Nat} {D : Addr} {xs : List As} (pre post : OO) (hL : L[i]? = some (some (pt D))) (h : GoS (setL L i (lst K xs)) (pre ++ post) t k) : GoS L (pre ++ (D, .ol xs) :: post) t k := fun E G0 H0 σ G H Q f s e => by
  obtain ⟨w1, w2, vs, hv, av⟩ := f.ow (D, .ol xs) (by simp)
  obtain ⟨fz, sz⟩ := Fr.freeze f rfl hv
  exact h _ _ _ _ _ _ _ fz (Slots.re (A := Sy.lst K xs) ⟨D, vs, rfl, upd_same, av.m sz⟩ (s.m sz) hL) (e.m sz)
end Sy

/-! ### a text times a number; comprehensions whose elements draw -/
namespace Sy
open PySem PySem.Spec PyProof.Rows L2
open SX (S S_len S_cat S_inj)
def repL (l : List Nat) (i : Int) : List Nat := (List.replicate i.toNat l).flatten
theorem repL_len (l : List Nat) (i : Int) : (repL l i).length = i.toNat * l.length := by simp [repL]
theorem fold_arr (a : Array Nat) : ∀ (n : Nat) (b : Array Nat), ((List.replicate n a).foldl (· ++ ·) b).toList = b.toList ++ (List.replicate n a.toList).flatten
  | 0, b => by simp
  | n + 1, b => by
    rw [List.replicate_succ, List.foldl_cons, fold_arr a n, List.replicate_succ, List.flatten_cons, Array.toList_append, List.append_assoc]
theorem mul_S {l : List Nat} {i : Int} (h0 : 0 ≤ i) : Txt.mul (S l) i = S (repL l i) := by
  unfold Txt.mul
  split
  · obtain rfl : i = 0 := by omega
    rfl
  split
  · rename_i h1 h2
    rw [Bool.or_eq_true] at h2
    rcases h2 with h2 | h2
    · obtain rfl : i = 1 := by simpa using h2
      simp [repL]
    · obtain rfl : l = [] := by
        rw [S_len] at h2
        simpa using h2
      unfold repL
      rw [show (List.replicate i.toNat ([] : List Nat)).flatten = [] by simp]
  · refine PySem.Str.ext' (Array.toList_inj.mp ?_)
    rw [fold_arr]
    simp [repL, S]
def rRepS : R2 := fun x y H Q => ∃ (a : Str) (i : Int), x = .str a ∧ y = .int i ∧ 0 ≤ i ∧ i ≤ 1000000 ∧ a.length * i.toNat ≤ 1000000 ∧ Q (.str (Txt.mul a i)) H
theorem op_rep_str {X : Cx} : OpR X (binaryOp .Mult) rRepS := by
  intro pins s σ H x y v u Q I rx ry h
  obtain ⟨a, i, rfl, rfl, h0, h1, h2, q⟩ := h
  obtain ⟨t, rfl⟩ := rx
  obtain ⟨t2, rfl⟩ := ry
  refine PySem.SB.mul ⟨?_, fun _ _ => ?_, fun _ _ => ?_⟩ fun t' k => ⟨.str (Txt.mul a i), H, I.tok k, ⟨t', rfl⟩, q⟩
  · rw [Bool.or_eq_false_iff]
    exact ⟨decide_eq_false (by omega), decide_eq_false (by omega)⟩
  · intro z
    have hi : 0 < i := by omega
    have h3 := (Int.lt_iff_add_one_le.mp (show (2 ^ 63 - 1) / i < (a.length : Int) from z))
    have h4 := (Int.ediv_lt_iff_lt_mul hi).mp (show (2 ^ 63 - 1) / i < (a.length : Int) from z)
    have h5 : (a.length : Int) * i = ((a.length * i.toNat : Nat) : Int) := by
      rw [Int.natCast_mul, Int.toNat_of_nonneg h0]
    rw [h5] at h4
    omega
  · have : a.length * i.toNat ≤ sizeLine := Nat.le_trans h2 (by decide)
    exact PyProof.Rows.short24 (Nat.le_trans h2 (by decide))
section
variable {K : PySem.W.Frag} {O : OO} {k : As → OO → Prop}
theorem v_repS {l : List Nat} {i : Int} (h0 : 0 ≤ i) (h1 : i ≤ 1000000) (h : l.length * i.toNat ≤ 1000000) (q : k (tx (repL l i)) O) : V2 O rRepS (tx l) (it i) k :=
  V2.sc (z := .str (S (repL l i))) (fun _ _ q => ⟨_, _, rfl, rfl, h0, h1, by rw [S_len]; exact h, by rw [mul_S h0]; exact q⟩) q
/-- a comprehension whose elements are texts that draw -/
theorem Go.lcT {L : LL} {wi : TI} {nm : Str} {j : Nat} {te : TE} {P : List Nat → Prop} (c : Nat) (h : GoI L O wi fun xs O1 => ∃ d n R, O1 = (d, OC.dr n) :: R ∧ xs.length < 100000 ∧
      (∀ i A m T, xs[i]? = some A → m ≤ n + c * i → Go (setL (wipeL L [j]) j A) ((d, .dr m) :: (R ++ T)) te fun B O3 => ∃ w m', B = tx w ∧ P w ∧ m' ≤ m + c ∧ O3 = (d, .dr m') :: (R ++ T)) ∧
      ∀ (ws : List (List Nat)) (m : Nat), ws.length = xs.length → (∀ w ∈ ws, P w) → m ≤ n + c * xs.length → k (Sy.lst K (ws.map tx)) ((d, .dr m) :: R)) :
    Go L O (tLc wi (gName j) tYes te (List.map (fun x => x.snd) [(nm, j)])) k := Go.lc (K := K) hg1 fun E G0 H0 σ G H Q f s z => h _ _ _ _ _ _ _ f s fun xs O1 G1 H1 J e => z _ _ _ _ _ (by
    obtain ⟨d, n, R, rfl, hl, he, hq⟩ := e
    refine ⟨fun i acc O' => ∃ ws m, acc = ws.map tx ∧ ws.length = i ∧ (∀ w ∈ ws, P w) ∧ m ≤ n + c * i ∧ O' = (d, .dr m) :: R, ⟨[], n, rfl, rfl, fun w hw => (by cases hw), by omega, rfl⟩, ?_, ?_⟩
    · rintro i A acc O' T hA ⟨ws, m, rfl, hw, hP, hm, rfl⟩
      have hi := (List.getElem?_eq_some_iff.mp hA).1
      refine GoG.name (GoT.yes ?_)
      rw [if_pos rfl]
      refine (he i A m T hA hm).imp fun B O3 q => ?_
      obtain ⟨w, m', rfl, hp, hm', rfl⟩ := q
      refine ⟨(d, .dr m') :: R, rfl, by rw [List.length_map]; omega, ws ++ [w], m', by rw [List.map_append]; rfl, by rw [List.length_append, hw]; rfl, fun v hv => ?_, by rw [Nat.mul_succ]; omega, rfl⟩
      rcases List.mem_append.mp hv with hv | hv
      · exact hP v hv
      · rw [List.mem_singleton.mp hv]; exact hp
    · rintro acc O' ⟨ws, m, rfl, hw, hP, hm, rfl⟩
      exact hq ws m hw hP hm)
end
end Sy

/-! ### enumerate of a text; the place of the first sign -/
namespace ES
open PySem PySem.Spec PyProof.Rows L2
def ItS (x : Str) : It := ⟨fun i _ => i < x.cps.size,
  fun i H v H' => ∃ T c, v = .ref T ∧ H T = none ∧ H' = upd H T (.tup [.int (i : Nat), .str ⟨#[c]⟩]) ∧ x.cps[i]? = some c,
  fun i _ => x.cps.size = i⟩
theorem turn_es {P : Program} {w : World} {K : PySem.W.Frag} {elts : List Expr} {kk : Nat} {tpos : Pos} (x : Str) (t : Tok) (e it : Addr) (ne : e ≠ it) :
    Turn P w K (.Tuple elts kk tpos) (ItS x) [e, it] e (fun i h => (∃ old, IsEnum h e it ((i : Nat) : Int) old) ∧ h.IsStrIter it (strIterType x) x t i) where
  mem := by simp
  obj := fun i h st b hb => by
    obtain ⟨⟨old, c1⟩, ⟨o, c2, _, d2⟩⟩ := st
    have e' : b = e ∨ b = it := by simpa using hb
    rcases e' with rfl | rfl
    · exact ⟨_, c1, fun v q => nomatch q⟩
    · exact ⟨o, c2, fun v q => by rw [d2] at q; cases q⟩
  keep := fun i h h' st k => by
    obtain ⟨⟨old, c1⟩, ⟨o, ho, r⟩⟩ := st
    exact ⟨⟨old, k _ (by simp) _ c1⟩, ⟨o, k _ (by simp) o ho, r⟩⟩
  item := by
    intro X hP hw hK hc i pins s σ H E I hf st hg
    subst hP hw hK
    obtain ⟨⟨old, c1⟩, c2⟩ := st
    have le : e < s.heap.objs.size := Heap.lt_size c1
    have li : it < s.heap.objs.size := by obtain ⟨o, ho, _⟩ := id c2; exact Heap.lt_size ho
    have D := Draws.text (prog := X.prog) (w := X.w) (A := X.A.in1) (I.ok.hd hc) it x t
    refine wpAny_pyNext_enum_itemC D c1 c2 hg ne (by simp [ne]) fun y h' tk hy d1 d2 d3 d4 hk => ?_
    obtain ⟨c, u, hcx, rfl⟩ := hy
    refine ⟨_, rfl, wpAny_letOwnedTupleGo_enum (s := { s with heap := h', toks := tk + 1 }) d1 fun h2 e1 sb => ?_⟩
    have nT : h2.get? s.heap.objs.size = some { cls := .type "tuple", data := .seq #[.int i tk, .str ⟨#[c]⟩ u] } := (sb.2 _ (Nat.ne_of_gt le)).trans d3
    have new : ObjOk X.prog X.w (upd H s.heap.objs.size (.tup [.int (i : Nat), .str ⟨#[c]⟩])) h2 s.heap.objs.size (.tup [.int (i : Nat), .str ⟨#[c]⟩]) :=
      ⟨by show 2 ≤ sizeLine; decide, [.int i tk, .str ⟨#[c]⟩ u], .cons ⟨_, rfl⟩ (.cons ⟨_, rfl⟩ .nil), ⟨_, nT, rfl, _, rfl⟩⟩
    have I1 : Inv X pins σ (upd H s.heap.objs.size (.tup [.int (i : Nat), .str ⟨#[c]⟩])) { s with heap := h2, toks := tk + 1 } := by
      refine I.turnedNew (ch := [e, it]) (fun b o hb q => (sb.2 b ?_).trans (hk b o ?_ ?_ q)) hf (Nat.le_refl _) new
      all_goals exact fun q' => hb (by simp [q'])
    refine ⟨.ref s.heap.objs.size, _, I1, rfl, ⟨_, c, rfl, I.hok.fresh (Nat.le_refl _), rfl, hcx⟩, ⟨⟨(Value.str ⟨#[c]⟩ u), ?_⟩, ?_⟩, fun b hb => ?_⟩
    · have e2 : ((i + 1 : Nat) : Int) = (i : Int) + 1 := by omega
      rw [e2]
      exact e1
    · obtain ⟨o, ho, r⟩ := d2
      exact ⟨o, (sb.2 it (Ne.symm ne)).trans ho, r⟩
    · have lt : b < s.heap.objs.size := by
        have e' : b = e ∨ b = it := by simpa using hb
        rcases e' with rfl | rfl
        · exact le
        · exact li
      rw [upd_ne (Nat.ne_of_lt lt)]
      exact (hf b hb).1
  done := by
    intro X hP hw hK hc i pins s σ H E I hf st hg
    subst hP hw hK
    obtain ⟨⟨old, c1⟩, c2⟩ := st
    have D := Draws.text (prog := X.prog) (w := X.w) (A := X.A.in1) (I.ok.hd hc) it x t
    have hg : x.cps.size = i := hg
    refine wpAny_pyNext_enum_endD D c1 (by rw [hg]; exact c2) fun h' eb => ⟨rfl, I.turnedL (t' := s.toks) (ch := [e, it]) (fun b o hb q => eb b o ?_ q) hf⟩
    exact fun q' => hb (by simp [q'])
  self := fun A i s Q E st h => let ⟨⟨_, c1⟩, _⟩ := st; wpAny_pyIter_enum c1 h
theorem walk_es {x : Str} : Walk (ItS x) x.cps.size (fun _ => True) (YPair (fun i => some (.int (i : Nat))) (fun i => x.cps[i]?.map fun c => .str ⟨#[c]⟩)) := by
  refine ⟨fun i _ hi _ => hi, fun _ _ => rfl, fun i H v H' _ _ y => ?_⟩
  obtain ⟨T, c, h1, h2, h3, h4⟩ := y
  exact ⟨T, .int (i : Nat), _, h1, h2, h3, rfl, (by show (x.cps[i]?).map _ = _; rw [h4]; rfl)⟩
def iEs (ta : TA) : TI := fun σ H R => ta σ H fun vs H1 => ∃ x, vs = [.str x] ∧ R (ItS x) H1
theorem pi_es {X : Cx} {e : Expr} {ta : TA} {p pos tpos : Pos} {elts : List Expr} {kk : Nat} (hg : Gl X "enumerate") (hm : X.mg "enumerate" = none) (ha : PA X [e] ta) (hs : starEach [e] X.env = [(false, eval e X.env)] := by rfl) :
    PI X (.Tuple elts kk tpos) (.Call (.Name "enumerate" p) [e] [] pos) (iEs ta) := by
  refine ⟨fun pins s σ H R I h => ?_⟩
  refine Call_ (ld_blt I hg hm boot_enumerate (PyProof.Rows.callWith_type1 (thn (ha.run pos pins s σ H _ I h) fun us s1 ⟨vs, H1, I1, r1, q1⟩ => ?_) hs rfl))
  obtain ⟨x, ex, q⟩ := q1
  subst ex
  cases r1 with
  | cons r rr =>
    cases rr
    obtain ⟨t, rfl⟩ := r
    refine ET.call_en (begins_text x t) trivial fun h' c1 c2 hk => wpAny_pyIter_enum c1 ?_
    refine ⟨s1.heap.objs.size + 1, [s1.heap.objs.size + 1, s1.heap.objs.size], _, _, H1, rfl, I1.kept (t' := s1.toks) hk, turn_es x t (s1.heap.objs.size + 1) s1.heap.objs.size (Nat.succ_ne_self _), ⟨⟨.none, c1⟩, ⟨_, c2, rfl, rfl⟩⟩, fun b hb => ?_, q⟩
    have e' : b = s1.heap.objs.size + 1 ∨ b = s1.heap.objs.size := by simpa using hb
    have le : s1.heap.objs.size ≤ b := by
      rcases e' with w | w <;> (rw [w]; first | exact Nat.le_refl _ | exact Nat.le_add_right _ _)
    exact I1.fpOk le (I1.hok.fresh le)
end ES
namespace Sy
open PySem PySem.Spec PyProof.Rows L2
open SX (S S_len S_cat S_inj)
theorem GoI.enumS {K : PySem.W.Frag} {L : LL} {O : OO} {ta : TA} {k : List As → OO → Prop} (h : GoA L O ta fun l O1 => ∃ z, l = [tx z] ∧ k (enA K (z.map fun c => tx [c])) O1) : GoI L O (ES.iEs ta) k := fun E G0 H0 σ G H R f s zz =>
  h _ _ _ _ _ _ _ f s fun l O1 G1 H1 vs q f1 s1 a => by
    obtain ⟨z, rfl, q⟩ := q
    cases a with
    | cons a r =>
      cases r
      have size : (S z).cps.size = z.length := by simp [S]
      refine ⟨S z, by rw [show _ = V.str (S z) from a], zz _ _ _ _ _ q f1 s1 (pair_ok (n := (S z).cps.size) ES.walk_es (by simp [nums, size]) (by simp [size]) (fun H e => trivial) (fun i v hi e => ?_) (fun i v hi e => ?_))⟩
      · obtain rfl := Option.some.inj e
        exact nums_at (by rw [List.length_map, ← size]; exact hi)
      · obtain ⟨c, hc, rfl⟩ := Option.map_eq_some_iff.mp e
        have hc' : z[i]? = some c := by
          have : (S z).cps[i]? = z[i]? := by simp [S]
          rw [← this]
          exact hc
        exact ⟨tx [c], by rw [List.getElem?_map, hc']; rfl, rfl⟩
end Sy
namespace Sy
open PySem PySem.Spec PyProof.Rows L2
open SX (S S_len S_cat S_inj)
theorem occ_sign {l : List Nat} {c i : Nat} (h1 : l[i]? = some c) (h2 : ∀ k < i, l[k]? ≠ some c) : ∃ r, Builtin.Str.occurrences (S l) (S [c]) 0 (S l).length 1 = i :: r := by
  have e : ∀ j, StrLaws.At (S l) (S [c]) (S l).length j ↔ l[j]? = some c := fun j => StrLaws.subAt_one (S l) c j
  rcases StrLaws.occ_head (S l) (S [c]) 1 (Nat.le_refl 1) with ⟨_, hn⟩ | ⟨j, r, h0, hi, hn⟩
  · exact absurd ((e i).mpr h1) (hn i)
  · have hj := (e j).mp hi
    rcases Nat.lt_trichotomy i j with z | z | z
    · exact absurd ((e i).mpr h1) (hn i z)
    · subst z; exact ⟨r, h0⟩
    · exact absurd hj (h2 j z)
/-- what stands ahead of the first c -/
def upto (c : Nat) (l : List Nat) : List Nat := l.takeWhile (· != c)
theorem upto_len (c : Nat) : ∀ l : List Nat, (upto c l).length ≤ l.length
  | [] => Nat.le_refl _
  | a :: l => by
    have := upto_len c l
    unfold upto at this ⊢
    rw [List.takeWhile_cons]
    split
    · simp only [List.length_cons]; omega
    · simp
theorem upto_take (c : Nat) (l : List Nat) : l.take (upto c l).length = upto c l := by
  unfold upto
  conv => lhs; rhs; rw [← List.takeWhile_append_dropWhile (p := (· != c)) (l := l)]
  rw [List.take_left]
theorem upto_none {c : Nat} : ∀ {l : List Nat}, c ∉ l → upto c l = l
  | [], _ => rfl
  | a :: l, h => by
    have h1 : a ≠ c := fun e => h (e ▸ List.mem_cons_self)
    have ih := upto_none (c := c) (l := l) fun m => h (List.mem_cons_of_mem _ m)
    unfold upto at ih ⊢
    rw [List.takeWhile_cons_of_pos (by simpa using h1), ih]
theorem upto_at {c : Nat} : ∀ {l : List Nat}, c ∈ l → l[(upto c l).length]? = some c ∧ ∀ k < (upto c l).length, l[k]? ≠ some c
  | [], h => by cases h
  | a :: l, h => by
    unfold upto
    by_cases e : a = c
    · subst e
      rw [List.takeWhile_cons_of_neg (by simp)]
      exact ⟨rfl, fun k hk => absurd hk (Nat.not_lt_zero _)⟩
    · rw [List.takeWhile_cons_of_pos (by simpa using e)]
      have hm : c ∈ l := by
        rcases List.mem_cons.mp h with h | h
        · exact absurd h.symm e
        · exact h
      obtain ⟨i1, i2⟩ := upto_at hm
      unfold upto at i1 i2
      refine ⟨by simpa using i1, fun k hk => ?_⟩
      cases k with
      | zero => simpa using e
      | succ k => simpa using i2 k (by simpa using hk)
theorem v_indexS {O : OO} {k : As → OO → Prop} {l : List Nat} {c : Nat} (h : c ∈ l) (q : k (it ((upto c l).length : Int)) O) : Vm O (fun x xs H Q => ∃ a b i rest, x = .str a ∧ xs = [.str b] ∧ Builtin.Str.occurrences a b 0 a.length 1 = i :: rest ∧ Q (.int (i : Nat)) H) (tx l) [tx [c]] k := by
  obtain ⟨h1, h2⟩ := upto_at h
  obtain ⟨r, hr⟩ := occ_sign h1 h2
  exact Vm.sc1 (z := .int ((upto c l).length : Int)) (fun _ _ q => ⟨_, _, _, _, rfl, rfl, hr, q⟩) q
end Sy

/-! ### text.strip(signs), text.find(sign) -/
namespace Sy
open PySem PySem.Spec PyProof.Rows L2
open SX (S S_len S_cat S_inj)
/-- without the signs that p names at both ends -/
def trimL (p : Nat → Bool) (l : List Nat) : List Nat := ((l.dropWhile p).reverse.dropWhile p).reverse
theorem drop_tw (p : Nat → Bool) (l : List Nat) : l.drop (l.takeWhile p).length = l.dropWhile p := by
  conv => lhs; rhs; rw [← List.takeWhile_append_dropWhile (p := p) (l := l)]
  rw [List.drop_left]
theorem stripBy_S (p : Nat → Bool) (l : List Nat) : Txt.stripBy p true true (S l) = S (trimL p l) := by
  rw [stripBy_eq]
  have e0 : stripLo p true (S l) = (l.takeWhile p).length := by
    unfold stripLo
    rw [if_pos rfl]
  have e1 : stripHi p true (S l) (l.takeWhile p).length = l.length - ((l.dropWhile p).reverse.takeWhile p).length := by
    unfold stripHi
    rw [if_pos rfl, S_len, ← drop_tw]
  rw [e0, e1]
  refine PySem.Str.ext' (Array.toList_inj.mp ?_)
  show ((S l).cps.extract _ _).toList = trimL p l
  rw [Array.toList_extract]
  show ((l.drop (l.takeWhile p).length).take (l.length - ((l.dropWhile p).reverse.takeWhile p).length - (l.takeWhile p).length)) = _
  rw [drop_tw]
  unfold trimL
  rw [← drop_tw p (l.dropWhile p).reverse, List.reverse_drop, List.reverse_reverse, List.length_reverse]
  congr 1
  have h : (l.takeWhile p).length + (l.dropWhile p).length = l.length := by rw [← List.length_append, List.takeWhile_append_dropWhile]
  omega
theorem strip_S (l b : List Nat) : Txt.stripChars (S l) (S b) = S (trimL (fun c => decide (c ∈ b)) l) := by
  unfold Txt.stripChars
  have : (S b).cps.contains = fun c => decide (c ∈ b) := funext fun c => by
    show b.toArray.contains c = _
    rw [List.contains_toArray]
    by_cases h : c ∈ b
    · rw [decide_eq_true h]; exact List.contains_iff_mem.mpr h
    · rw [decide_eq_false h]
      exact Bool.eq_false_iff.mpr fun z => h (List.contains_iff_mem.mp z)
  rw [this, stripBy_S]
theorem trimL_len (p : Nat → Bool) (l : List Nat) : (trimL p l).length ≤ l.length := by
  unfold trimL
  rw [List.length_reverse]
  have h1 := (List.dropWhile_suffix (l := (l.dropWhile p).reverse) p).length_le
  have h2 := (List.dropWhile_suffix (l := l) p).length_le
  rw [List.length_reverse] at h1
  omega
theorem v_strip {O : OO} {k : As → OO → Prop} {l b : List Nat} (hl : l.length ≤ 100000) (q : k (tx (trimL (fun c => decide (c ∈ b)) l)) O) : Vm O (fun x xs H Q => ∃ a b, x = .str a ∧ xs = [.str b] ∧ a.length ≤ sizeLine ∧ Q (.str (Txt.stripChars a b)) H) (tx l) [tx b] k :=
  Vm.sc1 (z := .str (S (trimL (fun c => decide (c ∈ b)) l))) (fun _ _ q => ⟨_, _, rfl, rfl, by rw [S_len]; exact Nat.le_trans hl (by decide), by rw [strip_S]; exact q⟩) q
def findI (c : Nat) (l : List Nat) : Int := if decide (c ∈ l) = true then ((upto c l).length : Int) else -1
theorem find_S (l : List Nat) (c : Nat) : Txt.find (S l) (S [c]) = findI c l := by
  unfold findI Txt.find
  by_cases h : c ∈ l
  · obtain ⟨h1, h2⟩ := upto_at h
    obtain ⟨r, hr⟩ := occ_sign h1 h2
    rw [hr, if_pos (decide_eq_true h)]
  · rw [if_neg (by simpa using h)]
    have e : ∀ j, StrLaws.At (S l) (S [c]) (S l).length j ↔ l[j]? = some c := fun j => StrLaws.subAt_one (S l) c j
    rcases StrLaws.occ_head (S l) (S [c]) 1 (Nat.le_refl 1) with ⟨h0, _⟩ | ⟨j, r, h0, hi, _⟩
    · rw [h0]
    · exact absurd (List.mem_of_getElem? ((e j).mp hi)) h
theorem v_find1 {O : OO} {k : As → OO → Prop} {l : List Nat} {c : Nat} (q : k (it (findI c l)) O) : Vm O (fun x xs H Q => ∃ a b, x = .str a ∧ xs = [.str b] ∧ Q (.int (Txt.find a b)) H) (tx l) [tx [c]] k := v_find (by rw [find_S]; exact q)
end Sy

/-! ### the rules found by their heads: one step -/
namespace Sy
open PySem PySem.Spec PyProof.Rows L2
open SX (S S_len S_cat S_inj)
/-- the question g is answered by p -/
class Stp (g : Prop) (p : outParam Prop) : Prop where
  go : p → g
theorem ff9 {p : Prop} (h : false = true) : p := by cases h
theorem tf9 {p : Prop} (h : true = false) : p := by cases h
class LitS (z : Str) (l : outParam (List Nat)) : Prop where
  eq : z = S l
/-- a side condition of a product -/
inductive Sde (p : Prop) : Prop
  | mk (h : p)
  | mk2 (h : p)
theorem Sde.out {p : Prop} (h : Sde p) : p := by
  cases h with
  | mk h => exact h
  | mk2 h => exact h
/-- the place of an owned object -/
class OwnAt (O : OO) (D : Addr) (pre : outParam OO) (c : outParam OC) (post : outParam OO) : Prop where
  eq : O = pre ++ (D, c) :: post
instance OwnAt.tl {x : Addr × OC} {O pre post : OO} {D : Addr} {c : OC} [h : OwnAt O D pre c post] : OwnAt (x :: O) D (x :: pre) c post := ⟨by rw [h.eq]; rfl⟩
instance OwnAt.hd {O : OO} {D : Addr} {c : OC} : OwnAt ((D, c) :: O) D [] c O := ⟨rfl⟩
instance OwnAt.atl {x : Addr × OC} {l r pre post : OO} {D : Addr} {c : OC} [h : OwnAt (l ++ r) D pre c post] : OwnAt ((x :: l) ++ r) D (x :: pre) c post := ⟨by rw [List.cons_append, h.eq]; rfl⟩
instance OwnAt.ahd {l r : OO} {D : Addr} {c : OC} : OwnAt (((D, c) :: l) ++ r) D [] c (l ++ r) := ⟨rfl⟩
instance OwnAt.anl {r pre post : OO} {D : Addr} {c : OC} [h : OwnAt r D pre c post] : OwnAt ([] ++ r) D pre c post := ⟨h.eq⟩
class MapTx (l : List As) (ns : outParam (List (List Nat))) : Prop where
  eq : l = ns.map tx
instance : MapTx [] [] := ⟨rfl⟩
instance {a : List Nat} {l : List As} {ns : List (List Nat)} [h : MapTx l ns] : MapTx (tx a :: l) (a :: ns) := ⟨by rw [h.eq]; rfl⟩
instance {ns : List (List Nat)} : MapTx (ns.map tx) ns := ⟨rfl⟩
instance {ns : List (List Nat)} : MapTx (ns.map fun x => tx x) ns := ⟨rfl⟩
class MapIt (l : List As) (ns : outParam (List Int)) : Prop where
  eq : l = ns.map it
instance : MapIt [] [] := ⟨rfl⟩
instance {a : Int} {l : List As} {ns : List Int} [h : MapIt l ns] : MapIt (it a :: l) (a :: ns) := ⟨by rw [h.eq]; rfl⟩
instance {ns : List Int} : MapIt (ns.map it) ns := ⟨rfl⟩
class KeyA (A : As) (key : outParam Key) : Prop where
  eq : A = cst (kV key)
instance {l : List Nat} : KeyA (tx l) (.inr (S l)) := ⟨rfl⟩
instance {i : Int} : KeyA (it i) (.inl i) := ⟨rfl⟩
instance {O pre post : OO} {D : Addr} {B : As} {key : Key} {pb : Bool} {kvs : List (Key × As)} {P : Bool → Addr → List (Key × As) → OO → OO → Key → Prop} [h : KeyA B key] [g : OwnAt O D pre (.od pb kvs) post] :
    Stp (∃ (pb' : Bool) (d : Addr) (kvs' : List (Key × As)) (pre' post' : OO) (key' : Key), pt D = pt d ∧ B = cst (kV key') ∧ O = pre' ++ (d, .od pb' kvs') :: post' ∧ P pb' d kvs' pre' post' key') (P pb D kvs pre post key) := ⟨fun q => ⟨pb, D, kvs, pre, post, key, rfl, h.eq, g.eq, q⟩⟩
theorem dr1 {d : Addr} {n : Nat} : ∀ x ∈ [(d, OC.dr n)], x.2.par = true := fun x hx => by rw [List.mem_singleton.mp hx]; rfl
section
variable {K : PySem.W.Frag} {L : LL} {O : OO} {te tb ta tc : TE} {t : TA} {tt : TT} {u v : TS} {E : Es} {k : As → OO → Prop} {kb : Bool → OO → Prop} {kl : List As → OO → Prop}
/-! statements -/
instance : Stp (GoS L O tNext E) (E.nx L O) := ⟨GoS.nil⟩
instance : Stp (GoS L O (tSeq u v) E) (GoS L O u (E.then fun L' O' => GoS L' O' v E)) := ⟨GoS.seq⟩
instance : Stp (GoS L O (C8.tCut u v) E) (GoS L O u (E.then fun L' O' => GoS L' O' v E)) := ⟨GoS.cut⟩
instance : Stp (GoS L O tRetN E) (E.rt no O) := ⟨GoS.retN⟩
instance : Stp (GoS L O tBreak E) (E.bk L O) := ⟨GoS.brk⟩
instance : Stp (GoS L O tCont E) (E.ct L O) := ⟨GoS.cont⟩
instance : Stp (GoS L O (tDrop te) E) (Go L O te fun _ O1 => E.nx L O1) := ⟨GoS.drop⟩
instance {i : Nat} : Stp (GoS L O (tAsg te (gName i)) E) (Go L O te fun A O1 => E.nx (setL L i A) O1) := ⟨GoS.set⟩
instance (priority := low) {g : TG} : Stp (GoS L O (tAsg te g) E) (Go L O te fun A O1 => GoG L A g fun L' => E.nx L' O1) := ⟨GoS.asg⟩
instance {i j : Nat} : Stp (GoS L O (tPar i j t) E) (GoA L O t fun l O1 => ∃ A B, l = [A, B] ∧ E.nx (setL (setL L i A) j B) O1) := ⟨GoS.par⟩
instance {i j m : Nat} : Stp (GoS L O (tPar3 i j m t) E) (GoA L O t fun l O1 => ∃ A B C, l = [A, B, C] ∧ E.nx (setL (setL (setL L i A) j B) m C) O1) := ⟨GoS.par3⟩
instance {A : As} {i : Nat} {kk : LL → Prop} : Stp (GoG L A (gName i) kk) (kk (setL L i A)) := ⟨GoG.name⟩
instance {kk : LL → Prop} : Stp (GoGs L [] gNil kk) (kk L) := ⟨GoGs.nil⟩
instance {A : As} {l : List As} {g : TG} {gs : TGs} {kk : LL → Prop} : Stp (GoGs L (A :: l) (gCons g gs) kk) (GoG L A g fun L' => GoGs L' l gs kk) := ⟨GoGs.cons⟩
instance {l : List As} {n : Nat} {gs : TGs} {kk : LL → Prop} : Stp (GoG L (tup K l) (gTup K n gs) kk) (l.length = n ∧ GoGs L l gs kk) := ⟨fun h => GoG.tup h.1 h.2⟩
/-! ends -/
instance {α : Type} {r : α → As} {a : α} {A : As} : Stp ((eR fun A O' => A = r a ∧ O' = []).rt A []) (A = r a) := ⟨fin_P⟩
instance {α : Type} {post : α → As → Prop} {a : α} {A : As} : Stp ((eR fun A O' => O' = [] ∧ post a A).rt A []) (post a A) := ⟨fin_Q⟩
/-! expressions -/
instance {i : Int} : Stp (Go L O (tC (.int i)) k) (k (it i) O) := ⟨Go.c⟩
instance {b : Bool} : Stp (Go L O (tC (.bl b)) k) (k (bo b) O) := ⟨Go.c⟩
instance : Stp (Go L O (tC .non) k) (k no O) := ⟨Go.c⟩
instance {T : String} : Stp (Go L O (tC (.ty T)) k) (k (cst (.ty T)) O) := ⟨Go.c⟩
instance {z : Str} {l : List Nat} [h : LitS z l] : Stp (Go L O (tC (.str z)) k) (k (tx l) O) := ⟨Go.cS h.eq⟩
instance {r : R2} : Stp (Go L O (tOp r ta tb) k) (Go L O ta fun A O1 => Go L O1 tb fun B O2 => V2 O2 r A B k) := ⟨Go.op⟩
instance {r : V → Hp → VK → Prop} : Stp (Go L O (tUn r ta) k) (Go L O ta fun A O1 => V1 O1 r A k) := ⟨Go.un⟩
instance : Stp (Go L O (tNotV ta) k) (Go L O ta fun A O1 => ∃ b, A = bo b ∧ k (bo (!b)) O1) := ⟨Go.notV⟩
instance : Stp (Go L O tDNewK k) (k (dct []) O) := ⟨Go.dnew⟩
instance {r : List V → Hp → VK → Prop} : Stp (Go L O (tCB r t) k) (GoA L O t fun l O1 => Vn O1 r l k) := ⟨Go.cb⟩
instance {T : String} {r : V → List V → Hp → VK → Prop} : Stp (Go L O (tBM0 K T r ta) k) (Go L O ta fun A O1 => TyA K T A O1 ∧ Vm O1 r A [] k) := ⟨Go.bm0⟩
instance {r : V → List V → Hp → VK → Prop} : Stp (Go L O (tM1 r ta te) k) (Go L O ta fun A O1 => (∃ a, A = cst (.str a)) ∧ Go L O1 te fun B O2 => Vm O2 r A [B] k) := ⟨Go.m1⟩
instance {r : V → List V → Hp → VK → Prop} : Stp (Go L O (tM0 r ta) k) (Go L O ta fun A O1 => (∃ a, A = cst (.str a)) ∧ Vm O1 r A [] k) := ⟨Go.m0⟩
instance {r : V → Option Int → Option Int → Hp → VK → Prop} {tl th : TO} : Stp (Go L O (tSl r te tl th) k) (Go L O te fun A O1 => GoO L O1 tl fun lo O2 => GoO L O2 th fun hi O3 => Vs O3 r A lo hi k) := ⟨Go.sl⟩
instance {kk : Option Int → OO → Prop} : Stp (GoO L O tNoPart kk) (kk none O) := ⟨GoO.none⟩
instance {kk : Option Int → OO → Prop} : Stp (GoO L O (tPart te) kk) (Go L O te fun A O1 => ∃ i, A = it i ∧ kk (some i) O1) := ⟨GoO.part⟩
instance : Stp (GoA L O tNil kl) (kl [] O) := ⟨GoA.nil⟩
instance : Stp (GoA L O (tCons ta t) kl) (Go L O ta fun A O1 => GoA L O1 t fun l O2 => kl (A :: l) O2) := ⟨GoA.cons⟩
/-! tests -/
instance : Stp (GoT L O (tB te) kb) (Go L O te fun A O1 => ∃ b, A = bo b ∧ kb b O1) := ⟨GoT.b⟩
instance : Stp (GoT L O (tTest te) kb) (Go L O te fun A O1 => ∃ b, A = bo b ∧ kb b O1) := ⟨GoT.test⟩
instance : Stp (GoT L O (tTruQ K te) kb) (Go L O te fun A O1 => ∃ b, TruA K A O1 b ∧ kb b O1) := ⟨GoT.tru⟩
instance : Stp (GoT L O (tNot tt) kb) (GoT L O tt fun b O1 => kb (!b) O1) := ⟨GoT.not⟩
instance : Stp (GoT L O tYes kb) (kb true O) := ⟨GoT.yes⟩
/-! walks -/
instance : Stp (GoI L O (iList K te) kl) (Go L O te fun A O1 => ∃ xs, A = lst K xs ∧ kl xs O1) := ⟨GoI.ofL⟩
instance : Stp (GoI L O (iTup K te) kl) (Go L O te fun A O1 => ∃ xs, A = tup K xs ∧ kl xs O1) := ⟨GoI.ofT⟩
instance : Stp (GoI L O (iStr te) kl) (Go L O te fun A O1 => ∃ l, A = tx l ∧ kl (l.map fun c => tx [c]) O1) := ⟨GoI.str⟩
instance : Stp (GoI L O (iRng1 t) kl) (GoA L O t fun l O1 => ∃ j : Int, l = [it j] ∧ (-(2 ^ 62) ≤ j ∧ j < 2 ^ 62) ∧ kl (rngA 0 j.toNat) O1) := ⟨GoI.rng1⟩
instance : Stp (GoI L O (iRng2 t) kl) (GoA L O t fun l O1 => ∃ i j : Int, l = [it i, it j] ∧ (-(2 ^ 62) ≤ i ∧ i < 2 ^ 62 ∧ -(2 ^ 62) ≤ j ∧ j < 2 ^ 62) ∧ kl (rngA i (j - i).toNat) O1) := ⟨GoI.rng2⟩
instance : Stp (GoI L O (iEnum K t) kl) (GoA L O t fun l O1 => ∃ xs, l = [lst K xs] ∧ kl (enA K xs) O1) := ⟨GoI.enum⟩
instance : Stp (GoI L O (ET.iEn K t) kl) (GoA L O t fun l O1 => ∃ xs, l = [tup K xs] ∧ kl (enA K xs) O1) := ⟨GoI.enumT⟩
/-! calls -/
instance (priority := low) {α : Type} {pre : α → Prop} {as : α → List As} {r : α → As} {X : XK} : Stp (Go L O (tCall (SpP pre as r) [] X t) k) (GoA L O t fun l O1 => ∃ a, l = as a ∧ pre a ∧ k (r a) O1) := ⟨Go.callP⟩
instance {α β : Type} {pre : α × β → Prop} {as : α × β → List As} {r : α × β → As} {X : XK} : Stp (Go L O (tCall (SpP pre as r) [] X t) k) (GoA L O t fun l O1 => ∃ a b, l = as (a, b) ∧ pre (a, b) ∧ k (r (a, b)) O1) := ⟨Go.callP2⟩
instance (priority := high) {α β γ : Type} {pre : α × β × γ → Prop} {as : α × β × γ → List As} {r : α × β × γ → As} {X : XK} : Stp (Go L O (tCall (SpP pre as r) [] X t) k) (GoA L O t fun l O1 => ∃ a b c, l = as (a, b, c) ∧ pre (a, b, c) ∧ k (r (a, b, c)) O1) := ⟨Go.callP3⟩
instance {X : XK} : Stp (Go L O (tCall SpDigit [] X t) k) (GoA L O t fun l O1 => ∃ d m n R, l = [pt d, it m] ∧ O1 = (d, .dr n) :: R ∧ (0 < m ∧ m < 1000000000000 ∧ n ≤ 100000000) ∧ ∀ i : Int, 0 ≤ i → i < m → k (it i) ((d, .dr (n + 4)) :: R)) := ⟨Go.digit⟩
/-! numbers -/
instance {i j : Int} : Stp (V2 O rAdd (it i) (it j) k) (k (it (i + j)) O) := ⟨v_addI⟩
instance {i j : Int} : Stp (V2 O rSub (it i) (it j) k) (k (it (i - j)) O) := ⟨v_subI⟩
instance (priority := low) {i j : Int} {g : Int → Int → V} : Stp (V2 O (rI0 g) (it i) (it j) k) (k (cst (g i j)) O) := ⟨v_add⟩
instance {i : Int} {g : Int → V} : Stp (V1 O (rU g) (it i) k) (k (cst (g i)) O) := ⟨v_rU⟩
instance {i j : Int} : Stp (V2 O (rI0 fun i j => .bl (decide (i < j))) (it i) (it j) k) (k (bo (decide (i < j))) O) := ⟨v_lt⟩
instance {i j : Int} : Stp (V2 O (rI0 fun i j => .bl (decide (i ≤ j))) (it i) (it j) k) (k (bo (decide (i ≤ j))) O) := ⟨v_le⟩
instance {i j : Int} : Stp (V2 O (rI0 fun i j => .bl (decide (j < i))) (it i) (it j) k) (k (bo (decide (j < i))) O) := ⟨v_gt⟩
instance {i j : Int} : Stp (V2 O (rI0 fun i j => .bl (decide (j ≤ i))) (it i) (it j) k) (k (bo (decide (j ≤ i))) O) := ⟨v_ge⟩
instance {i j : Int} : Stp (V2 O rEq (it i) (it j) k) (k (bo (decide (i = j))) O) := ⟨v_eqI⟩
instance {i j : Int} : Stp (V2 O rNe (it i) (it j) k) (k (bo (!decide (i = j))) O) := ⟨v_neI⟩
instance {a b : List Nat} : Stp (V2 O rEq (tx a) (tx b) k) (k (bo (decide (a = b))) O) := ⟨v_eqS⟩
instance {a b : List Nat} : Stp (V2 O rNe (tx a) (tx b) k) (k (bo (!decide (a = b))) O) := ⟨v_neS⟩
instance {a b : Bool} : Stp (V2 O rEq (bo a) (bo b) k) (k (bo (a == b)) O) := ⟨v_eqB⟩
instance {a b : Bool} : Stp (V2 O rNe (bo a) (bo b) k) (k (bo (!(a == b))) O) := ⟨v_neB⟩
instance {x : V} : Stp (V2 O (fun x y H Q => y = V.non ∧ Q (V.bl (decide (x = V.non))) H) (cst x) (cst .non) k) (k (bo (decide (x = .non))) O) := ⟨v_isN⟩
instance {x : V} : Stp (V2 O (fun x y H Q => y = V.non ∧ Q (V.bl (!decide (x = V.non))) H) (cst x) (cst .non) k) (k (bo (!decide (x = .non))) O) := ⟨v_notN⟩
instance {i j : Int} : Stp (V2 O (rI (fun _ j => j ≠ 0) fun i j => .int (i.fmod j)) (it i) (it j) k) (j ≠ 0 ∧ k (it (i.fmod j)) O) := ⟨fun h => v_mod h.1 h.2⟩
instance {i j : Int} : Stp (V2 O (rI CDivN fun i j => .int (i.fdiv j)) (it i) (it j) k) ((j ≠ 0 ∧ j.natAbs < 1073741824) ∧ k (it (i.fdiv j)) O) := ⟨fun h => v_fdiv h.1 h.2⟩
instance {i j : Int} : Stp (V2 O (rI CDivW fun i j => .int (i / j)) (it i) (it j) k) ((0 < j ∧ j < 1000000000000) ∧ k (it (i / j)) O) := ⟨fun h => v_fdivW h.1 h.2⟩
instance {i j : Int} {C : Int → Int → Prop} : Stp (V2 O (rI C fun i j => .int (i * j)) (it i) (it j) k) (Sde (C i j) ∧ k (it (i * j)) O) := ⟨fun h => v_mul h.1.out h.2⟩
instance (priority := high) {o : Option Int} : Stp (V2 O (fun x y H Q => y = V.non ∧ Q (V.bl (decide (x = V.non))) H) (oI o) (cst .non) k) (k (bo o.isNone) O) := ⟨v_isNO⟩
instance (priority := high) {o : Option Int} : Stp (V2 O (fun x y H Q => y = V.non ∧ Q (V.bl (!decide (x = V.non))) H) (oI o) (cst .non) k) (k (bo o.isSome) O) := ⟨v_notNO⟩
instance {o : Option As} : Stp (V2 O (fun x y H Q => y = V.non ∧ Q (V.bl (!decide (x = V.non))) H) (op o) (cst .non) k) ((∀ A, o = some A → NN A) ∧ k (bo o.isSome) O) := ⟨fun h => v_notOp h.1 h.2⟩
instance {α : Type} {l : List α} {f : α → Option Int} : Stp (V2 O (rIn K false) (cst .non) (lst K (l.map fun x => oI (f x))) k) (k (bo (l.any fun x => (f x).isNone)) O) := ⟨v_noIn⟩
instance {α : Type} {l : List α} {f : α → Option Int} : Stp (V2 O (rIn K true) (cst .non) (lst K (l.map fun x => oI (f x))) k) (k (bo (!l.any fun x => (f x).isNone)) O) := ⟨v_noNi⟩
instance (priority := high) {α : Type} {l : List α} {f : α → List Nat} : Stp (Vm O (rJoinQ K) (tx []) [lst K (l.map fun x => tx (f x))] k) (((l.map f).map (·.length)).sum ≤ 1000000 ∧ k (tx (l.map f).flatten) O) := ⟨fun h => v_joinE h.1 h.2⟩
instance {α : Type} {l : List α} {f : α → List Nat} {a : List Nat} : Stp (Vm O (rJoinQ K) (tx a) [lst K (l.map fun x => tx (f x))] k) (((l.map f).map (·.length)).sum + l.length * a.length ≤ 1000000 ∧ k (tx (TL.joinL a (l.map f))) O) := ⟨fun h => v_joinF h.1 h.2⟩
instance {i : Int} : Stp (Vn O (fun xs H Q => ∃ i, xs = [.int i] ∧ i.natAbs.log2 < 1920 ∧ Q (.str (toString i)) H) [it i] k) (0 ≤ i ∧ i < 1000000000000 ∧ k (tx (numS i)) O) := ⟨fun h => v_strN h.1 h.2.1 h.2.2⟩
instance {b : Bool} : Stp (Vn O (fun xs H Q => (∃ i, xs = [.int i] ∧ Q (.int i) H) ∨ ∃ k, xs = [.bl k] ∧ Q (.int (if k then 1 else 0)) H) [bo b] k) (k (it (if b then 1 else 0)) O) := ⟨v_intB⟩
instance {kvs : List (Key × As)} : Stp (Vn O (fun xs H Q => ∃ a kvs, xs = [.ref a] ∧ H a = some (.dK kvs) ∧ Q (.int kvs.length) H) [dct kvs] k) (k (it (kvs.length : Int)) O) := ⟨v_lenC⟩
instance {D : Addr} {pre post : OO} {pb : Bool} {kvs : List (Key × As)} [h : OwnAt O D pre (.od pb kvs) post] : Stp (Vn O (fun xs H Q => ∃ a kvs, xs = [.ref a] ∧ H a = some (.dK kvs) ∧ Q (.int kvs.length) H) [pt D] k) (k (it (kvs.length : Int)) O) := ⟨fun q => by have e := h.eq; subst e; exact v_lenD q⟩
instance (priority := high) {l : List Nat} : Stp (V2 O (fun x y H Q => y = V.non ∧ Q (V.bl (decide (x = V.non))) H) (tx l) (cst .non) k) (k (bo false) O) := ⟨fun q => v_isN q⟩
instance (priority := high) {l : List Nat} : Stp (V2 O (fun x y H Q => y = V.non ∧ Q (V.bl (!decide (x = V.non))) H) (tx l) (cst .non) k) (k (bo true) O) := ⟨fun q => v_notN q⟩
instance (priority := high) {j : Int} : Stp (V2 O (fun x y H Q => y = V.non ∧ Q (V.bl (decide (x = V.non))) H) (it j) (cst .non) k) (k (bo false) O) := ⟨fun q => v_isN q⟩
instance (priority := high) {j : Int} : Stp (V2 O (fun x y H Q => y = V.non ∧ Q (V.bl (!decide (x = V.non))) H) (it j) (cst .non) k) (k (bo true) O) := ⟨fun q => v_notN q⟩
instance (priority := high) {b : Bool} : Stp (V2 O (fun x y H Q => y = V.non ∧ Q (V.bl (decide (x = V.non))) H) (bo b) (cst .non) k) (k (bo false) O) := ⟨fun q => v_isN q⟩
instance (priority := high) {b : Bool} : Stp (V2 O (fun x y H Q => y = V.non ∧ Q (V.bl (!decide (x = V.non))) H) (bo b) (cst .non) k) (k (bo true) O) := ⟨fun q => v_notN q⟩
instance (priority := high) : Stp (V2 O (fun x y H Q => y = V.non ∧ Q (V.bl (decide (x = V.non))) H) (cst .non) (cst .non) k) (k (bo true) O) := ⟨fun q => v_isN q⟩
instance (priority := high) : Stp (V2 O (fun x y H Q => y = V.non ∧ Q (V.bl (!decide (x = V.non))) H) (cst .non) (cst .non) k) (k (bo false) O) := ⟨fun q => v_notN q⟩
theorem v_isNN {A : As} (h : NN A) (q : k (bo false) O) : V2 O (fun x y H Q => y = V.non ∧ Q (V.bl (decide (x = V.non))) H) A (cst .non) k := fun E G0 H0 G H Q x y f a b zz => by
  obtain rfl : y = V.non := b
  exact ⟨rfl, by rw [decide_eq_false (h _ _ a)]; exact zz _ _ _ _ _ q f (Same.refl _) rfl⟩
theorem v_notNN {A : As} (h : NN A) (q : k (bo true) O) : V2 O (fun x y H Q => y = V.non ∧ Q (V.bl (!decide (x = V.non))) H) A (cst .non) k := fun E G0 H0 G H Q x y f a b zz => by
  obtain rfl : y = V.non := b
  exact ⟨rfl, by rw [decide_eq_false (h _ _ a)]; exact zz _ _ _ _ _ q f (Same.refl _) rfl⟩
theorem nn_lst {xs : List As} : NN (lst K xs) := fun G v h => by obtain ⟨p, ws, rfl, _⟩ := h; intro z; cases z
theorem nn_dct {kvs : List (Key × As)} : NN (dct kvs) := fun G v h => by obtain ⟨p, ws, rfl, _⟩ := h; intro z; cases z
instance {xs : List As} : Stp (V2 O (fun x y H Q => y = V.non ∧ Q (V.bl (decide (x = V.non))) H) (tup K xs) (cst .non) k) (k (bo false) O) := ⟨fun q => v_isNN nn_tup q⟩
instance {xs : List As} : Stp (V2 O (fun x y H Q => y = V.non ∧ Q (V.bl (!decide (x = V.non))) H) (tup K xs) (cst .non) k) (k (bo true) O) := ⟨fun q => v_notNN nn_tup q⟩
instance {xs : List As} : Stp (V2 O (fun x y H Q => y = V.non ∧ Q (V.bl (decide (x = V.non))) H) (lst K xs) (cst .non) k) (k (bo false) O) := ⟨fun q => v_isNN (nn_lst (K := K)) q⟩
instance {xs : List As} : Stp (V2 O (fun x y H Q => y = V.non ∧ Q (V.bl (!decide (x = V.non))) H) (lst K xs) (cst .non) k) (k (bo true) O) := ⟨fun q => v_notNN (nn_lst (K := K)) q⟩
instance {kvs : List (Key × As)} : Stp (V2 O (fun x y H Q => y = V.non ∧ Q (V.bl (decide (x = V.non))) H) (dct kvs) (cst .non) k) (k (bo false) O) := ⟨fun q => v_isNN nn_dct q⟩
instance {kvs : List (Key × As)} : Stp (V2 O (fun x y H Q => y = V.non ∧ Q (V.bl (!decide (x = V.non))) H) (dct kvs) (cst .non) k) (k (bo true) O) := ⟨fun q => v_notNN nn_dct q⟩
/-- a truth value that is known -/
class BVal (b : Bool) (v : outParam Bool) : Prop where
  eq : b = v
instance : BVal true true := ⟨rfl⟩
instance {b : Bool} : BVal (false && b) false := ⟨rfl⟩
instance {b : Bool} : BVal (true || b) true := ⟨rfl⟩
instance : BVal false false := ⟨rfl⟩
instance {b v : Bool} [h : BVal b v] : BVal (!b) (!v) := ⟨by rw [h.eq]⟩
instance {α : Type} : BVal (List.isEmpty ([] : List α)) true := ⟨rfl⟩
instance {α : Type} {x : α} {l : List α} : BVal (List.isEmpty (x :: l)) false := ⟨rfl⟩
instance {α β : Type} {f : α → β} {l : List α} {v : Bool} [h : BVal (List.isEmpty l) v] : BVal (List.isEmpty (List.map f l)) v := ⟨by rw [← h.eq]; cases l <;> rfl⟩
instance {b : Bool} {v : Bool} {A B : Prop} [h : BVal b v] : Stp ((b = true → A) ∧ (b = false → B)) (if v = true then A else B) := ⟨fun q => by
  rw [h.eq]
  cases v
  · exact ⟨fun z => (by cases z), fun _ => by simpa using q⟩
  · exact ⟨fun _ => (by simpa using q), fun z => (by cases z)⟩⟩
instance {A B : Prop} : Stp (if true = true then A else B) A := ⟨fun q => by simpa using q⟩
instance {A B : Prop} : Stp (if false = true then A else B) B := ⟨fun q => by simpa using q⟩
instance {A B : Prop} : Stp (if (!true) = true then A else B) B := ⟨fun q => by simpa using q⟩
instance {A B : Prop} : Stp (if (!false) = true then A else B) A := ⟨fun q => by simpa using q⟩
/-! texts -/
instance {a b : List Nat} : Stp (V2 O (fun x y H Q => ∃ i j, x = .str i ∧ y = .str j ∧ i.length + j.length ≤ sizeLine ∧ Q (.str (i ++ j)) H) (tx a) (tx b) k) (a.length + b.length ≤ 100000 ∧ k (tx (a ++ b)) O) := ⟨fun h => v_catS h.1 h.2⟩
instance {a : List Nat} : Stp (Vn O (fun xs H Q => ∃ z, xs = [.str z] ∧ z.length ≤ sizeLine ∧ Q (.int z.length) H) [tx a] k) (a.length ≤ 100000 ∧ k (it (a.length : Int)) O) := ⟨fun h => v_lenS h.1 h.2⟩
instance {c : Nat} {l : List Nat} : Stp (V2 O (fun x y H Q => ∃ (c : Nat) (z : Str), x = .str ⟨#[c]⟩ ∧ y = .str z ∧ Q (.bl (decide (c ∈ z.cps.toList))) H) (tx [c]) (tx l) k) (k (bo (decide (c ∈ l))) O) := ⟨v_inC⟩
instance {c : Nat} {l : List Nat} : Stp (V2 O (fun x y H Q => ∃ (c : Nat) (z : Str), x = .str ⟨#[c]⟩ ∧ y = .str z ∧ Q (.bl (!decide (c ∈ z.cps.toList))) H) (tx [c]) (tx l) k) (k (bo (!decide (c ∈ l))) O) := ⟨v_niC⟩
instance {a : List Nat} {lo hi : Option Int} : Stp (Vs O rSlS (tx a) lo hi k) (a.length ≤ 100000 ∧ k (tx (cut a lo hi)) O) := ⟨fun h => v_slS h.1 h.2⟩
instance {a b : List Nat} : Stp (Vm O (fun x xs H Q => ∃ a b, x = .str a ∧ xs = [.str b] ∧ Q (.bl (Txt.startswith a b)) H) (tx a) [tx b] k) (k (bo (b.isPrefixOf a)) O) := ⟨v_startsw⟩
instance {a b : List Nat} : Stp (Vm O (fun x xs H Q => ∃ a b, x = .str a ∧ xs = [.str b] ∧ Q (.bl (Txt.endswith a b)) H) (tx a) [tx b] k) (k (bo (b.isSuffixOf a)) O) := ⟨v_endsw⟩
instance {a : List Nat} {c : Nat} : Stp (Vm O (fun x xs H Q => ∃ a b, x = .str a ∧ xs = [.str b] ∧ Q (.int (Txt.count a b)) H) (tx a) [tx [c]] k) (k (it ((parts c a).length - 1 : Int)) O) := ⟨v_count1⟩
instance {a : List Nat} {c : Nat} : Stp (Vm O (fun x xs H Q => ∃ a b, x = .str a ∧ xs = [.str b] ∧ Q (.int (Txt.find a b)) H) (tx a) [tx [c]] k) (k (it (findI c a)) O) := ⟨v_find1⟩
instance {a b : List Nat} : Stp (Vm O (fun x xs H Q => ∃ a b, x = .str a ∧ xs = [.str b] ∧ a.length ≤ sizeLine ∧ Q (.str (Txt.stripChars a b)) H) (tx a) [tx b] k) (a.length ≤ 100000 ∧ k (tx (trimL (fun c => decide (c ∈ b)) a)) O) := ⟨fun h => v_strip h.1 h.2⟩
instance {a : List Nat} {l : List As} {ws : List (List Nat)} [h : MapTx l ws] : Stp (Vm O (rJoinQ K) (tx a) [lst K l] k) ((ws.map (·.length)).sum + ws.length * a.length ≤ 1000000 ∧ k (tx (TL.joinL a ws)) O) := ⟨fun q => by rw [h.eq]; exact v_join q.1 q.2⟩
instance {a : List Nat} : Stp (Vm O (fun x xs H Q => ∃ a, x = .str a ∧ xs = [] ∧ a.length ≤ 5592405 ∧ Q (.str (Txt.lower a)) H) (tx a) [] k) (a.length ≤ 100000 ∧ k (tx (lowL a)) O) := ⟨fun h => v_lower h.1 h.2⟩
instance {a : List Nat} : Stp (Vm O (fun x xs H Q => ∃ a, x = .str a ∧ xs = [] ∧ a.length ≤ 5592405 ∧ Q (.str (Txt.upper a)) H) (tx a) [] k) (a.length ≤ 100000 ∧ k (tx (upL a)) O) := ⟨fun h => v_upper h.1 h.2⟩
instance {i : Int} : Stp (Vn O (fun xs H Q => (∃ i, xs = [.int i] ∧ Q (.int i) H) ∨ ∃ k, xs = [.bl k] ∧ Q (.int (if k then 1 else 0)) H) [it i] k) (k (it i) O) := ⟨v_intI⟩
instance {i j : Int} : Stp (Vn O (fun xs H Q => ∃ i j, xs = [.int i, .int j] ∧ Q (.int (if j > i then j else i)) H) [it i, it j] k) (k (it (if j > i then j else i)) O) := ⟨v_max2⟩
instance {i j : Int} : Stp (Vn O (fun xs H Q => ∃ i j, xs = [.int i, .int j] ∧ Q (.int (if j < i then j else i)) H) [it i, it j] k) (k (it (if j < i then j else i)) O) := ⟨v_min2⟩
/-! tuples put together -/
theorem v_catA {xs ys : List As} (hl : xs.length + ys.length ≤ 100000) (q : k (tup K (xs ++ ys)) O) : V2 O (rCatA K) (tup K xs) (tup K ys) k := fun E G0 H0 G H Q x y f a b zz => by
  obtain ⟨p, vs, rfl, h1, h2⟩ := a
  obtain ⟨p', ws, rfl, h3, h4⟩ := b
  refine ⟨p, p', vs, ws, rfl, rfl, SqT.mono f.gh h1, SqT.mono f.gh h3, by rw [h2.len, h4.len]; exact sz hl, fun e => ?_, fun e1 e2 => ?_, fun e1 e2 r nr => ?_⟩
  · subst e
    cases h2
    exact zz _ _ _ _ _ q f (Same.refl _) ⟨p', ws, rfl, h3, h4⟩
  · subst e2
    cases h4
    rw [List.append_nil] at q
    exact zz _ _ _ _ _ q f (Same.refl _) ⟨p, vs, rfl, h1, h2⟩
  · have ex := Ext.new (o := .tup (vs ++ ws)) f.gh nr
    exact zz _ _ _ _ _ q (f.ext ex) ex.g ⟨r, _, rfl, .inl (.inl upd_same), (h2.app h4).m ex.g⟩
instance {xs ys : List As} : Stp (V2 O (rCatA K) (tup K xs) (tup K ys) k) (xs.length + ys.length ≤ 100000 ∧ k (tup K (xs ++ ys)) O) := ⟨fun h => v_catA h.1 h.2⟩
instance {l : List Nat} {i : Int} : Stp (V2 O rRepS (tx l) (it i) k) ((0 ≤ i ∧ i ≤ 1000000) ∧ l.length * i.toNat ≤ 1000000 ∧ k (tx (repL l i)) O) := ⟨fun h => v_repS h.1.1 h.1.2 h.2.1 h.2.2⟩
/-! lists and tuples -/
instance {xs : List As} : Stp (Vn O (rLenQ K) [lst K xs] k) (k (it (xs.length : Int)) O) := ⟨v_lenL⟩
instance {xs : List As} : Stp (Vn O (rLenQ K) [tup K xs] k) (k (it (xs.length : Int)) O) := ⟨v_lenT⟩
instance {D : Addr} {pre post : OO} {xs : List As} [h : OwnAt O D pre (.ol xs) post] : Stp (Vn O (rLenQ K) [pt D] k) (k (it (xs.length : Int)) O) := ⟨fun q => by have e := h.eq; subst e; exact v_lenO q⟩
instance {D : Addr} {pre post : OO} {xs : List As} {A : As} [h : OwnAt O D pre (.ol xs) post] : Stp (Vm O rAppend (pt D) [A] k) (xs.length < 100000 ∧ k no (pre ++ (D, .ol (xs ++ [A])) :: post)) := ⟨fun q => by have e := h.eq; subst e; exact v_append q.1 q.2⟩
instance {D : Addr} {pre post : OO} {xs ys : List As} [h : OwnAt O D pre (.ol xs) post] : Stp (Vm O rExtend (pt D) [lst K ys] k) (xs.length + ys.length ≤ 100000 ∧ k no (pre ++ (D, .ol (xs ++ ys)) :: post)) := ⟨fun q => by have e := h.eq; subst e; exact v_extend q.1 q.2⟩
instance {D : Addr} {pre post : OO} {xs : List As} [h : OwnAt O D pre (.ol xs) post] : Stp (TyA K "list" (pt D) O) True := ⟨fun _ => by have e := h.eq; subst e; exact ty_o⟩
instance {l : List Nat} : Stp (TyA K "str" (tx l) O) True := ⟨fun _ => ty_s⟩
instance {xs : List As} : Stp (TyA K "list" (lst K xs) O) True := ⟨fun _ => ty_l⟩
instance {xs : List As} {lo hi : Option Int} : Stp (Vs O (rSlL K) (lst K xs) lo hi k) (k (lst K (cut xs lo hi)) O) := ⟨v_slL⟩
instance {xs : List As} {lo hi : Option Int} : Stp (Vs O (rSlL K) (sql K xs) lo hi k) (k (lst K (cut xs lo hi)) O) := ⟨v_slQ⟩
instance {xs : List As} {lo hi : Option Int} : Stp (Vs O (rSlA K) (tup K xs) lo hi k) (k (tup K (cut xs lo hi)) O) := ⟨v_slT⟩
instance {xs : List As} : Stp (Vn O (rLenQ K) [sql K xs] k) (k (it (xs.length : Int)) O) := ⟨v_lenQ⟩
instance {ns : List Int} : Stp (Vn O (rSum K) [sql K (ns.map it)] k) (k (it ns.sum) O) := ⟨v_sumQ⟩
instance {α : Type} {l : List α} {f : α → Int} : Stp (Vn O (rSum K) [lst K (l.map fun x => it (f x))] k) (k (it (l.map f).sum) O) := ⟨v_sum⟩
instance {α : Type} {l : List α} {f : α → Bool} : Stp (Vn O (rAll K) [lst K (l.map fun x => bo (f x))] k) (k (bo (l.all f)) O) := ⟨v_all⟩
instance {α : Type} {l : List α} {f : α → Bool} : Stp (Vn O (rAny K) [lst K (l.map fun x => bo (f x))] k) (k (bo (l.any f)) O) := ⟨v_any⟩
instance {xs : List As} : Stp (Vn O (rTupQ K) [lst K xs] k) (k (tup K xs) O) := ⟨v_tupL⟩
instance {xs : List As} : Stp (Vn O (rTupQ K) [tup K xs] k) (k (tup K xs) O) := ⟨v_tupT⟩
instance {xs : List As} : Stp (Vn O (rLstQ K) [lst K xs] k) (k (lst K xs) O) := ⟨v_lstL⟩
instance {xs : List As} : Stp (Vn O (rLstQ K) [tup K xs] k) (k (lst K xs) O) := ⟨v_lstT⟩
instance {xs ys : List As} : Stp (V2 O rCat (lst K xs) (lst K ys) k) (xs.length + ys.length ≤ 100000 ∧ k (lst K (xs ++ ys)) O) := ⟨fun h => v_cat h.1 h.2⟩
instance {xs : List As} : Stp (V2 O (rEqE K) (lst K xs) (lst K []) k) (k (bo xs.isEmpty) O) := ⟨v_eqE⟩
instance {xs : List As} : Stp (V2 O (rNeE K) (lst K xs) (lst K []) k) (k (bo (!xs.isEmpty)) O) := ⟨v_neE⟩
instance {n : Int} {l : List As} {ns : List Int} [h : MapIt l ns] : Stp (V2 O (rIn K false) (it n) (tup K l) k) (k (bo (decide (n ∈ ns))) O) := ⟨fun q => by rw [h.eq]; exact v_inTI q⟩
instance {n : Int} {l : List As} {ns : List Int} [h : MapIt l ns] : Stp (V2 O (rIn K true) (it n) (tup K l) k) (k (bo (!decide (n ∈ ns))) O) := ⟨fun q => by rw [h.eq]; exact v_niTI q⟩
instance {n : Int} {l : List As} {ns : List Int} [h : MapIt l ns] : Stp (V2 O (rIn K false) (it n) (lst K l) k) (k (bo (decide (n ∈ ns))) O) := ⟨fun q => by rw [h.eq]; exact v_inLI q⟩
instance {n : Int} {l : List As} {ns : List Int} [h : MapIt l ns] : Stp (V2 O (rIn K true) (it n) (lst K l) k) (k (bo (!decide (n ∈ ns))) O) := ⟨fun q => by rw [h.eq]; exact v_niLI q⟩
instance {n : List Nat} {l : List As} {ns : List (List Nat)} [h : MapTx l ns] : Stp (V2 O (rIn K false) (tx n) (tup K l) k) (k (bo (decide (n ∈ ns))) O) := ⟨fun q => by rw [h.eq]; exact v_inTS q⟩
instance {n : List Nat} {l : List As} {ns : List (List Nat)} [h : MapTx l ns] : Stp (V2 O (rIn K true) (tx n) (tup K l) k) (k (bo (!decide (n ∈ ns))) O) := ⟨fun q => by rw [h.eq]; exact v_niTS q⟩
instance {n : List Nat} {l : List As} {ns : List (List Nat)} [h : MapTx l ns] : Stp (V2 O (rIn K false) (tx n) (lst K l) k) (k (bo (decide (n ∈ ns))) O) := ⟨fun q => by rw [h.eq]; exact v_inLS q⟩
instance {n : List Nat} {l : List As} {ns : List (List Nat)} [h : MapTx l ns] : Stp (V2 O (rIn K true) (tx n) (lst K l) k) (k (bo (!decide (n ∈ ns))) O) := ⟨fun q => by rw [h.eq]; exact v_niLS q⟩
instance {l : List Nat} : Stp (Vn O (rIsi K) [tx l, cst (.ty "str")] k) (k (bo true) O) := ⟨v_is_s_str⟩
instance {l : List Nat} : Stp (Vn O (rIsi K) [tx l, cst (.ty "int")] k) (k (bo false) O) := ⟨v_is_s_int⟩
instance {l : List Nat} : Stp (Vn O (rIsi K) [tx l, cst (.ty "bool")] k) (k (bo false) O) := ⟨v_is_s_bool⟩
instance {l : List Nat} : Stp (Vn O (rIsi K) [tx l, cst (.ty "tuple")] k) (k (bo false) O) := ⟨v_is_s_tuple⟩
instance {l : List Nat} : Stp (Vn O (rIsi K) [tx l, cst (.ty "list")] k) (k (bo false) O) := ⟨v_is_s_list⟩
instance {l : List Nat} : Stp (Vn O (rIsi K) [tx l, cst (.ty "dict")] k) (k (bo false) O) := ⟨v_is_s_dict⟩
instance {i : Int} : Stp (Vn O (rIsi K) [it i, cst (.ty "str")] k) (k (bo false) O) := ⟨v_is_i_str⟩
instance {i : Int} : Stp (Vn O (rIsi K) [it i, cst (.ty "int")] k) (k (bo true) O) := ⟨v_is_i_int⟩
instance {i : Int} : Stp (Vn O (rIsi K) [it i, cst (.ty "bool")] k) (k (bo false) O) := ⟨v_is_i_bool⟩
instance {i : Int} : Stp (Vn O (rIsi K) [it i, cst (.ty "tuple")] k) (k (bo false) O) := ⟨v_is_i_tuple⟩
instance {i : Int} : Stp (Vn O (rIsi K) [it i, cst (.ty "list")] k) (k (bo false) O) := ⟨v_is_i_list⟩
instance {i : Int} : Stp (Vn O (rIsi K) [it i, cst (.ty "dict")] k) (k (bo false) O) := ⟨v_is_i_dict⟩
instance {i : Bool} : Stp (Vn O (rIsi K) [bo i, cst (.ty "str")] k) (k (bo false) O) := ⟨v_is_b_str⟩
instance {i : Bool} : Stp (Vn O (rIsi K) [bo i, cst (.ty "int")] k) (k (bo true) O) := ⟨v_is_b_int⟩
instance {i : Bool} : Stp (Vn O (rIsi K) [bo i, cst (.ty "bool")] k) (k (bo true) O) := ⟨v_is_b_bool⟩
instance {i : Bool} : Stp (Vn O (rIsi K) [bo i, cst (.ty "tuple")] k) (k (bo false) O) := ⟨v_is_b_tuple⟩
instance {i : Bool} : Stp (Vn O (rIsi K) [bo i, cst (.ty "list")] k) (k (bo false) O) := ⟨v_is_b_list⟩
instance {i : Bool} : Stp (Vn O (rIsi K) [bo i, cst (.ty "dict")] k) (k (bo false) O) := ⟨v_is_b_dict⟩
instance  : Stp (Vn O (rIsi K) [no, cst (.ty "str")] k) (k (bo false) O) := ⟨v_is_n_str⟩
instance  : Stp (Vn O (rIsi K) [no, cst (.ty "int")] k) (k (bo false) O) := ⟨v_is_n_int⟩
instance  : Stp (Vn O (rIsi K) [no, cst (.ty "bool")] k) (k (bo false) O) := ⟨v_is_n_bool⟩
instance  : Stp (Vn O (rIsi K) [no, cst (.ty "tuple")] k) (k (bo false) O) := ⟨v_is_n_tuple⟩
instance  : Stp (Vn O (rIsi K) [no, cst (.ty "list")] k) (k (bo false) O) := ⟨v_is_n_list⟩
instance  : Stp (Vn O (rIsi K) [no, cst (.ty "dict")] k) (k (bo false) O) := ⟨v_is_n_dict⟩
instance {xs : List As} : Stp (Vn O (rIsi K) [lst K xs, cst (.ty "str")] k) (k (bo false) O) := ⟨v_is_l_str⟩
instance {xs : List As} : Stp (Vn O (rIsi K) [lst K xs, cst (.ty "int")] k) (k (bo false) O) := ⟨v_is_l_int⟩
instance {xs : List As} : Stp (Vn O (rIsi K) [lst K xs, cst (.ty "bool")] k) (k (bo false) O) := ⟨v_is_l_bool⟩
instance {xs : List As} : Stp (Vn O (rIsi K) [lst K xs, cst (.ty "tuple")] k) (k (bo false) O) := ⟨v_is_l_tuple⟩
instance {xs : List As} : Stp (Vn O (rIsi K) [lst K xs, cst (.ty "list")] k) (k (bo true) O) := ⟨v_is_l_list⟩
instance {xs : List As} : Stp (Vn O (rIsi K) [lst K xs, cst (.ty "dict")] k) (k (bo false) O) := ⟨v_is_l_dict⟩
instance {xs : List As} : Stp (Vn O (rIsi K) [tup K xs, cst (.ty "str")] k) (k (bo false) O) := ⟨v_is_t_str⟩
instance {xs : List As} : Stp (Vn O (rIsi K) [tup K xs, cst (.ty "int")] k) (k (bo false) O) := ⟨v_is_t_int⟩
instance {xs : List As} : Stp (Vn O (rIsi K) [tup K xs, cst (.ty "bool")] k) (k (bo false) O) := ⟨v_is_t_bool⟩
instance {xs : List As} : Stp (Vn O (rIsi K) [tup K xs, cst (.ty "tuple")] k) (k (bo true) O) := ⟨v_is_t_tuple⟩
instance {xs : List As} : Stp (Vn O (rIsi K) [tup K xs, cst (.ty "list")] k) (k (bo false) O) := ⟨v_is_t_list⟩
instance {xs : List As} : Stp (Vn O (rIsi K) [tup K xs, cst (.ty "dict")] k) (k (bo false) O) := ⟨v_is_t_dict⟩
instance {kvs : List (Key × As)} : Stp (Vn O (rIsi K) [dct kvs, cst (.ty "str")] k) (k (bo false) O) := ⟨v_is_d_str⟩
instance {kvs : List (Key × As)} : Stp (Vn O (rIsi K) [dct kvs, cst (.ty "int")] k) (k (bo false) O) := ⟨v_is_d_int⟩
instance {kvs : List (Key × As)} : Stp (Vn O (rIsi K) [dct kvs, cst (.ty "bool")] k) (k (bo false) O) := ⟨v_is_d_bool⟩
instance {kvs : List (Key × As)} : Stp (Vn O (rIsi K) [dct kvs, cst (.ty "tuple")] k) (k (bo false) O) := ⟨v_is_d_tuple⟩
instance {kvs : List (Key × As)} : Stp (Vn O (rIsi K) [dct kvs, cst (.ty "list")] k) (k (bo false) O) := ⟨v_is_d_list⟩
instance {kvs : List (Key × As)} : Stp (Vn O (rIsi K) [dct kvs, cst (.ty "dict")] k) (k (bo true) O) := ⟨v_is_d_dict⟩
end
end Sy

/-! ### values told as data: what repr and == want of them -/
namespace Sy
open PySem PySem.Spec PyProof.Rows L2
open SX (S S_len S_cat S_inj)
structure ShD (K : PySem.W.Frag) (A : As) (d : PyData) (e b : Nat) : Prop where
  is : IsD K A d
  nd : d.hasDict = false
  sh : d.showable = true
  lf : d.leavesShort 13 = true
  sp : d.canLay0 = true
  dp : d.depth ≤ e
  bk : d.bulk ≤ b
structure ShDs (K : PySem.W.Frag) (xs : List As) (ds : List PyData) (e b : Nat) : Prop where
  is : IsDs K xs ds
  nd : PyData.hasDictAll ds = false
  sh : PyData.showableAll ds = true
  lf : PyData.leavesShortAll 13 ds = true
  sp : PyData.canLayAll0 ds = true
  dp : PyData.depthAll ds ≤ e
  bk : PyData.bulkAll ds ≤ b
section
variable {K : PySem.W.Frag} {A B : As} {d : PyData} {e b e' b' : Nat} {xs : List As} {ds : List PyData}
theorem ShD.le (h : ShD K A d e b) (h1 : e ≤ e') (h2 : b ≤ b') : ShD K A d e' b' := ⟨h.is, h.nd, h.sh, h.lf, h.sp, Nat.le_trans h.dp h1, Nat.le_trans h.bk h2⟩
theorem ShDs.nil : ShDs K [] [] 0 0 := ⟨.nil, by simp [PyData.hasDictAll], by simp [PyData.showableAll], by simp [PyData.leavesShortAll], by simp [PyData.canLayAll0], by simp [PyData.depthAll], by simp [PyData.bulkAll]⟩
theorem ShDs.cons (h : ShD K A d e b) (t : ShDs K xs ds e' b') : ShDs K (A :: xs) (d :: ds) (max e e') (b + 1 + b') :=
  ⟨.cons h.is t.is, by simp [PyData.hasDictAll, h.nd, t.nd], by simp [PyData.showableAll, h.sh, t.sh], by simp [PyData.leavesShortAll, h.lf, t.lf], by simp [PyData.canLayAll0, h.sp, t.sp], by
    have := h.dp
    have := t.dp
    simp only [PyData.depthAll]
    omega, by
    have := h.bk
    have := t.bk
    simp only [PyData.bulkAll]
    omega⟩
theorem ShDs.map {α : Type} {f : α → As} {g : α → PyData} : ∀ {l : List α}, (∀ x ∈ l, ShD K (f x) (g x) e b) → ShDs K (l.map f) (l.map g) e (l.length * (b + 1))
  | [], _ => ⟨.nil, by simp [PyData.hasDictAll], by simp [PyData.showableAll], by simp [PyData.leavesShortAll], by simp [PyData.canLayAll0], by simp [PyData.depthAll], by simp [PyData.bulkAll]⟩
  | x :: l, h => by
    have t := ShDs.cons (h x List.mem_cons_self) (ShDs.map fun y hy => h y (List.mem_cons_of_mem _ hy))
    rw [List.map_cons, List.map_cons]
    refine ⟨t.is, t.nd, t.sh, t.lf, t.sp, ?_, ?_⟩
    · have := t.dp
      omega
    · have := t.bk
      rw [List.length_cons, Nat.succ_mul]
      omega
theorem ShD.tup (h : ShDs K xs ds e b) : ShD K (tup K xs) (.tuple ds) (e + 1) b :=
  ⟨isD_tup h.is, by simp [PyData.hasDict, h.nd], by simp [PyData.showable, h.sh], by simp [PyData.leavesShort, h.lf], by simp [PyData.canLay0, h.sp], by simp [PyData.depth, h.dp], by simp [PyData.bulk, h.bk]⟩
theorem ShD.lst (h : ShDs K xs ds e b) : ShD K (lst K xs) (.list ds) (e + 1) b :=
  ⟨isD_lst h.is, by simp [PyData.hasDict, h.nd], by simp [PyData.showable, h.sh], by simp [PyData.leavesShort, h.lf], by simp [PyData.canLay0, h.sp], by simp [PyData.depth, h.dp], by simp [PyData.bulk, h.bk]⟩
theorem ShD.no : ShD K no .none 0 0 := ⟨isD_no, by simp [PyData.hasDict], by simp [PyData.showable], by simp [PyData.leavesShort], by simp [PyData.canLay0], by simp [PyData.depth], by simp [PyData.bulk]⟩
theorem ShD.bo {x : Bool} : ShD K (bo x) (.bool x) 0 0 := ⟨isD_bo, by simp [PyData.hasDict], by simp [PyData.showable], by simp [PyData.leavesShort], by simp [PyData.canLay0], by simp [PyData.depth], by simp [PyData.bulk]⟩
theorem ShD.tx {l : List Nat} (h : ∀ c ∈ l, c < 128) : ShD K (tx l) (.str (S l)) 0 l.length :=
  ⟨isD_tx, by simp [PyData.hasDict], by simp [PyData.showable], by
    simp [PyData.leavesShort]
    exact fun c hc => Nat.lt_trans (h c hc) (by decide), by
    rw [show PyData.canLay0 (.str (S l)) = PyData.strOk (S l) by simp [PyData.canLay0]]
    exact strOk_S (List.all_eq_true.mpr fun c hc => decide_eq_true (Nat.lt_trans (h c hc) (by decide))), by simp [PyData.depth], by simp [PyData.bulk, S]⟩
theorem ShD.it {i : Int} (h0 : 0 ≤ i) (h1 : i < 1000000000000) : ShD K (it i) (.int i) 0 0 := by
  have hz : (numS i).length ≤ 12 := numS_len h0 h1
  have e : (PyData.int i).shown = (toString i : Str) := by simp only [PyData.shown]
  have e2 : S (numS i) = (toString i : Str) := by simp [S, numS]
  refine ⟨isD_it, by simp [PyData.hasDict], ?_, ?_, by simp [PyData.canLay0], by simp [PyData.depth], by simp [PyData.bulk]⟩
  · simp only [PyData.showable, decide_eq_true_eq]
    by_cases z : i.natAbs = 0
    · rw [z]; decide
    · exact (Nat.log2_lt z).mpr (Nat.lt_of_lt_of_le (show i.natAbs < 2 ^ 40 by omega) (Nat.pow_le_pow_right (by decide) (show 40 ≤ 1920 by decide)))
  · simp only [PyData.leavesShort, decide_eq_true_eq]
    rw [e, ← e2, S_len]
    omega
theorem ShD.shp (h : ShD K A d e b) (he : e ≤ 60) : SeqAt.shaped d = true := by
  unfold SeqAt.shaped
  rw [h.sp, decide_eq_true (Nat.le_trans h.dp (Nat.le_trans he (by decide)))]
  rfl
theorem v_reprS {O : OO} {k : As → OO → Prop} (h : ShD K A d e b) (he : e ≤ 60) (hb : b ≤ 1000000) (q : k (tx (shw d)) O) : Vn O (rReprX K) [A] k :=
  v_reprX (isX_of h.is h.nd) ⟨h.sh, Nat.le_trans h.dp he⟩ (PyData.shown_fits_bulk (B := 13) (by decide) (by decide) h.lf (Nat.le_trans h.bk (Nat.le_trans hb (by decide)))) q
theorem v_eqSh {O : OO} {k : As → OO → Prop} (h : ShD K A d e b) (h' : ShD K B d e' b') (he : e ≤ 60) (q : k (bo true) O) : V2 O (rEqD K) A B k := v_eqSame h.is h'.is (h.shp he) q
theorem v_neSh {O : OO} {k : As → OO → Prop} (h : ShD K A d e b) (h' : ShD K B d e' b') (he : e ≤ 60) (q : k (bo false) O) : V2 O (rNeD K) A B k := v_neSame h.is h'.is (h.shp he) q
end
end Sy

/-! ### instances of the program's own classes -/
namespace Sy
open PySem PySem.Spec PyProof.Rows L2
open SX (S S_len S_cat S_inj)
theorem AllF.look {G : Hp} : ∀ {fs : List (Str × As)} {vs : List (Str × V)} {f : Str} {A : As}, AllF G fs vs → fs.lookup f = some A → ∃ v, vs.lookup f = some v ∧ A.p G v
  | _, _, f, A, .nil, e => by cases e
  | _, _, f, A, .cons (f := g) h t, e => by
    rw [look_cons] at e ⊢
    by_cases q : f = g
    · rw [if_pos q] at e ⊢
      cases e
      exact ⟨_, rfl, h⟩
    · rw [if_neg q] at e ⊢
      exact AllF.look t e
theorem AllF.noLook {G : Hp} : ∀ {fs : List (Str × As)} {vs : List (Str × V)} {f : Str}, AllF G fs vs → fs.lookup f = none → vs.lookup f = none
  | _, _, f, .nil, e => rfl
  | _, _, f, .cons (f := g) h t, e => by
    rw [look_cons] at e ⊢
    by_cases q : f = g
    · rw [if_pos q] at e
      cases e
    · rw [if_neg q] at e ⊢
      exact AllF.noLook t e
theorem AllF.len {G : Hp} : ∀ {fs : List (Str × As)} {vs : List (Str × V)}, AllF G fs vs → vs.length = fs.length
  | _, _, .nil => rfl
  | _, _, .cons _ t => congrArg (· + 1) (AllF.len t)
def putFA (f : Str) (A : As) : List (Str × As) → List (Str × As)
  | [] => [(f, A)]
  | (g, x) :: r => if g = f then (g, A) :: r else (g, x) :: putFA f A r
theorem AllF.put {G : Hp} {f : Str} {A : As} {v : V} (h : A.p G v) : ∀ {fs : List (Str × As)} {vs : List (Str × V)}, AllF G fs vs → AllF G (putFA f A fs) (putF f v vs)
  | _, _, .nil => .cons h .nil
  | _, _, .cons (f := g) a t => by
    unfold putFA putF
    by_cases q : g = f
    · rw [if_pos q, if_pos q]
      exact .cons h t
    · rw [if_neg q, if_neg q]
      exact .cons a (AllF.put h t)
/-- an instance that never changes any more -/
def ins (C : Addr) (fs : List (Str × As)) : As := ⟨fun G v => ∃ a dx vs, v = .ref a ∧ G a = some (.ins C dx vs) ∧ AllF G fs vs, fun e h => by
  obtain ⟨a, dx, vs, h1, h2, h3⟩ := h
  exact ⟨a, dx, vs, h1, e _ _ h2, h3.m e⟩⟩
/-- an instance of the class at C -/
def InsC (A : As) (O : OO) (C : Addr) : Prop := ∀ (E : List Addr) (G0 H0 G H : Hp) (x : V), Fr E G0 H0 O G H → A.p G x → ∃ a dx vs, x = .ref a ∧ H a = some (.ins C dx vs)
/-- .. whose field f holds a B -/
def InsF (A : As) (O : OO) (C : Addr) (f : Str) (B : As) : Prop := ∀ (E : List Addr) (G0 H0 G H : Hp) (x : V), Fr E G0 H0 O G H → A.p G x → ∃ a dx vs v, x = .ref a ∧ H a = some (.ins C dx vs) ∧ vs.lookup f = some v ∧ B.p G v
theorem InsC.ins {C : Addr} {fs : List (Str × As)} {O : OO} : InsC (Sy.ins C fs) O C := fun E G0 H0 G H x f a => by
  obtain ⟨p, dx, vs, h1, h2, h3⟩ := a
  exact ⟨p, dx, vs, h1, f.gh _ _ h2⟩
theorem InsF.ins {C : Addr} {fs : List (Str × As)} {O : OO} {f : Str} {B : As} (h : fs.lookup f = some B) : InsF (Sy.ins C fs) O C f B := fun E G0 H0 G H x fr a => by
  obtain ⟨p, dx, vs, h1, h2, h3⟩ := a
  obtain ⟨v, e1, e2⟩ := h3.look h
  exact ⟨p, dx, vs, v, h1, fr.gh _ _ h2, e1, e2⟩
theorem InsC.own {C D : Addr} {p : Bool} {fs : List (Str × As)} {pre post : OO} : InsC (pt D) (pre ++ (D, .oi p C fs) :: post) C := fun E G0 H0 G H x f a => by
  obtain ⟨dx, vs, h1, h2⟩ := own_at f
  exact ⟨D, dx, vs, a, h1⟩
theorem InsF.own {C D : Addr} {p : Bool} {fs : List (Str × As)} {pre post : OO} {f : Str} {B : As} (h : fs.lookup f = some B) : InsF (pt D) (pre ++ (D, .oi p C fs) :: post) C f B := fun E G0 H0 G H x fr a => by
  obtain ⟨dx, vs, h1, h2⟩ := own_at fr
  obtain ⟨v, e1, e2⟩ := h2.look h
  exact ⟨D, dx, vs, v, a, h1, e1, e2⟩
section
variable {K : PySem.W.Frag} {L : LL} {O : OO} {k : As → OO → Prop} {te tv ta : TE} {t tk : TA}
/-- e.f -/
theorem Go.fld {C : Addr} {f : Str} (c : Cls K C) (n : NoAttr K C f) (h : Go L O te fun A O1 => ∃ B, InsF A O1 C f B ∧ k B O1) : Go L O (tFld K te f) k := fun E G0 H0 σ G H Q fr s z =>
  h _ _ _ _ _ _ _ fr s fun A O1 G1 H1 x hk f1 s1 a => by
    obtain ⟨B, hi, hk⟩ := hk
    obtain ⟨p, dx, vs, v, e1, e2, e3, b⟩ := hi _ _ _ _ _ _ f1 a
    exact ⟨p, C, dx, vs, v, e1, e2, c, n, e3, z _ _ _ _ _ hk f1 s1 b⟩
/-- e.f, a property -/
theorem Go.prop {α : Type} {C : Addr} {pre : α → Prop} {as : α → List As} {r : α → As} {X : XK} (h : Go L O te fun A O1 => InsC A O1 C ∧ ∃ a, [A] = as a ∧ pre a ∧ k (r a) O1) : Go L O (tProp C (SpP pre as r) [] X te) k := fun E G0 H0 σ G H Q fr s z =>
  h _ _ _ _ _ _ _ fr s fun A O1 G1 H1 x hk f1 s1 a1 => by
    obtain ⟨hi, a, ha, hp, hk⟩ := hk
    obtain ⟨p, dx, vs, rfl, e2⟩ := hi _ _ _ _ _ _ f1 a1
    refine ⟨p, dx, vs, rfl, e2, a, G1, hp, ha ▸ .cons a1 .nil, Fr.part (I := []) f1 (fun x hx => by cases hx), fun A O' G' H' v q g c => ?_⟩
    obtain ⟨rfl, rfl⟩ := q
    exact z _ _ _ _ _ hk (Fr.frame (I := []) f1 g) (s1.trans g.gg) c
/-- o.f = e, o owned -/
theorem GoS.fld {K : PySem.W.Frag} {E : Es} {C : Addr} {f : Str} (c : Cls K C) (n : NoAttr K C f) (h : Go L O tv fun B O1 => Go L O1 ta fun A O2 => ∃ D p fs pre post, A = pt D ∧ O2 = pre ++ (D, .oi p C fs) :: post ∧ fs.length < 1000 ∧ E.nx L (pre ++ (D, .oi p C (putFA f B fs)) :: post)) :
    GoS L O (sFld K ta tv f) E := fun E' G0 H0 σ G H D fr s e =>
  h _ _ _ _ _ _ _ fr s fun B O1 G1 H1 y hB f1 s1 b => hB _ _ _ _ _ _ _ f1 (s.m s1) fun A O2 G2 H2 x hk f2 s2 a => by
    obtain ⟨d, p, fs, pre, post, rfl, rfl, hl, hk⟩ := hk
    obtain ⟨dx, vs, h1, h2⟩ := own_at f2
    have s3 := s1.trans s2
    refine ⟨d, C, dx, vs, a, h1, c, n, by rw [h2.len]; exact hl, ?_⟩
    exact e.nx _ _ _ _ _ hk (f2.change (fun z => z) ⟨dx, _, upd_same, h2.put (B.m s2 b)⟩) s3 (s.m s3)
/-- an __init__ that makes the fields fs -/
abbrev SpI {α : Type} (C : Addr) (pre : α → Prop) (as : α → List As) (fs : α → List (Str × As)) : Sp := SpG (fun a : Addr × α => pre a.2) (fun a => pt a.1 :: as a.2) (fun a => [(a.1, .oi true C [])]) (fun a A O' => A = no ∧ O' = [(a.1, .oi true C (fs a.2))])
abbrev SpIX {α : Type} (C : Addr) (pre : α → Prop) (as : α → List As) (fs : α → List (Str × As)) (ok : α → Prop) (rp : α → Value → List (Str × As) → OO → Prop) : Sp := SpX (fun a : Addr × α => pre a.2) (fun a => pt a.1 :: as a.2) (fun a => [(a.1, .oi true C [])]) (fun a A O' => ok a.2 ∧ A = no ∧ O' = [(a.1, .oi true C (fs a.2))]) (fun a => rp a.2)
theorem made_fr {E : List Addr} {G0 H0 G H : Hp} {x dx C : Addr} (f : Fr E G0 H0 O G H) (nx : H x = none) (ndx : H dx = none) (ne : dx ≠ x) : Fr E G0 H0 ([(x, .oi true C [])] ++ O) G (upd (upd H dx (.own x)) x (.ins C dx [])) := by
  have s : Same H (upd H dx (.own x)) := fun b u e => by rw [upd_ne (ne_of_none e ndx)]; exact e
  have f2 := f.ext (Ext.heap f.gh s)
  have n2 : (upd H dx (.own x)) x = none := by rw [upd_ne (Ne.symm ne)]; exact nx
  exact FrLe.perm List.perm_append_comm _ _ _ _ _ (f2.own (c := .oi true C []) n2 ⟨dx, [], upd_same, .nil⟩)
theorem made_end {E : List Addr} {G0 H0 G H : Hp} {Q : VK} {x C : Addr} {fs : List (Str × As)} (h0 : H0 x = none) (f : Fr E G0 H0 ([(x, .oi true C fs)] ++ O) G H) (hk : k (ins C fs) O) (z : Post E G0 H0 G k Q) : Q (.ref x) H := by
  obtain ⟨dx, vs, e1, e2⟩ := own_at (pre := []) f
  obtain ⟨f6, s6⟩ := Fr.freeze0 (pre := []) f h0 e1
  exact z _ _ _ _ _ hk f6 s6 ⟨x, dx, vs, rfl, upd_same, e2.m s6⟩
theorem oi1 {d C : Addr} {fs : List (Str × As)} : ∀ x ∈ [(d, OC.oi true C fs)], x.2.par = true := fun x hx => by rw [List.mem_singleton.mp hx]; rfl
/-- C(..) -/
theorem Go.make {α : Type} {C : Addr} {pre : α → Prop} {as : α → List As} {fs : α → List (Str × As)} {X : XK} (h : GoA L O t fun l O1 => ∃ a, l = as a ∧ pre a ∧ k (ins C (fs a)) O1) : Go L O (tMake C (SpI C pre as fs) [] X t) k := fun E G0 H0 σ G H Q f s z =>
  h _ _ _ _ _ _ _ f s fun l O1 G1 H1 vs hk f1 s1 b x dx nx ndx ne => by
    obtain ⟨a, rfl, hp, hk⟩ := hk
    have f4 := made_fr (C := C) f1 nx ndx ne
    refine ⟨(x, a), G1, hp, by rw [List.append_nil]; exact .cons rfl b, f4.part oi1, fun A O' G' H' v q g c => ?_⟩
    obtain ⟨rfl, rfl⟩ := q
    exact ⟨c, made_end (f1.hn _ nx) (f4.frame g) hk fun A O G H v q f s => z A O G H v q f ((s1.trans g.gg).trans s)⟩
/-- .. that will be changed -/
theorem Go.makeO {α : Type} {C : Addr} {pre : α → Prop} {as : α → List As} {fs : α → List (Str × As)} {X : XK} (h : GoA L O t fun l O1 => ∃ a, l = as a ∧ pre a ∧ ∀ D, k (pt D) ((D, .oi true C (fs a)) :: O1)) : Go L O (tMake C (SpI C pre as fs) [] X t) k := fun E G0 H0 σ G H Q f s z =>
  h _ _ _ _ _ _ _ f s fun l O1 G1 H1 vs hk f1 s1 b x dx nx ndx ne => by
    obtain ⟨a, rfl, hp, hk⟩ := hk
    have f4 := made_fr (C := C) f1 nx ndx ne
    refine ⟨(x, a), G1, hp, by rw [List.append_nil]; exact .cons rfl b, f4.part oi1, fun A O' G' H' v q g c => ?_⟩
    obtain ⟨rfl, rfl⟩ := q
    exact ⟨c, z _ _ _ _ _ (hk x) (f4.frame g) (s1.trans g.gg) rfl⟩
/-- .. by an __init__ that may raise, and does not -/
theorem Go.makeX {α : Type} {C : Addr} {pre : α → Prop} {as : α → List As} {fs : α → List (Str × As)} {ok : α → Prop} {rp : α → Value → List (Str × As) → OO → Prop} {X : XK} (h : GoA L O t fun l O1 => ∃ a, l = as a ∧ pre a ∧ (∀ cls fs O', ¬ rp a cls fs O') ∧ (ok a → k (ins C (fs a)) O1)) : Go L O (tMake C (SpIX C pre as fs ok rp) [] X t) k := fun E G0 H0 σ G H Q f s z =>
  h _ _ _ _ _ _ _ f s fun l O1 G1 H1 vs hk f1 s1 b x dx nx ndx ne => by
    obtain ⟨a, rfl, hp, hn, hk⟩ := hk
    have f4 := made_fr (C := C) f1 nx ndx ne
    refine ⟨(x, a), G1, hp, by rw [List.append_nil]; exact .cons rfl b, f4.part oi1, fun A O' G' H' v q g c => ?_, fun cls fs O' G' H' dx ds q => absurd q (hn _ _ _)⟩
    obtain ⟨ho, rfl, rfl⟩ := q
    exact ⟨c, made_end (f1.hn _ nx) (f4.frame g) (hk ho) fun A O G H v q f s => z A O G H v q f ((s1.trans g.gg).trans s)⟩
/-- .. with defaults -/
theorem Go.makeDX {α : Type} {C : Addr} {dvs : List V} {pre : α → Prop} {as : α → List As} {fs : α → List (Str × As)} {ok : α → Prop} {rp : α → Value → List (Str × As) → OO → Prop} {X : XK} (h : GoA L O t fun l O1 => ∃ a, l ++ dvs.map cst = as a ∧ pre a ∧ (∀ cls fs O', ¬ rp a cls fs O') ∧ (ok a → k (ins C (fs a)) O1)) : Go L O (tMake C (SpIX C pre as fs ok rp) dvs X t) k := fun E G0 H0 σ G H Q f s z =>
  h _ _ _ _ _ _ _ f s fun l O1 G1 H1 vs hk f1 s1 b x dx nx ndx ne => by
    obtain ⟨a, ha, hp, hn, hk⟩ := hk
    have f4 := made_fr (C := C) f1 nx ndx ne
    refine ⟨(x, a), G1, hp, ?_, f4.part oi1, fun A O' G' H' v q g c => ?_, fun cls fs O' G' H' dx ds q => absurd q (hn _ _ _)⟩
    · show All2 G1 (pt x :: as a) (.ref x :: (vs ++ dvs))
      rw [← ha]
      exact .cons rfl (b.app (All2.csts dvs))
    obtain ⟨ho, rfl, rfl⟩ := q
    exact ⟨c, made_end (f1.hn _ nx) (f4.frame g) (hk ho) fun A O G H v q f s => z A O G H v q f ((s1.trans g.gg).trans s)⟩
/-- C(.., k = ..) by an __init__ that may raise, and does not -/
theorem Go.makeKX {α : Type} {C : Addr} {n m : Nat} {gV : List V → List V → List V} {pre : α → Prop} {as : α → List As} {fs : α → List (Str × As)} {ok : α → Prop} {rp : α → Value → List (Str × As) → OO → Prop} {X : XK} (gA : List As → List As → List As)
    (hg : ∀ (G : Hp) (p : V) (P : As) (l ms : List As) (vs zs : List V), P.p G p → All2 G l vs → All2 G ms zs → All2 G (P :: gA l ms) (gV (p :: vs) zs))
    (h : GoA L O t fun l O1 => GoA L O1 tk fun ms O2 => l.length = n ∧ ms.length = m ∧ ∃ a, gA l ms = as a ∧ pre a ∧ (∀ cls fs O', ¬ rp a cls fs O') ∧ (ok a → k (ins C (fs a)) O2)) : Go L O (tMakeK C n m (SpIX C pre as fs ok rp) gV X t tk) k := fun E G0 H0 σ G H Q f s z =>
  h _ _ _ _ _ _ _ f s fun l O1 G1 H1 vs hk f1 s1 b => hk _ _ _ _ _ _ _ f1 (s.m s1) fun ms O2 G2 H2 zs hk f2 s2 c => by
    obtain ⟨l1, l2, a, ha, hp, hn, hk⟩ := hk
    refine ⟨by rw [b.len, l1], by rw [c.len, l2], fun x dx nx ndx ne => ?_⟩
    have f4 := made_fr (C := C) f2 nx ndx ne
    refine ⟨(x, a), G2, hp, ?_, f4.part oi1, fun A O' G' H' v q g c => ?_, fun cls fs O' G' H' dx ds q => absurd q (hn _ _ _)⟩
    · have e := hg G2 (.ref x) (pt x) l ms vs zs rfl (b.m s2) c
      rw [ha] at e
      exact e
    obtain ⟨ho, rfl, rfl⟩ := q
    exact ⟨c, made_end (f2.hn _ nx) (f4.frame g) (hk ho) fun A O G H v q f s => z A O G H v q f (((s1.trans s2).trans g.gg).trans s)⟩
end
section
variable {X : Cx} {K : PySem.W.Frag} {o e value : Expr} {f : Str} {pos pos' : Pos} {ta tv : TE}
theorem kFld (hK : X.K = K) (he : PE X e ta) (hb : attributeBase e f X.env (eval e X.env) = eval e X.env) : PE X (.Attribute e f pos) (tFld K ta f) := by
  subst hK
  exact pe_fld he hb
theorem kSFld (hK : X.K = K) (ha : PE X o ta) (hv : PE X value tv) (hs : swapsWith value (some (.Attribute o f pos')) pos.line X.env = pure false) : PS X (.Assign [.Attribute o f pos'] value pos) (sFld K ta tv f) := by
  subst hK
  exact ps_fld ha hv hs
end
/-! isinstance of own classes -/
/-- what the text tells of a class of its own -/
structure OwnC (K : PySem.W.Frag) (mg : Str → Option Value) (nm : Str) (C : Addr) : Prop where
  g : mg nm = some (.ref C)
  c : Cls K C
  ha : PySem.W.findIn K (.ref C) "__class__" = some (some (.builtin "object.__class__"))
  hn : PySem.W.specialIn K (.builtin "object.__class__") "__get__" = some (some (.builtin "getset_descriptor.__get__"))
  tk : PySem.W.takesIn K (.builtin "object.__class__") = some true
  mo : PySem.W.mroIn K C (.type "object") = some true
  cl : PySem.W.isClsIn K C = true
  ty : PySem.W.typeIn K (.ref C) = some (.type "type")
  sN : PySem.W.subIn K (.type "NoneType") (.ref C) = some false
  sb : PySem.W.subIn K (.type "bool") (.ref C) = some false
  si : PySem.W.subIn K (.type "int") (.ref C) = some false
  ss : PySem.W.subIn K (.type "str") (.ref C) = some false
  sl : PySem.W.subIn K (.type "list") (.ref C) = some false
  st : PySem.W.subIn K (.type "tuple") (.ref C) = some false
  sd : PySem.W.subIn K (.type "dict") (.ref C) = some false
section
variable {K : PySem.W.Frag} {mg : Str → Option Value} {nm nm2 : Str} {C D : Addr} {O : OO} {k : As → OO → Prop}
theorem OwnC.kit (o : OwnC K mg nm C) {t : Value} (h : PySem.W.subIn K t (.ref C) = some false) (hne : (t == .ref C) = false) : PySem.W.kitOne K t (.ref C) = some false := by
  have h1 : (PySem.W.clsIn K C).isSome = true := o.cl
  unfold PySem.W.kitOne PySem.W.kitCls
  rw [hne, if_neg Bool.false_ne_true]
  show (if ((PySem.W.clsIn K C).isSome && PySem.W.typeIn K (.ref C) == some (.type "type")) = true then PySem.W.subIn K t (.ref C) else none) = some false
  rw [if_pos (by rw [h1, o.ty]; rfl)]
  exact h
theorem OwnC.kitS (o : OwnC K mg nm C) : PySem.W.kitOne K (.ref C) (.ref C) = some true := by
  unfold PySem.W.kitOne
  rw [if_pos (by simp)]
theorem OwnC.tyx (o : OwnC K mg nm C) {A : As} (h : InsC A O C) : TyXA K A O (.ref C) := fun E G0 H0 G H x f a => by
  obtain ⟨p, dx, vs, rfl, e⟩ := h _ _ _ _ _ _ f a
  exact .base (.ins e o.c o.ha o.hn o.tk o.mo)
/-- what its type is, if it is none of the program's -/
class PlainA (K : PySem.W.Frag) (A : As) (T : outParam String) : Prop where
  ty : ∀ O, TyXA K A O (.type T)
instance {i : Int} : PlainA K (it i) "int" := ⟨fun _ => tx_i⟩
instance {i : Bool} : PlainA K (bo i) "bool" := ⟨fun _ => tx_b⟩
instance {l : List Nat} : PlainA K (tx l) "str" := ⟨fun _ => tx_s⟩
instance : PlainA K no "NoneType" := ⟨fun _ => tx_n⟩
instance {xs : List As} : PlainA K (lst K xs) "list" := ⟨fun _ => tx_l⟩
instance {xs : List As} : PlainA K (tup K xs) "tuple" := ⟨fun _ => tx_t⟩
instance {kvs : List (Key × As)} : PlainA K (dct kvs) "dict" := ⟨fun _ => tx_d⟩
theorem v_isOwn (o : OwnC K mg nm C) {A : As} (h : InsC A O C) (q : k (bo true) O) : Vn O (rIsi K) [A, cst (.ref C)] k := fun E G0 H0 G H Q vs f a zz => by
  cases a with
  | cons a r => cases r with
    | cons b r =>
      cases r
      obtain rfl := (show _ = V.ref C from b)
      exact ⟨_, _, _, _, _, rfl, .own C, o.tyx h _ _ _ _ _ _ f a, o.kitS, zz _ _ _ _ _ q f (Same.refl _) rfl⟩
theorem v_isNot (o : OwnC K mg nm C) {A : As} {t : Value} (h : TyXA K A O t) (hs : PySem.W.subIn K t (.ref C) = some false) (hne : (t == .ref C) = false) (q : k (bo false) O) : Vn O (rIsi K) [A, cst (.ref C)] k := fun E G0 H0 G H Q vs f a zz => by
  cases a with
  | cons a r => cases r with
    | cons b r =>
      cases r
      obtain rfl := (show _ = V.ref C from b)
      exact ⟨_, _, _, _, _, rfl, .own C, h _ _ _ _ _ _ f a, o.kit hs hne, zz _ _ _ _ _ q f (Same.refl _) rfl⟩
theorem OwnC.sub (o : OwnC K mg nm C) {T : String} (h : T ∈ ["NoneType", "bool", "int", "str", "list", "tuple", "dict"]) : PySem.W.subIn K (.type T) (.ref C) = some false := by
  simp only [List.mem_cons, List.mem_nil_iff, or_false] at h
  rcases h with rfl | rfl | rfl | rfl | rfl | rfl | rfl
  · exact o.sN
  · exact o.sb
  · exact o.si
  · exact o.ss
  · exact o.sl
  · exact o.st
  · exact o.sd
theorem v_isPlain (o : OwnC K mg nm C) {A : As} {T : String} [p : PlainA K A T] (h : T ∈ ["NoneType", "bool", "int", "str", "list", "tuple", "dict"]) (q : k (bo false) O) : Vn O (rIsi K) [A, cst (.ref C)] k := v_isNot o (p.ty O) (o.sub h) rfl q
end
/-! == by an own __eq__ -/
def rEqU (K : PySem.W.Frag) (C : Addr) (sp : Sp) (E : XK) : R2 := fun x y H Q => ∃ a dx fs t, x = .ref a ∧ H a = some (.ins C dx fs) ∧ TyX K H y t ∧ PySem.W.notFirst K C t = true ∧ sp [x, y] H (fun v H' => (∃ b, v = .bl b) ∧ Q v H') E
section
variable {X : Cx} {CX : CXT} {n : Nat} {C f : Addr} {fd : FuncData} {ps : List Str} {sp : Sp} {E : XK}
theorem op_eqU (F : FnOk X.prog X.w X.K X.mg X.base CX n f fd ps sp) (hr : Room n X.A) (hs : PySem.W.findIn X.K (.ref C) "__eq__" = some (some (.ref f))) (hf : PySem.W.isFn X.K (.ref f) = true) (hb : Binds X.K fd ps []) (hx : Passes CX X E) : OpR X (compareOp .Eq) (rEqU X.K C sp E) := by
  intro pins s σ H x y v u Q I rx ry hq
  obtain ⟨a, dx, fs, t, rfl, ha, ty, hn, h⟩ := hq
  obtain rfl : v = Value.ref a := rx
  obtain ⟨_, O, _⟩ := ins_get I.hok ha
  obtain ⟨_, J, _⟩ := O.look
  obtain ⟨P, Z, p, _⟩ := kit_of I ry ty
  obtain ⟨_, fr⟩ := I.fr
  have r2 : Vals [V.ref a, y] [Value.ref a, u] := .cons rfl (.cons ry .nil)
  have hl := F.len _ _ _ _ h
  refine PySem.W.cmp_K (op := .Eq) hr.units0 fr I.ok.mod.kin J (Z.ty _ _ I.kIn p) hn hs hf (wpAny_call (codeAny_mono (F.run X.A X.stack s H ⟨[.ref a, u], []⟩ [.ref a, u] [.ref a, y] _ E hr I.env0 (by
    have z := hb s [.ref a, u] I.kIn (by rw [List.append_nil, ← r2.length]; exact hl)
    simpa using z) r2 h) fun r s' q => ?_))
  match r, q with
  | .error e, q => exact hx pins σ H s e s' I q
  | .ok (.ret w), q =>
    obtain ⟨z, H', I', rz, ⟨b, eb⟩, qz⟩ := I.after q
    subst eb
    have ew : w = Value.bool b := rz
    subst ew
    exact ⟨.bl b, H', I', rfl, qz⟩
  | .ok .next, q => exact q.elim
  | .ok .brk, q => exact q.elim
  | .ok .cont, q => exact q.elim
theorem kEqU {K : PySem.W.Frag} (hK : X.K = K) (F : FnOk X.prog X.w X.K X.mg X.base CX n f fd ps sp) (hr : Room n X.A) (hs : PySem.W.findIn K (.ref C) "__eq__" = some (some (.ref f))) (hf : PySem.W.isFn K (.ref f) = true) (hb : Binds K fd ps []) (hx : Passes CX X E) : OpR X (compareOp .Eq) (rEqU K C sp E) := by
  subst hK
  exact op_eqU F hr hs hf hb hx
end
section
variable {K : PySem.W.Frag} {mg : Str → Option Value} {nm : Str} {C : Addr} {O : OO} {k : As → OO → Prop}
/-- what the own __eq__ tells of two values -/
theorem v_eqU {α : Type} {pre : α → Prop} {as : α → List As} {r : α → Bool} {A B : As} {t : Value} {X : XK} (hA : InsC A O C) (hB : TyXA K B O t) (hn : PySem.W.notFirst K C t = true) (a : α) (ha : as a = [A, B]) (hp : pre a) (q : k (bo (r a)) O) : V2 O (rEqU K C (SpP pre as fun a => bo (r a)) X) A B k := fun E G0 H0 G H Q x y f a1 b1 zz => by
  obtain ⟨p, dx, vs, rfl, e2⟩ := hA _ _ _ _ _ _ f a1
  refine ⟨p, dx, vs, t, rfl, e2, hB _ _ _ _ _ _ f b1, hn, a, G, hp, ha ▸ .cons a1 (.cons b1 .nil), Fr.part (I := []) f (fun x hx => by cases hx), fun A O' G' H' v q' g c => ?_⟩
  obtain ⟨rfl, rfl⟩ := q'
  exact ⟨⟨_, c⟩, zz _ _ _ _ _ q (Fr.frame (I := []) f g) g.gg c⟩
theorem OwnC.nfS (o : OwnC K mg nm C) : PySem.W.notFirst K C (.ref C) = true := by
  unfold PySem.W.notFirst
  simp
theorem OwnC.nf (o : OwnC K mg nm C) {t : Value} (h : PySem.W.subIn K t (.ref C) = some false) : PySem.W.notFirst K C t = true := by
  unfold PySem.W.notFirst
  rw [h]
  simp
end
end Sy
namespace Sy
open PySem PySem.Spec PyProof.Rows L2
theorem kwsCons {K : PySem.W.Frag} {D : Addr} {q : Str × V} {l : List (Str × V)} (h : ∃ u, PySem.W.nsIn K D q.1 = some (some u) ∧ RelV q.2 u) (t : ∀ q ∈ l, ∃ u, PySem.W.nsIn K D q.1 = some (some u) ∧ RelV q.2 u) : ∀ p ∈ q :: l, ∃ u, PySem.W.nsIn K D p.1 = some (some u) ∧ RelV p.2 u := fun p hp => by
  rcases List.mem_cons.mp hp with rfl | hp
  · exact h
  · exact t p hp
/-- the class of a value -/
class HasC (A : As) (C : outParam Addr) : Prop where
  ok : ∀ O, InsC A O C
class HasF (A : As) (C : Addr) (f : Str) (B : outParam As) : Prop where
  ok : ∀ O, InsF A O C f B
section
variable {K : PySem.W.Frag} {mg : Str → Option Value} {nm : Str} {C D : Addr} {O : OO} {k : As → OO → Prop}
instance {A : As} [h : HasC A C] : Stp (InsC A O C) True := ⟨fun _ => h.ok O⟩
instance {A B : As} {f : Str} {P : As → Prop} [h : HasF A C f B] : Stp (∃ B', InsF A O C f B' ∧ P B') (P B) := ⟨fun q => ⟨B, h.ok O, q⟩⟩
instance {p : Bool} {fs : List (Str × As)} {pre post : OO} [h : OwnAt O D pre (.oi p C fs) post] : Stp (InsC (pt D) O C) True := ⟨fun _ => by have e := h.eq; subst e; exact InsC.own⟩
instance {p : Bool} {fs : List (Str × As)} {pre post : OO} {f : Str} {P : As → Prop} [h : OwnAt O D pre (.oi p C fs) post] : Stp (∃ B', InsF (pt D) O C f B' ∧ P B') (∃ B', fs.lookup f = some B' ∧ P B') := ⟨fun ⟨B, e, q⟩ => ⟨B, by have e' := h.eq; subst e'; exact InsF.own e, q⟩⟩
instance {p : Bool} {fs : List (Str × As)} {pre post : OO} {P : Addr → Bool → List (Str × As) → OO → OO → Prop} [h : OwnAt O D pre (.oi p C fs) post] : Stp (∃ (D' : Addr) (p' : Bool) (fs' : List (Str × As)) (pre' post' : OO), pt D = pt D' ∧ O = pre' ++ (D', .oi p' C fs') :: post' ∧ P D' p' fs' pre' post') (P D p fs pre post) := ⟨fun q => ⟨D, p, fs, pre, post, rfl, h.eq, q⟩⟩
theorem v_isOwnC (o : OwnC K mg nm C) {A : As} [h : HasC A C] (q : k (bo true) O) : Vn O (rIsi K) [A, cst (.ref C)] k := v_isOwn o (h.ok O) q
theorem v_isOther {nm2 : Str} (o : OwnC K mg nm C) (hs : PySem.W.subIn K (.ref D) (.ref C) = some false) (ne : D ≠ C) (o2 : OwnC K mg nm2 D) {A : As} [h : HasC A D] (q : k (bo false) O) : Vn O (rIsi K) [A, cst (.ref C)] k :=
  v_isNot o (o2.tyx (h.ok O)) hs (by simpa using ne) q
end
end Sy

/-! ### dict displays, d.get(k), dicts walked under a lock -/
namespace Sy
open PySem PySem.Spec PyProof.Rows L2
open SX (S S_len S_cat S_inj)
def GoP (L : LL) (O : OO) (trs : List (TE × TE)) (k : List (Key × As) → OO → Prop) : Prop :=
  ∀ (E : List Addr) (G0 H0 : Hp) (σ : L2.St) (G H : Hp) (Q : List (V × V) → Hp → Prop), Fr E G0 H0 O G H → Slots G L σ → (∀ l O' G' H' vs, k l O' → Fr E G0 H0 O' G' H' → Same G G' → AllK G' l vs → Q (vs.map fun kv => (kV kv.1, kv.2)) H') → tPairs trs σ H Q
def mergeA (l m : List (Key × As)) : List (Key × As) := m.foldl (fun acc kv => putA acc kv.1 kv.2) l
theorem AllK.merge {G : Hp} : ∀ {m : List (Key × As)} {ws : List (Key × V)} {l : List (Key × As)} {vs : List (Key × V)}, AllK G m ws → AllK G l vs → AllK G (mergeA l m) (mergeK vs ws)
  | _, _, _, _, .nil, h => h
  | (kk, A) :: m, (_, v) :: ws, l, vs, .cons a t, h => by
    have q : AllK G (mergeA (putA l kk A) m) (mergeK (putK vs kk v) ws) := AllK.merge t (h.put kk a)
    exact q
theorem AllK.keyAt {G : Hp} : ∀ {l : List (Key × As)} {vs : List (Key × V)} {i : Nat} {k : Key} {v : V}, AllK G l vs → vs[i]? = some (k, v) → ∃ A, l[i]? = some (k, A) ∧ A.p G v
  | _, _, i, k, v, .nil, e => by simp at e
  | _, _, 0, k, v, .cons h t, e => by simp at e; obtain ⟨rfl, rfl⟩ := e; exact ⟨_, rfl, h⟩
  | _, _, i + 1, k, v, .cons h t, e => by
    obtain ⟨A, h1, h2⟩ := AllK.keyAt (i := i) t (by simpa using e)
    exact ⟨A, by simpa using h1, h2⟩
section
variable {K : PySem.W.Frag} {L : LL} {O : OO} {k : As → OO → Prop} {te ty tv : TE} {trs : List (TE × TE)}
theorem GoP.nil {k : List (Key × As) → OO → Prop} (q : k [] O) : GoP L O [] k := fun E G0 H0 σ G H Q f s z => z _ _ _ _ [] q f (Same.refl _) .nil
theorem GoP.cons {k : List (Key × As) → OO → Prop} (h : Go L O ty fun A O1 => ∃ key, A = cst (kV key) ∧ Go L O1 tv fun B O2 => GoP L O2 trs fun l O3 => k ((key, B) :: l) O3) : GoP L O ((ty, tv) :: trs) k := fun E G0 H0 σ G H Q f s z =>
  h _ _ _ _ _ _ _ f s fun A O1 G1 H1 x hx f1 s1 a => by
    obtain ⟨key, rfl, hx⟩ := hx
    obtain rfl : x = kV key := a
    exact hx _ _ _ _ _ _ _ f1 (s.m s1) fun B O2 G2 H2 y hy f2 s2 b => hy _ _ _ _ _ _ _ f2 (s.m (s1.trans s2)) fun l O3 G3 H3 vs hk f3 s3 c => z _ _ _ _ ((key, y) :: vs) hk f3 ((s1.trans s2).trans s3) (.cons (B.m s3 b) c)
instance {k : List (Key × As) → OO → Prop} : Stp (GoP L O [] k) (k [] O) := ⟨GoP.nil⟩
instance {k : List (Key × As) → OO → Prop} : Stp (GoP L O ((ty, tv) :: trs) k) (Go L O ty fun A O1 => ∃ key, A = cst (kV key) ∧ Go L O1 tv fun B O2 => GoP L O2 trs fun l O3 => k ((key, B) :: l) O3) := ⟨GoP.cons⟩
/-- {k: v, ..} -/
theorem Go.dispO (h : ∀ D, GoP L (O ++ [(D, .od false [])]) trs fun l O1 => ∃ O2, O1 = O2 ++ [(D, .od false [])] ∧ l.length ≤ 15 ∧ k (pt D) (O2 ++ [(D, .od false (mergeA [] l))])) : Go L O (tDisp trs) k := fun E G0 H0 σ G H Q f s z p np =>
  h p _ _ _ _ _ _ _ (f.own (c := .od false []) np ⟨[], upd_same, .nil⟩) s fun l O' G' H' vs q f1 s1 a => by
    obtain ⟨O2, rfl, hl, q⟩ := q
    obtain ⟨ws, e1, e2⟩ := own_at f1
    cases e2
    exact ⟨e1, vs, rfl, by rw [a.len]; exact hl, z _ _ _ _ _ q (f1.change (fun z => z) ⟨_, upd_same, a.merge .nil⟩) s1 rfl⟩
theorem Go.disp (h : ∀ D, GoP L (O ++ [(D, .od false [])]) trs fun l O1 => ∃ O2, O1 = O2 ++ [(D, .od false [])] ∧ l.length ≤ 15 ∧ k (dct (mergeA [] l)) O2) : Go L O (tDisp trs) k :=
  Go.frzD (Go.dispO fun D => fun E G0 H0 σ G H Q f s z => h D _ _ _ _ _ _ _ f s fun l O' G' H' vs q => z _ _ _ _ _ (by
    obtain ⟨O2, e, hl, q⟩ := q
    exact ⟨O2, e, hl, D, _, O2, [], rfl, rfl, by rw [List.append_nil]; exact q⟩))
/-- a dict that can be read -/
def ReadD (A : As) (O : OO) (kvs : List (Key × As)) : Prop := ∀ (E : List Addr) (G0 H0 G H : Hp) (x : V), Fr E G0 H0 O G H → A.p G x → ∃ a vs, x = .ref a ∧ Rd H a (.dK vs) ∧ AllK G kvs vs
theorem ReadD.c {kvs : List (Key × As)} : ReadD (dct kvs) O kvs := fun E G0 H0 G H x f a => by
  obtain ⟨d, vs, h1, h2, h3⟩ := a
  exact ⟨d, vs, h1, .inl (f.gh _ _ h2), h3⟩
theorem ReadD.o {D : Addr} {p : Bool} {kvs : List (Key × As)} {pre post : OO} : ReadD (pt D) (pre ++ (D, .od p kvs) :: post) kvs := fun E G0 H0 G H x f a => by
  obtain ⟨vs, h1, h2⟩ := own_at f
  exact ⟨D, vs, a, .inl h1, h2⟩
theorem ReadD.l {D : Addr} {o : Obj} {vs : List (Key × V)} {p : Bool} {kvs : List (Key × As)} {pre post : OO} : ReadD (pt D) (pre ++ (D, .lk o vs p kvs) :: post) kvs := fun E G0 H0 G H x f a => by
  obtain ⟨h1, h2⟩ := own_at f
  exact ⟨D, vs, a, .inr ⟨o, h1⟩, h2⟩
instance {kvs : List (Key × As)} {P : List (Key × As) → Prop} : Stp (∃ kvs', ReadD (dct kvs) O kvs' ∧ P kvs') (P kvs) := ⟨fun q => ⟨kvs, ReadD.c, q⟩⟩
instance {D : Addr} {p : Bool} {kvs : List (Key × As)} {pre post : OO} {P : List (Key × As) → Prop} [h : OwnAt O D pre (.od p kvs) post] : Stp (∃ kvs', ReadD (pt D) O kvs' ∧ P kvs') (P kvs) := ⟨fun q => ⟨kvs, by have e := h.eq; subst e; exact ReadD.o, q⟩⟩
instance {D : Addr} {o : Obj} {vs : List (Key × V)} {p : Bool} {kvs : List (Key × As)} {pre post : OO} {P : List (Key × As) → Prop} [h : OwnAt O D pre (.lk o vs p kvs) post] : Stp (∃ kvs', ReadD (pt D) O kvs' ∧ P kvs') (P kvs) := ⟨fun q => ⟨kvs, by have e := h.eq; subst e; exact ReadD.l, q⟩⟩
instance {B : As} {key : Key} {P : Key → Prop} [h : KeyA B key] : Stp (∃ key', B = cst (kV key') ∧ P key') (P key) := ⟨fun q => ⟨key, h.eq, q⟩⟩
theorem AllK.get {G : Hp} {kvs : List (Key × As)} {vs : List (Key × V)} (h : AllK G kvs vs) (key : Key) : (∃ A v, getA kvs key = some A ∧ valV vs key = some v ∧ A.p G v) ∨ (getA kvs key = none ∧ valV vs key = none) := by
  cases e : kvs.find? (fun kv => decide (kv.1 = key)) with
  | none => exact .inr ⟨by unfold getA; rw [e]; rfl, (h.val key).2 e⟩
  | some p =>
    obtain ⟨v, hv, a⟩ := (h.val key).1 p.2 (by rw [e]; rfl)
    exact .inl ⟨p.2, v, by unfold getA; rw [e]; rfl, hv, a⟩
/-- d.get(k) -/
theorem Go.rget1 (h : Go L O te fun D O1 => ∃ kvs, ReadD D O1 kvs ∧ Go L O1 ty fun B O2 => ∃ kvs, ReadD D O2 kvs ∧ ∃ key, B = cst (kV key) ∧ k ((getA kvs key).getD no) O2) : Go L O (tDGet1 te ty) k := fun E G0 H0 σ G H Q f s z =>
  h _ _ _ _ _ _ _ f s fun A O1 G1 H1 x hx f1 s1 a => by
    obtain ⟨kvs, hr, hx⟩ := hx
    obtain ⟨d, vs, rfl, h1, _⟩ := hr _ _ _ _ _ _ f1 a
    refine ⟨d, rfl, .inl ⟨vs, h1⟩, hx _ _ _ _ _ _ _ f1 (s.m s1) fun B O2 G2 H2 y hy f2 s2 b => ?_⟩
    obtain ⟨kvs2, hr2, key, rfl, q⟩ := hy
    obtain rfl : y = kV key := b
    obtain ⟨d2, vs2, e, h2, h3⟩ := hr2 _ _ _ _ _ _ f2 (A.m s2 a)
    cases e
    refine ⟨_, .inl ⟨vs2, key, h2, rfl, rfl⟩, ?_⟩
    rcases h3.get key with ⟨B, v, e1, e2, b⟩ | ⟨e1, e2⟩
    · rw [e1] at q
      rw [e2]
      exact z _ _ _ _ _ q f2 (s1.trans s2) b
    · rw [e1] at q
      rw [e2]
      exact z _ _ _ _ _ q f2 (s1.trans s2) rfl
/-- d[k] -/
theorem Go.rget (h : Go L O te fun D O1 => Go L O1 ty fun B O2 => ∃ kvs, ReadD D O2 kvs ∧ ∃ key, B = cst (kV key) ∧ ∃ A, getA kvs key = some A ∧ k A O2) : Go L O (tDGet te ty) k := fun E G0 H0 σ G H Q f s z =>
  h _ _ _ _ _ _ _ f s fun A O1 G1 H1 x hx f1 s1 a => hx _ _ _ _ _ _ _ f1 (s.m s1) fun B O2 G2 H2 y hy f2 s2 b => by
    obtain ⟨kvs2, hr2, key, rfl, C, hg, q⟩ := hy
    obtain rfl : y = kV key := b
    obtain ⟨d2, vs2, rfl, h2, h3⟩ := hr2 _ _ _ _ _ _ f2 (A.m s2 a)
    rcases h3.get key with ⟨B, v, e1, e2, b⟩ | ⟨e1, e2⟩
    · rw [hg] at e1
      cases e1
      exact ⟨d2, v, rfl, .inl ⟨vs2, key, h2, rfl, e2.symm⟩, z _ _ _ _ _ q f2 (s1.trans s2) b⟩
    · rw [hg] at e1
      cases e1
/-- k in d, k not in d -/
theorem Go.rin (h : Go L O ty fun B O1 => Go L O1 te fun D O2 => ∃ kvs, ReadD D O2 kvs ∧ ∃ key, B = cst (kV key) ∧ k (bo (getA kvs key).isSome) O2) : Go L O (tDIn ty te) k := fun E G0 H0 σ G H Q f s z =>
  h _ _ _ _ _ _ _ f s fun A O1 G1 H1 y hy f1 s1 b => hy _ _ _ _ _ _ _ f1 (s.m s1) fun D O2 G2 H2 x hx f2 s2 a => by
    obtain ⟨kvs2, hr2, key, rfl, q⟩ := hx
    obtain rfl : y = kV key := b
    obtain ⟨d2, vs2, rfl, h2, h3⟩ := hr2 _ _ _ _ _ _ f2 a
    exact ⟨d2, _, rfl, .inl ⟨vs2, key, h2, rfl, rfl⟩, z _ _ _ _ _ q f2 (s1.trans s2) (by rw [getA_none h3]; rfl)⟩
theorem Go.rni (h : Go L O ty fun B O1 => Go L O1 te fun D O2 => ∃ kvs, ReadD D O2 kvs ∧ ∃ key, B = cst (kV key) ∧ k (bo (!(getA kvs key).isSome)) O2) : Go L O (tDNotIn ty te) k := fun E G0 H0 σ G H Q f s z =>
  h _ _ _ _ _ _ _ f s fun A O1 G1 H1 y hy f1 s1 b => hy _ _ _ _ _ _ _ f1 (s.m s1) fun D O2 G2 H2 x hx f2 s2 a => by
    obtain ⟨kvs2, hr2, key, rfl, q⟩ := hx
    obtain rfl : y = kV key := b
    obtain ⟨d2, vs2, rfl, h2, h3⟩ := hr2 _ _ _ _ _ _ f2 a
    exact ⟨d2, _, rfl, .inl ⟨vs2, key, h2, rfl, rfl⟩, z _ _ _ _ _ q f2 (s1.trans s2) (by rw [getA_none h3]; rfl)⟩
end
/-! a dict that is walked stands locked -/
def lkE (D : Addr) (o : Obj) (vs : List (Key × V)) (p : Bool) (kvs : List (Key × As)) (k : Es) : Es where
  nx := fun L O => ∃ R, O = (D, .lk o vs p kvs) :: R ∧ k.nx L ((D, .od p kvs) :: R)
  rt := fun A O => ∃ R, O = (D, .lk o vs p kvs) :: R ∧ k.rt A ((D, .od p kvs) :: R)
  bk := fun L O => ∃ R, O = (D, .lk o vs p kvs) :: R ∧ k.bk L ((D, .od p kvs) :: R)
  ct := fun L O => ∃ R, O = (D, .lk o vs p kvs) :: R ∧ k.ct L ((D, .od p kvs) :: R)
section
variable {K : PySem.W.Frag} {L : LL} {O R : OO} {k : Es} {te : TE} {t tb : TS} {g : TG} {D : Addr} {p : Bool} {kvs : List (Key × As)}
theorem unlk {E : List Addr} {G0 H0 G H : Hp} {o : Obj} {vs : List (Key × V)} (f : Fr E G0 H0 ((D, .lk o vs p kvs) :: R) G H) : H D = some (.frz o (.dK vs)) ∧ Fr E G0 H0 ((D, .od p kvs) :: R) G (upd H D (.dK vs)) := by
  obtain ⟨h1, h2⟩ := own_at (pre := []) f
  exact ⟨h1, Fr.change (pre := []) f (fun z => z) ⟨vs, upd_same, h2⟩⟩
theorem GoS.lock (h : ∀ o vs, GoS L ((D, .lk o vs p kvs) :: R) t (lkE D o vs p kvs k)) : GoS L ((D, .od p kvs) :: R) (tLock t) k := fun E G0 H0 σ G H De f s e => by
  obtain ⟨vs, h1, h2⟩ := own_at (pre := []) f
  refine ⟨D, .dK vs, h1, True.intro, fun od => ?_⟩
  have f2 : Fr E G0 H0 ((D, .lk od vs p kvs) :: R) G (upd H D (.frz od (.dK vs))) := Fr.change (pre := []) f (fun z => z) ⟨upd_same, h2⟩
  refine h od vs _ _ _ _ _ _ _ f2 s ⟨fun L' O' σ' G' H' q f' z s' => ?_, fun A O' G' H' v q f' z a => ?_, fun L' O' σ' G' H' q f' z s' => ?_, fun L' O' σ' G' H' q f' z s' => ?_⟩
  · obtain ⟨R2, rfl, q⟩ := q
    obtain ⟨u1, u2⟩ := unlk f'
    exact ⟨u1, e.nx _ _ _ _ _ q u2 z s'⟩
  · obtain ⟨R2, rfl, q⟩ := q
    obtain ⟨u1, u2⟩ := unlk f'
    exact ⟨u1, e.rt _ _ _ _ _ q u2 z a⟩
  · obtain ⟨R2, rfl, q⟩ := q
    obtain ⟨u1, u2⟩ := unlk f'
    exact ⟨u1, e.bk _ _ _ _ _ q u2 z s'⟩
  · obtain ⟨R2, rfl, q⟩ := q
    obtain ⟨u1, u2⟩ := unlk f'
    exact ⟨u1, e.ct _ _ _ _ _ q u2 z s'⟩
/-- what is walked while the dict at D is locked -/
def IterD (D : Addr) (o : Obj) (vs : List (Key × V)) (J : It) (xs : List As) (G : Hp) : Prop := ∃ (Gp : Hp → Prop) (Y : Nat → Hp → V → Hp → Prop), Walk J xs.length Gp Y ∧ (∀ H, H D = some (.frz o (.dK vs)) → Gp H) ∧
  ∀ i H x H', i < xs.length → Y i H x H' → ∀ Gc, Same G Gc → Same Gc H → ∃ A Gc', xs[i]? = some A ∧ Ext Gc H Gc' H' ∧ A.p Gc' x
def GoD (L : LL) (O : OO) (D : Addr) (o : Obj) (vs : List (Key × V)) (wi : TI) (k : List As → OO → Prop) : Prop :=
  ∀ (E : List Addr) (G0 H0 : Hp) (σ : L2.St) (G H : Hp) (R : It → Hp → Prop), Fr E G0 H0 O G H → Slots G L σ → (∀ xs O' G' H' J, k xs O' → Fr E G0 H0 O' G' H' → Same G G' → IterD D o vs J xs G' → R J H') → wi σ H R
theorem GoD.keys {o : Obj} {vs : List (Key × V)} {k : List As → OO → Prop} (h : Go L O te fun A O1 => A = pt D ∧ ∃ R, O1 = (D, .lk o vs p kvs) :: R ∧ k (kvs.map fun kv => cst (kV kv.1)) O1) : GoD L O D o vs (iKeys te) k := fun E G0 H0 σ G H R f s z =>
  h _ _ _ _ _ _ _ f s fun A O1 G1 H1 v q f1 s1 a => by
    obtain ⟨rfl, R', rfl, q⟩ := q
    obtain ⟨h1, h2⟩ := own_at (pre := []) f1
    refine ⟨D, o, a, .inl ⟨vs, h1, z _ _ _ _ _ q f1 s1 ⟨_, _, by rw [List.length_map, ← h2.len]; exact walk_keys, fun H e => e, fun i H x H' hi y Gc e1 e2 => ?_⟩⟩⟩
    obtain ⟨rfl, kk, v, hv, rfl⟩ := y
    refine ⟨cst (kV kk), Gc, ?_, Ext.refl e2, rfl⟩
    rw [List.getElem?_map]
    obtain ⟨B, hB, _⟩ := h2.keyAt hv
    rw [hB]
    rfl
theorem GoS.forD {o : Obj} {vs : List (Key × V)} {wi : TI} (h : GoD L O D o vs wi fun xs O1 => ∃ (R : OO) (J : Nat → LL → OO → Prop), O1 = (D, .lk o vs p kvs) :: R ∧ J 0 L R ∧
    (∀ i A L' R', xs[i]? = some A → J i L' R' → GoG L' A g fun L2 => GoS L2 ((D, .lk o vs p kvs) :: R') tb { k with nx := fun L3 O3 => ∃ R3, O3 = (D, .lk o vs p kvs) :: R3 ∧ J (i + 1) L3 R3, ct := fun L3 O3 => ∃ R3, O3 = (D, .lk o vs p kvs) :: R3 ∧ J (i + 1) L3 R3, bk := k.nx }) ∧
    ∀ L' R', J xs.length L' R' → k.nx L' ((D, .lk o vs p kvs) :: R')) : GoS L O (tFor wi g tb) k := fun E G0 H0 σ G H De f s e =>
  h _ _ _ _ _ _ _ f s fun xs O1 G1 H1 It q f1 s1 ok => by
    obtain ⟨R, J, rfl, j0, js, jd⟩ := q
    obtain ⟨Gp, Y, w, gp, yy⟩ := ok
    refine for_it w (fun i σ' H' => ∃ L' R' G', J i L' R' ∧ Fr E G0 H0 ((D, .lk o vs p kvs) :: R') G' H' ∧ Same G1 G' ∧ Slots G' L' σ') ⟨L, R, G1, j0, f1, Same.refl _, s.m s1⟩ (fun i σ' H' _ ⟨_, _, G', _, f', z, _⟩ => gp _ (own_at (pre := []) f').1) (fun i x σ' H' H'' hi ⟨L', R', G', j', f', z, s'⟩ y => ?_)
      (fun σ' H' ⟨L', R', G', j', f', z, s'⟩ => e.nx _ _ _ _ _ (jd _ _ j') f' (s1.trans z) s')
    obtain ⟨A, G2, hA, ex, a⟩ := yy i H' x H'' hi y G' z f'.gh
    have f2 := f'.ext ex
    have z2 := z.trans ex.g
    refine js i A L' R' hA j' _ _ _ _ _ f2.gh (s'.m ex.g) a fun L2 σ2 q2 s2 => ?_
    exact q2 _ _ _ _ _ _ _ f2 s2 ⟨fun L O σ G H ⟨R3, eO, q⟩ f z s => by subst eO; exact ⟨_, _, _, q, f, z2.trans z, s⟩, fun A O G H v q f z a => e.rt _ _ _ _ _ q f ((s1.trans z2).trans z) a, fun L O σ G H q f z s => e.nx _ _ _ _ _ q f ((s1.trans z2).trans z) s, fun L O σ G H ⟨R3, eO, q⟩ f z s => by subst eO; exact ⟨_, _, _, q, f, z2.trans z, s⟩⟩
/-- the slots ws are for the body -/
theorem GoS.forDE {o : Obj} {vs : List (Key × V)} {wi : TI} (ws : List Nat) (h : GoD L O D o vs wi fun xs O1 => ∃ (R : OO) (L9 : LL) (P : Nat → OO → Prop), O1 = (D, .lk o vs p kvs) :: R ∧ wipeL L ws = L9 ∧ P 0 R ∧
    (∀ i A R', xs[i]? = some A → P i R' → GoG L9 A g fun L2 => GoS L2 ((D, .lk o vs p kvs) :: R') tb { k with nx := fun L3 O3 => ∃ R3, O3 = (D, .lk o vs p kvs) :: R3 ∧ wipeL L3 ws = L9 ∧ P (i + 1) R3, ct := fun L3 O3 => ∃ R3, O3 = (D, .lk o vs p kvs) :: R3 ∧ wipeL L3 ws = L9 ∧ P (i + 1) R3, bk := k.nx }) ∧
    ∀ R', P xs.length R' → k.nx L9 ((D, .lk o vs p kvs) :: R')) (hk : ∀ L' O', k.nx (wipeL L' ws) O' → k.nx L' O') : GoS L O (tFor wi g tb) k := GoS.forD (p := p) (kvs := kvs) (D := D) (o := o) (vs := vs) fun E G0 H0 σ G H R f s z => h _ _ _ _ _ _ _ f s fun xs O1 G1 H1 J q => z _ _ _ _ _ (by
    obtain ⟨R, L9, P, rfl, rfl, p0, hs, hd⟩ := q
    refine ⟨R, fun i L' R' => wipeL L' ws = wipeL L ws ∧ P i R', rfl, ⟨rfl, p0⟩, fun i A L' R' hA ⟨es, hp⟩ => ?_, fun L' R' ⟨es, hp⟩ => hk _ _ (by rw [es]; exact hd R' hp)⟩
    exact fun σ G H Q x sm sl a z => hs i A R' hA hp _ _ _ _ _ sm (es ▸ sl.forgets ws) a z)
end
end Sy

/-! ### d[k] = v as a target among others -/
namespace Sy
open PySem PySem.Spec PyProof.Rows L2
section
variable {K : PySem.W.Frag} {L : LL} {O : OO}
theorem GoGh.subD {to ti : TE} {A : As} {k : LL → OO → Prop} (h : Go L O to fun B O1 => Go L O1 ti fun C O2 => ∃ pb D kvs pre post key, B = pt D ∧ C = cst (kV key) ∧ O2 = pre ++ (D, .od pb kvs) :: post ∧ kvs.length < 100000 ∧ k L (pre ++ (D, .od pb (putA kvs key A)) :: post)) : GoGh L O A (gSub to ti rSetD) k := fun E G0 H0 σ G H Q x f s a z =>
  h _ _ _ _ _ _ _ f s fun B O1 G1 H1 v q f1 s1 b => q _ _ _ _ _ _ _ f1 (s.m s1) fun C O2 G2 H2 w q2 f2 s2 c => by
    obtain ⟨pb, D, kvs, pre, post, key, rfl, rfl, rfl, hn, hk⟩ := q2
    obtain ⟨us, u1, u2⟩ := own_at f2
    obtain rfl : v = .ref D := b
    obtain rfl : w = kV key := c
    exact ⟨D, _, rfl, DPut.k u1 (by rw [u2.len]; exact szlt (by omega)), z _ _ _ _ _ hk (Fr.change f2 (fun z => z) ⟨_, upd_same, u2.put key (A.m (s1.trans s2) a)⟩) (s1.trans s2) (s.m (s1.trans s2))⟩
theorem GoGh.name {A : As} {i : Nat} {k : LL → OO → Prop} (q : k (setL L i A) O) : GoGh L O A (gName i) k := fun E G0 H0 σ G H Q x f s a z => z _ _ _ _ _ q f (Same.refl _) (s.set a i)
instance {te a b : TE} {u : TGs} {E : Es} {n : Nat} : Stp (GoS L O (tAsg te (gTup K n (gCons (gSub a b rSetD) u))) E) (Go L O te fun A O1 => GoGh L O1 A (gTup K n (gCons (gSub a b rSetD) u)) E.nx) := ⟨GoS.asgH⟩
end
end Sy

/-! ### d.update(e) -/
def rUpdK : V → List V → Hp → VK → Prop := fun x xs H Q => ∃ a b kvs more, x = .ref a ∧ xs = [.ref b] ∧ a ≠ b ∧ H a = some (.dK kvs) ∧ H b = some (.dK more) ∧ kvs.length + more.length ≤ sizeLine ∧ Q .non (upd H a (.dK (mergeK kvs more)))
theorem mt_upd {X : Cx} : MtR X "dict.update" rUpdK := by
  intro pins s σ H x xs v us Q I rx rxs q
  obtain ⟨a, b, kvs, more, rfl, rfl, ne, ha, hb, hl, q⟩ := q
  cases (show v = Value.ref a from rx)
  obtain rfl := Vals.ref1 rxs
  obtain ⟨z, hd, vs, rel, dd⟩ := dk_of I.hok ha
  obtain ⟨z2, hd2, ws, rel2, dd2⟩ := dk_of I.hok hb
  refine call_meetsIn PySem.F.slot_dict_update dd.typeIs PySem.F.entry_dict_update (PySem.F.args_dict_update_2 _ _) (PySem.meets_dict_update (mixKind X.prog X.w) a b ne hd2) ⟨vs, ws, dd, dd2, by rw [← rel.length, ← rel2.length]; exact hl, fun h' dd' _ hs => ?_⟩
  have he : ∃ q, h'.get? a = some q := let ⟨q, _, _, hq, _⟩ := dd'; ⟨q, hq⟩
  exact ⟨.non, _, d_write I (by rw [ha]; exact True.intro) hs he (dk_new (Nat.le_trans (length_mergeK more kvs) hl) hd (rel2.merge rel) dd'), rfl, q⟩
def rDictK : List V → Hp → VK → Prop := fun xs H Q => ∃ b more, xs = [.ref b] ∧ H b = some (.dK more) ∧ ∀ p, H p = none → Q (.ref p) (upd H p (.dK more))
theorem call_dictK {X : Cx} : CallR X (.type "dict") rDictK := by
  intro pins s σ H xs us Q I rxs q
  obtain ⟨b, more, rfl, hb, q⟩ := q
  obtain rfl := Vals.ref1 rxs
  obtain ⟨z2, hd2, ws, rel2, dd2⟩ := dk_of I.hok hb
  have hn := I.hok.fresh (Nat.le_refl s.heap.objs.size)
  have I1 := I.laid (a := s.heap.objs.size) (o := .dK []) (h' := s.heap.push { cls := .type "dict", data := .dict #[] }) (t' := s.toks) (fun _ _ q => Heap.get?_push_of_some _ q) (Nat.le_refl _) (dk_empty s.heap I.big)
  have e1 : upd H s.heap.objs.size (.dK []) s.heap.objs.size = some (.dK []) := upd_same
  obtain ⟨_, hd, _⟩ := dk_of I1.hok e1
  refine kt_call_dict (knd := mixKind X.prog X.w) hd2 dd2 (by rw [← rel2.length]; exact z2) fun h' dd' hs => ?_
  have he : ∃ q, h'.get? s.heap.objs.size = some q := let ⟨q, _, _, hq, _⟩ := dd'; ⟨q, hq⟩
  have I2 := d_write (ob := .dK more) (t' := s.toks) I1 (by rw [e1]; exact True.intro) hs he (dk_new z2 hd rel2 dd')
  have e2 : upd (upd H s.heap.objs.size (.dK [])) s.heap.objs.size (.dK more) = upd H s.heap.objs.size (.dK more) := by
    funext c
    by_cases h : c = s.heap.objs.size
    · subst h
      rw [upd_same, upd_same]
    · rw [upd_ne h, upd_ne h, upd_ne h]
  rw [e2] at I2
  exact ⟨.ref s.heap.objs.size, _, I2, rfl, q _ hn⟩
namespace Sy
open PySem PySem.Spec PyProof.Rows L2
section
variable {K : PySem.W.Frag} {O : OO} {k : As → OO → Prop}
theorem v_updD {pre post : OO} {pb : Bool} {D : Addr} {kvs ms : List (Key × As)} (hl : kvs.length + ms.length ≤ 100000) (q : k no (pre ++ (D, .od pb (mergeA kvs ms)) :: post)) : Vm (pre ++ (D, .od pb kvs) :: post) rUpdK (pt D) [dct ms] k := fun E G0 H0 G H Q x vs f a b zz => by
  obtain rfl : x = .ref D := a
  cases b with
  | cons b r =>
    cases r
    obtain ⟨d, ws, rfl, g1, g2⟩ := b
    obtain ⟨us, h1, h2⟩ := own_at f
    have gn : G D = none := (f.ow (D, .od pb kvs) (by simp)).1
    refine ⟨D, d, us, ws, rfl, rfl, fun e => ?_, h1, f.gh _ _ g1, by rw [h2.len, g2.len]; exact sz hl, ?_⟩
    · subst e
      rw [gn] at g1
      cases g1
    · exact zz _ _ _ _ _ q (f.change (fun z => z) ⟨_, upd_same, AllK.merge g2 h2⟩) (Same.refl _) rfl
theorem v_dictC {kvs : List (Key × As)} (q : ∀ p, k (pt p) (O ++ [(p, .od false kvs)])) : Vn O rDictK [dct kvs] k := fun E G0 H0 G H Q vs f a zz => by
  cases a with
  | cons b r =>
    cases r
    obtain ⟨d, ws, rfl, g1, g2⟩ := b
    exact ⟨d, ws, rfl, f.gh _ _ g1, fun p np => zz _ _ _ _ _ (q p) (f.own (c := .od false kvs) np ⟨ws, upd_same, g2⟩) (Same.refl _) rfl⟩
theorem v_dictO {pre post : OO} {D : Addr} {pb : Bool} {kvs : List (Key × As)} (q : ∀ p, k (pt p) ((pre ++ (D, .od pb kvs) :: post) ++ [(p, .od false kvs)])) : Vn (pre ++ (D, .od pb kvs) :: post) rDictK [pt D] k := fun E G0 H0 G H Q vs f a zz => by
  cases a with
  | cons b r =>
    cases r
    obtain rfl : _ = V.ref D := b
    obtain ⟨ws, h1, h2⟩ := own_at f
    exact ⟨D, ws, rfl, h1, fun p np => zz _ _ _ _ _ (q p) (f.own (c := .od false kvs) np ⟨ws, upd_same, h2⟩) (Same.refl _) rfl⟩
theorem ty_od {pre post : OO} {D : Addr} {pb : Bool} {kvs : List (Key × As)} : TyA K "dict" (pt D) (pre ++ (D, .od pb kvs) :: post) := fun E G0 H0 G H x f a => by
  obtain rfl : x = .ref D := a
  obtain ⟨us, h1, _⟩ := own_at f

  exact .inr (.inr (.inl ⟨rfl, .inl ⟨us, h1⟩⟩))
instance {D : Addr} {pre post : OO} {pb : Bool} {kvs ms : List (Key × As)} [h : OwnAt O D pre (.od pb kvs) post] : Stp (Vm O rUpdK (pt D) [dct ms] k) (kvs.length + ms.length ≤ 100000 ∧ k no (pre ++ (D, .od pb (mergeA kvs ms)) :: post)) := ⟨fun q => by have e := h.eq; subst e; exact v_updD q.1 q.2⟩
instance {D : Addr} {pre post : OO} {pb : Bool} {kvs : List (Key × As)} [h : OwnAt O D pre (.od pb kvs) post] : Stp (TyA K "dict" (pt D) O) True := ⟨fun _ => by have e := h.eq; subst e; exact ty_od⟩
end
end Sy

/-! ### list(d.values()) -/

section
variable {X : Cx} {o : Expr} {p pos apos mpos : Pos} {td : TE}
def tListVals (td : TE) : TE := fun σ H Q => td σ H fun x H1 => ∃ a kvs, x = V.ref a ∧ H1 a = some (.dK kvs) ∧ ∀ q, H1 q = none → Q (.ref q) (upd H1 q (.lst (kvs.map (·.2))))
theorem pe_listVals (hc : X.calm = true) (hg : Gl X "list") (hm : X.mg "list" = none) (hd : PE X o td) (hbase : attributeBase o "values" X.env (eval o X.env) = eval o X.env := by rfl) (hline : (apos.endLine == mpos.line) = true := by rfl)
    (na : starEach [Expr.Call (.Attribute o "values" apos) [] [] mpos] X.env = (false, eval (Expr.Call (.Attribute o "values" apos) [] [] mpos) X.env) :: starEach [] X.env := by rfl) :
    PE X (.Call (.Name "list" p) [.Call (.Attribute o "values" apos) [] [] mpos] [] pos) (tListVals td) := by
  refine ⟨fun pins s σ H Q I h => ?_⟩
  refine Call_ (ld_blt I hg hm boot_list (PyProof.Rows.callWith_type1 (args_cons (wpAny_Call_method0_late hbase hline (thn (hd.run pins s σ H _ I h) fun v s1 ⟨x, H1, I1, r1, a, kvs, ex, ha, q⟩ => ?_)) na) na))
  subst ex
  obtain rfl : v = Value.ref a := r1
  obtain ⟨z, hsys, vs, rel, dof⟩ := dk_of I1.hok ha
  obtain ⟨ep, dat⟩ := dof.dictAt
  have dat' := dat
  obtain ⟨ob, es, ho, ex, hdat, hko, hpr, hnd⟩ := dat'
  refine ⟨"dict", "dict.values", F.plainAttrs_dict, F.slot_dict_values, F.type_dict_values, ⟨ob, ho, ex.1⟩, fun b e => ?_, Calls.callWith_builtin rfl (PySem.evalArgs_none ?_)⟩
  · cases e
    exact ⟨ob, ho, ex.2.1⟩
  refine call_meetsIn F.slot_dict_values ⟨ob, ho, ex.1⟩ F.entry_dict_values (F.args_dict_values_1 _) (meets_dict_values (mixKind X.prog X.w) a hsys) ⟨⟨vs, dof⟩, ?_⟩
  have k1 : ∀ b u, s1.heap.get? b = some u → (s1.heap.push { cls := .type "dict_values", data := .fields #[.ref a] }).get? b = some u := fun b u e => Heap.get?_push_of_some _ e
  have dat1 : (s1.heap.push { cls := .type "dict_values", data := .fields #[.ref a] }).DictAt (mixKind X.prog X.w) a vs ep := dat.keep k1
  have hl : kvs.length = vs.length := Paired.length rel
  refine args_nil ?_
  refine PySem.W.kdl_call (PySem.W.kdl_values (knd := mixKind X.prog X.w) (r := s1.heap.objs.size) (d := a) (kvs := vs) (ep := ep)) (I1.ok.hd hc) ⟨⟨_, Heap.get?_push_size _ rfl, rfl, rfl⟩, dat1⟩ (by rw [← hl]; exact z) fun h' tk acc' c' hkeep hS hacc => ?_
  have hsz : (s1.heap.push { cls := .type "dict_values", data := .fields #[.ref a] }).objs.size = s1.heap.objs.size + 1 := Heap.size_push _ _
  have hge : s1.heap.objs.size ≤ (s1.heap.push { cls := .type "dict_values", data := .fields #[.ref a] }).objs.size := by rw [hsz]; exact Nat.le_succ _
  refine ⟨.ref _, upd H1 _ (.lst (kvs.map (·.2))), I1.laid (t' := tk) (fun b u e => hkeep b u (k1 b u e)) hge (show ObjOk X.prog X.w _ _ _ (.lst (kvs.map (·.2))) from ⟨?_, acc'.toList, c', ?_, ?_⟩), rfl, q _ (I1.hok.fresh hge)⟩
  · rw [List.length_map]; exact z
  · have el : acc'.toList.length = acc'.size := by simp
    refine vals_of_at (by rw [List.length_map, el, hacc.1, hl]) fun j x w h1 h2 => ?_
    obtain ⟨k, hky⟩ := hacc.2 j w (by rw [← Array.getElem?_toList]; exact h2)
    obtain ⟨y, e1, e2⟩ := KV.at' rel hky
    rw [List.getElem?_map, e1] at h1
    cases h1
    exact e2
  · rw [Array.toArray_toList]; exact hS
end
namespace Sy
open PySem PySem.Spec PyProof.Rows L2
section
variable {K : PySem.W.Frag} {L : LL} {O : OO} {k : As → OO → Prop} {te : TE}
/-- a dict that can be read and is not locked -/
def ReadK (A : As) (O : OO) (kvs : List (Key × As)) : Prop := ∀ (E : List Addr) (G0 H0 G H : Hp) (x : V), Fr E G0 H0 O G H → A.p G x → ∃ a vs, x = .ref a ∧ H a = some (.dK vs) ∧ AllK G kvs vs
theorem ReadK.c {kvs : List (Key × As)} : ReadK (dct kvs) O kvs := fun E G0 H0 G H x f a => by
  obtain ⟨d, vs, h1, h2, h3⟩ := a
  exact ⟨d, vs, h1, f.gh _ _ h2, h3⟩
theorem ReadK.o {D : Addr} {p : Bool} {kvs : List (Key × As)} {pre post : OO} : ReadK (pt D) (pre ++ (D, .od p kvs) :: post) kvs := fun E G0 H0 G H x f a => by
  obtain ⟨vs, h1, h2⟩ := own_at f
  exact ⟨D, vs, a, h1, h2⟩
instance {kvs : List (Key × As)} {P : List (Key × As) → Prop} : Stp (∃ kvs', ReadK (dct kvs) O kvs' ∧ P kvs') (P kvs) := ⟨fun q => ⟨kvs, ReadK.c, q⟩⟩
instance {D : Addr} {p : Bool} {kvs : List (Key × As)} {pre post : OO} {P : List (Key × As) → Prop} [h : OwnAt O D pre (.od p kvs) post] : Stp (∃ kvs', ReadK (pt D) O kvs' ∧ P kvs') (P kvs) := ⟨fun q => ⟨kvs, by have e := h.eq; subst e; exact ReadK.o, q⟩⟩
theorem AllK.vals {G : Hp} : ∀ {l : List (Key × As)} {vs : List (Key × V)}, AllK G l vs → All2 G (l.map (·.2)) (vs.map (·.2))
  | _, _, .nil => .nil
  | _, _, .cons h t => .cons h (AllK.vals t)
/-- list(d.values()) -/
theorem Go.lvals (h : Go L O te fun D O1 => ∃ kvs, ReadK D O1 kvs ∧ k (Sy.lst K (kvs.map (·.2))) O1) : Go L O (tListVals te) k := fun E G0 H0 σ G H Q f s z =>
  h _ _ _ _ _ _ _ f s fun A O1 G1 H1 x hx f1 s1 a => by
    obtain ⟨kvs, hr, q⟩ := hx
    obtain ⟨d, vs, rfl, h1, h2⟩ := hr _ _ _ _ _ _ f1 a
    refine ⟨d, vs, rfl, h1, fun p np => ?_⟩
    have ex := Ext.new (o := .lst (vs.map (·.2))) f1.gh np
    exact z _ _ _ _ _ q (f1.ext ex) (s1.trans ex.g) ⟨p, _, rfl, upd_same, (AllK.vals h2).m ex.g⟩
end
end Sy

/-! ### == of dicts; list(d); dict(d) that is kept; tuple(d.values()) -/
inductive KqR (K : PySem.W.Frag) (H : Hp) (kb : List (Key × V)) : List (Key × V) → Bool → Prop
  | nil : KqR K H kb [] true
  | hit {k : Key} {v u : V} {d e : PyData} {r : List (Key × V)} {b : Bool} : valV kb k = some u → Dp K H v d → Dp K H u e → SeqAt.shaped d = true → SeqAt.shaped e = true → KqR K H kb r b → KqR K H kb ((k, v) :: r) (PyData.eqv d e && b)
  | miss {k : Key} {v : V} {r : List (Key × V)} : valV kb k = none → KqR K H kb ((k, v) :: r) false
def rEqK (K : PySem.W.Frag) : R2 := fun x y H Q => ∃ a b ka kb r, x = .ref a ∧ y = .ref b ∧ H a = some (.dK ka) ∧ H b = some (.dK kb) ∧ KqR K H kb ka r ∧ Q (.bl (ka.length == kb.length && r)) H
theorem KqR.hits {X : Cx} {pins : List (Addr × Obj)} {σ : L2.St} {H : Hp} {s : Shared} {A : Around} (I : Inv X pins σ H s) (hu : A.in1.units + 64 < cLine) {kb : List (Key × V)} {vb : List (Key × Value)} (rb : KV kb vb) :
    ∀ {ka : List (Key × V)} {va : List (Key × Value)} {r : Bool}, KqR X.K H kb ka r → KV ka va → PySem.W.KeqHitsP X.prog X.w A.in1 s vb va r := by
  intro ka
  induction ka with
  | nil =>
    intro va r h ra
    cases h
    unfold KV at ra
    cases ra
    exact .nil
  | cons p ka ih =>
    intro va r h ra
    obtain ⟨k, v⟩ := p
    unfold KV at ra
    cases ra with
    | @cons _ q _ qs hq t =>
      obtain ⟨key, w⟩ := q
      obtain ⟨e1, e2⟩ := hq
      have e1' : k = key := e1
      subst e1'
      cases h with
      | @hit _ _ u d e _ b h1 h2 h3 h4 h5 h6 =>
        have rr : RelO (some u) (valueAt vb k) := by rw [← h1]; exact rb.val k
        obtain ⟨y, hy, ry⟩ := rr.some_of
        obtain ⟨as, r1⟩ := Dp.reads I d v w h2 e2
        obtain ⟨bs, r2⟩ := Dp.reads I e u y h3 ry
        exact .hit hy (PySem.W.keq_at r1 r2 h4 h5 hu).eqP (ih h6 t)
      | miss h1 =>
        have rr : RelO none (valueAt vb k) := by rw [← h1]; exact rb.val k
        refine .miss ?_
        cases z : valueAt vb k with
        | none => rfl
        | some y => rw [z] at rr; cases rr
theorem op_eqK {X : Cx} {K : PySem.W.Frag} (hK : X.K = K) (hu : X.A.units + 65 < cLine) : OpR X (compareOp .Eq) (rEqK K) := by
  subst hK
  intro pins s σ H x y v u Q I rx ry h
  obtain ⟨a, b, ka, kb, r, rfl, rfl, ha, hb, hr, q⟩ := h
  cases (show v = Value.ref a from rx)
  cases (show u = Value.ref b from ry)
  obtain ⟨_, sa, va, ra, da⟩ := dk_of I.hok ha
  obtain ⟨_, sb, vb, rb, db⟩ := dk_of I.hok hb
  refine PySem.W.rcP_dicts sa sb da db (by omega) (fun _ => hr.hits I (by show X.A.units + 1 + 64 < cLine; omega) rb ra) _ _ ⟨.bl (va.length == vb.length && r), H, I, rfl, ?_⟩
  rw [← Paired.length ra, ← Paired.length rb]
  exact q
/-! tuple(d.values()) -/
section
variable {prog : Program} {w : World} {A : Around} {E : Value → Shared → Prop} {s : Shared} {T : String} {r d : Addr} {n : Nat} {P : Nat → Value → Prop} {OK : Heap → Prop}
open PySem.Calls PySem.W
theorem collect_src {Q : List Value → Shared → Prop} (Ks : KdlSrc prog w T r d n P OK) (hh : A.handled = none) (ok : OK s.heap) (hn : n ≤ sizeLine)
    (hQ : ∀ (h' : Heap) (tk : Nat) (acc : Array Value), (∀ b o, s.heap.get? b = some o → h'.get? b = some o) → ItemsOf P acc n → Q acc.toList { s with heap := h', toks := tk }) : wpAny (model prog w) A (collect (.ref r)) Q E s := by
  have hS : (s.heap.push { cls := .type "list", data := .seq ([] : List Value).toArray }).get? s.heap.objs.size = some { cls := .type "list", data := .seq #[] 0 } := Heap.get?_push_size _ rfl
  have hlt := Ks.there _ ok
  have kp : ∀ b o, s.heap.get? b = some o → (s.heap.push { cls := .type "list", data := .seq ([] : List Value).toArray }).get? b = some o := fun b o e => Heap.get?_push_of_some _ e
  have core := kdl_extend (A := A) (s := { s with heap := s.heap.push { cls := .type "list", data := .seq ([] : List Value).toArray } }) Ks hh (Ks.keep _ _ ok fun b _ o e => kp b o e) s.heap.objs.size (Nat.ne_of_gt hlt.1) (Nat.ne_of_gt hlt.2) (.ref s.heap.objs.size) 0 hS
    (R := fun rr s' => rr = .ok (.ret (.ref s.heap.objs.size)) ∧ ∃ (h' : Heap) (tk : Nat) (acc : Array Value) (c' : Nat), s' = { s with heap := h', toks := tk } ∧ (∀ b o, s.heap.get? b = some o → h'.get? b = some o) ∧ h'.get? s.heap.objs.size = some { cls := .type "list", dict := none, data := .seq acc c', slots := #[] } ∧ ItemsOf P acc n)
    (fun h' tk acc c' hk e hi => ⟨rfl, h', tk, acc, c', rfl, fun b o q => hk b o (Nat.ne_of_lt (Heap.lt_size q)) (kp b o q), e, hi⟩) hn
  unfold collect
  refine wpAny_bind (wpAny_runValue (codeAny_builtin F.entry_proto_collect ?_))
  rw [Around.under_plainId F.plain_proto_collect _]
  show wpAny _ A.in1 (newList [] >>= fun l => again (.builtin "list.__iadd__" ⟨[l, .ref r], []⟩)) _ _ s
  refine wpAny_bind (wpAny_newObj_type (wpAny_pure ⟨plainId_quiet F.plain_list_iadd _, codeAny_builtin F.entry_list_iadd ?_⟩))
  rw [Around.under_plainId F.plain_list_iadd _]
  refine wpAny_mono core (fun fin s' h => ?_) (fun e s' h => absurd h.1 (by simp))
  cases fin with
  | done f =>
    obtain ⟨e, h', tk, acc, c', e2, hk, hS', hi⟩ := h
    cases e
    subst e2
    show wpAny _ A (load s.heap.objs.size >>= _) _ _ _
    exact wpAny_bind (wpAny_load hS' (wpAny_pure (hQ h' tk acc hk hi)))
  | again c' =>
    refine ⟨h.1, codeAny_mono h.2 fun rr s2 hr' => ?_⟩
    obtain ⟨rfl, h', tk, acc, c2, rfl, hk, hS', hi⟩ := hr'
    show wpAny _ A (load s.heap.objs.size >>= _) _ _ _
    exact wpAny_bind (wpAny_load hS' (wpAny_pure (hQ h' tk acc hk hi)))
end
section
variable {X : Cx} {o : Expr} {p pos apos mpos : Pos} {td : TE}
open PySem.Calls PySem.W
theorem tuple_src {prog : Program} {w : World} {A : Around} {E : Value → Shared → Prop} {s : Shared} {T : String} {r d : Addr} {n : Nat} {P : Nat → Value → Prop} {OK : Heap → Prop} {Q : Value → Shared → Prop} (Ks : KdlSrc prog w T r d n P OK) (hh : A.handled = none) (ok : OK s.heap) (hn : n ≤ sizeLine)
    (hQ : ∀ (h' : Heap) (tk : Nat) (acc : Array Value), (∀ b o, s.heap.get? b = some o → h'.get? b = some o) → ItemsOf P acc n → Q (.ref h'.objs.size) { s with heap := h'.push { cls := .type "tuple", data := .seq acc }, toks := tk }) :
    wpAny (model prog w) A (call (.type "tuple") [.ref r]) Q E s := by
  refine callType_codes (Q₁ := fun obj s₁ => s₁.TypeIs obj "tuple" ∧ Q obj s₁) F.called_tuple (F.typeCall_tuple_1 _) F.entry_object_init (codeAny_of_tree ?_) fun obj s₁ h₁ => ⟨h₁.1, F.args_object_init_2 obj _, object_init_meets F.called_tuple.init.lookup F.called_tuple.made (by decide) prog w A.in1 _ s₁ ⟨h₁.1, rfl, h₁.2⟩⟩
  show wpAny _ A.in1.in1 (do checkBuiltinCall "tuple.__new__" ⟨[.type "tuple", .ref r], []⟩; again (.builtin "tuple.__new__" ⟨[.type "tuple", .ref r], []⟩)) _ _ s
  refine wpAny_bind (wpAny_of_eq (F.newCall_tuple_1 _) (wpAny_pure ⟨plainId_quiet F.plain_tuple_new _, codeAny_builtin F.entry_tuple_new ?_⟩))
  rw [Around.under_plainId F.plain_tuple_new _]
  have hsub := sub_tuple_self
  have hinit := init_tuple_lookup
  have hmh := madeHere_tuple
  have hTI : s.TypeIs (.ref r) T := Ks.type s ok
  have hh1 : A.in1.in1.handled = none := hh
  have hnt := Ks.notTuple
  have hnl := Ks.notList
  wp_walk using wpAny_typeOf hTI, collect_src (A := A.in1.in1) Ks hh1 ok hn
  intro h' tk acc hk hacc
  show wpAny _ _ (Builtin.Tuple.tupleExact acc.toList.toArray >>= fun v => ret v) _ _ _
  unfold Builtin.Tuple.tupleExact
  have e : acc.toList.toArray = acc := by simp
  rw [e]
  refine wpAny_bind (wpAny_newObj_type (wpAny_pure ?_) (by show acc.size ≤ sizeLine; rw [hacc.1]; exact hn))
  exact ⟨⟨_, Heap.get?_push_size _ rfl, rfl⟩, hQ h' tk acc hk hacc⟩
def tTupVals (td : TE) : TE := fun σ H Q => td σ H fun x H1 => ∃ a kvs, x = V.ref a ∧ H1 a = some (.dK kvs) ∧ ∀ q, H1 q = none → Q (.ref q) (upd H1 q (.tup (kvs.map (·.2))))
theorem pe_tupVals (hc : X.calm = true) (hg : Gl X "tuple") (hm : X.mg "tuple" = none) (hd : PE X o td) (hbase : attributeBase o "values" X.env (eval o X.env) = eval o X.env := by rfl) (hline : (apos.endLine == mpos.line) = true := by rfl)
    (na : starEach [Expr.Call (.Attribute o "values" apos) [] [] mpos] X.env = (false, eval (Expr.Call (.Attribute o "values" apos) [] [] mpos) X.env) :: starEach [] X.env := by rfl) :
    PE X (.Call (.Name "tuple" p) [.Call (.Attribute o "values" apos) [] [] mpos] [] pos) (tTupVals td) := by
  refine ⟨fun pins s σ H Q I h => ?_⟩
  refine Call_ (ld_blt I hg hm boot_tuple (PyProof.Rows.callWith_type1 (args_cons (wpAny_Call_method0_late hbase hline (thn (hd.run pins s σ H _ I h) fun v s1 ⟨x, H1, I1, r1, a, kvs, ex, ha, q⟩ => ?_)) na) na))
  subst ex
  obtain rfl : v = Value.ref a := r1
  obtain ⟨z, hsys, vs, rel, dof⟩ := dk_of I1.hok ha
  obtain ⟨ep, dat⟩ := dof.dictAt
  have dat' := dat
  obtain ⟨ob, es, ho, ex, hdat, hko, hpr, hnd⟩ := dat'
  refine ⟨"dict", "dict.values", F.plainAttrs_dict, F.slot_dict_values, F.type_dict_values, ⟨ob, ho, ex.1⟩, fun b e => (by cases e; exact ⟨ob, ho, ex.2.1⟩), Calls.callWith_builtin rfl (PySem.evalArgs_none (call_meetsIn F.slot_dict_values ⟨ob, ho, ex.1⟩ F.entry_dict_values (F.args_dict_values_1 _) (meets_dict_values (mixKind X.prog X.w) a hsys) ⟨⟨vs, dof⟩, args_nil ?_⟩))⟩
  have k1 : ∀ b u, s1.heap.get? b = some u → (s1.heap.push { cls := .type "dict_values", data := .fields #[.ref a] }).get? b = some u := fun b u e => Heap.get?_push_of_some _ e
  have dat1 : (s1.heap.push { cls := .type "dict_values", data := .fields #[.ref a] }).DictAt (mixKind X.prog X.w) a vs ep := dat.keep k1
  have hl : kvs.length = vs.length := Paired.length rel
  refine tuple_src (kdl_values (knd := mixKind X.prog X.w) (r := s1.heap.objs.size) (d := a) (kvs := vs) (ep := ep)) (I1.ok.hd hc) ⟨⟨_, Heap.get?_push_size _ rfl, rfl, rfl⟩, dat1⟩ (by rw [← hl]; exact z) fun h' tk acc hkeep hacc => ?_
  have I2 : Inv X pins σ H1 { s1 with heap := h', toks := tk } := I1.kept fun b u e => hkeep b u (k1 b u e)
  refine ⟨.ref h'.objs.size, upd H1 h'.objs.size (.tup (kvs.map (·.2))), I2.laid (t' := tk) (fun c u e => Heap.get?_push_of_some _ e) (Nat.le_refl _) (show ObjOk X.prog X.w _ _ _ (.tup (kvs.map (·.2))) from ⟨by rw [List.length_map]; exact z, acc.toList, ?_, ?_⟩), rfl, q _ (I2.hok.fresh (Nat.le_refl _))⟩
  · have el : acc.toList.length = acc.size := by simp
    refine vals_of_at (by rw [List.length_map, el, hacc.1, hl]) fun j x w h1 h2 => ?_
    obtain ⟨k, hky⟩ := hacc.2 j w (by rw [← Array.getElem?_toList]; exact h2)
    obtain ⟨y, e1, e2⟩ := KV.at' rel hky
    rw [List.getElem?_map, e1] at h1
    cases h1
    exact e2
  · rw [Array.toArray_toList]; exact IsTup.new _ _
end
namespace Sy
open PySem PySem.Spec PyProof.Rows L2
section
variable {K : PySem.W.Frag} {L : LL} {O : OO} {k : As → OO → Prop} {te : TE}
/-- tuple(d.values()) -/
theorem Go.tvals (h : Go L O te fun D O1 => ∃ kvs, ReadK D O1 kvs ∧ k (Sy.tup K (kvs.map (·.2))) O1) : Go L O (tTupVals te) k := fun E G0 H0 σ G H Q f s z =>
  h _ _ _ _ _ _ _ f s fun A O1 G1 H1 x hx f1 s1 a => by
    obtain ⟨kvs, hr, q⟩ := hx
    obtain ⟨d, vs, rfl, h1, h2⟩ := hr _ _ _ _ _ _ f1 a
    refine ⟨d, vs, rfl, h1, fun p np => ?_⟩
    have ex := Ext.new (o := .tup (vs.map (·.2))) f1.gh np
    exact z _ _ _ _ _ q (f1.ext ex) (s1.trans ex.g) ⟨p, _, rfl, .inl (.inl upd_same), (AllK.vals h2).m ex.g⟩
theorem AllK.keysA {G : Hp} : ∀ {l : List (Key × As)} {vs : List (Key × V)}, AllK G l vs → All2 G (l.map fun kv => cst (kV kv.1)) (vs.map fun kv => kV kv.1)
  | _, _, .nil => .nil
  | _, _, .cons _ t => .cons rfl (AllK.keysA t)
/-- list(d) -/
theorem v_listD {A : As} {kvs : List (Key × As)} (hr : ReadK A O kvs) (q : k (Sy.lst K (kvs.map fun kv => cst (kV kv.1))) O) : Vn O rListD [A] k := fun E G0 H0 G H Q vs f a zz => by
  cases a with
  | cons a r =>
    cases r
    obtain ⟨d, ws, rfl, h1, h2⟩ := hr _ _ _ _ _ _ f a
    refine ⟨d, ws, rfl, h1, fun p np => ?_⟩
    have ex := Ext.new (o := .lst (ws.map fun kv => kV kv.1)) f.gh np
    exact zz _ _ _ _ _ q (f.ext ex) ex.g ⟨p, _, rfl, upd_same, (AllK.keysA h2).m ex.g⟩
/-- dict(d), never changed -/
theorem v_dictF {A : As} {kvs : List (Key × As)} (hr : ReadK A O kvs) (q : k (dct kvs) O) : Vn O rDictK [A] k := fun E G0 H0 G H Q vs f a zz => by
  cases a with
  | cons a r =>
    cases r
    obtain ⟨d, ws, rfl, h1, h2⟩ := hr _ _ _ _ _ _ f a
    refine ⟨d, ws, rfl, h1, fun p np => ?_⟩
    have ex := Ext.new (o := .dK ws) f.gh np
    exact zz _ _ _ _ _ q (f.ext ex) ex.g ⟨p, _, rfl, upd_same, h2.m ex.g⟩
/-- d == e -/
inductive AKq (K : PySem.W.Frag) (kb : List (Key × As)) : List (Key × As) → Bool → Prop
  | nil : AKq K kb [] true
  | hit {k : Key} {A B : As} {d e : PyData} {r : List (Key × As)} {b : Bool} : getA kb k = some B → IsD K A d → IsD K B e → SeqAt.shaped d = true → SeqAt.shaped e = true → AKq K kb r b → AKq K kb ((k, A) :: r) (PyData.eqv d e && b)
  | miss {k : Key} {A : As} {r : List (Key × As)} : getA kb k = none → AKq K kb ((k, A) :: r) false
theorem AKq.kq {kb : List (Key × As)} {vb : List (Key × V)} {G H : Hp} (s : Same G H) (b : AllK G kb vb) : ∀ {ka : List (Key × As)} {va : List (Key × V)} {r : Bool}, AKq K kb ka r → AllK G ka va → KqR K H vb va r := by
  intro ka
  induction ka with
  | nil =>
    intro va r h a
    cases h
    cases a
    exact .nil
  | cons p ka ih =>
    intro va r h a
    obtain ⟨ky, A⟩ := p
    cases a with
    | @cons _ _ v _ vs a1 a2 =>
      cases h with
      | @hit _ _ B d e _ b' h1 h2 h3 h4 h5 h6 =>
        obtain ⟨u, e1, e2⟩ := (b.val ky).1 B h1
        exact .hit e1 (Dp.mono s d v (h2 _ _ a1)) (Dp.mono s e u (h3 _ _ e2)) h4 h5 (ih h6 a2)
      | miss h1 =>
        rcases b.get ky with ⟨B, v', e1, _, _⟩ | ⟨_, e2⟩
        · rw [h1] at e1; cases e1
        · exact .miss e2
theorem v_eqK {ka kb : List (Key × As)} {r : Bool} (h : AKq K kb ka r) (q : k (bo (ka.length == kb.length && r)) O) : V2 O (rEqK K) (dct ka) (dct kb) k := fun E G0 H0 G H Q x y f a b zz => by
  obtain ⟨p, vs, rfl, h1, h2⟩ := a
  obtain ⟨p', ws, rfl, h3, h4⟩ := b
  refine ⟨p, p', vs, ws, r, rfl, rfl, f.gh _ _ h1, f.gh _ _ h3, h.kq f.gh h4 h2, ?_⟩
  rw [h2.len, h4.len]
  exact zz _ _ _ _ _ q f (Same.refl _) rfl
end
end Sy

/-! ### base classes in except clauses; isinstance of what is caught; making that may raise -/
namespace ExS
open PySem PySem.Spec PyProof.Rows L2 PySem.W
/-- a class of errors that is named in an except clause alone -/
structure ExcB (K : Frag) (mg : Str → Option Value) (nm : Str) (C : Addr) : Prop where
  g : mg nm = some (.ref C)
  exC : subIn K (.ref C) (.type "BaseException") = some true
  cls : isClsIn K C = true
  ty : typeIn K (.ref C) = some (.type "type")
theorem ExcB.exm {K : Frag} {mg : Str → Option Value} {nm : Str} {C : Addr} (T : ExcB K mg nm C) {D : Value} {b : Bool} (h : subIn K D (.ref C) = some b) : exmOne K D (.ref C) = some b := exm_pair T.exC T.cls T.ty h
/-- isinstance of an instance of an own class against an own class -/
theorem kit_cls {K : Frag} {D C : Addr} {b : Bool} (h2 : isClsIn K C = true) (h3 : typeIn K (.ref C) = some (.type "type")) (ne : (Value.ref D == .ref C) = false) (h : subIn K (.ref D) (.ref C) = some b) : kitOne K (.ref D) (.ref C) = some b := by
  have h1 : (clsIn K C).isSome = true := h2
  unfold kitOne kitCls
  rw [ne, if_neg Bool.false_ne_true]
  show (if ((clsIn K C).isSome && typeIn K (.ref C) == some (.type "type")) = true then subIn K (.ref D) (.ref C) else none) = some b
  rw [if_pos (by rw [h1, h3]; rfl)]
  exact h
theorem kit_self {K : Frag} {C : Addr} : kitOne K (.ref C) (.ref C) = some true := by
  unfold kitOne
  rw [if_pos (by simp)]
def rIsX (K : Frag) (a : Addr) (cls : Value) (d : Option Addr) : List V → Hp → VK → Prop := fun xs H Q => ∃ (D C dd : Addr) (fs : List (Str × V)) (b : Bool), xs = [.ref a, .ref C] ∧ cls = .ref D ∧ L2.ExcC K D ∧ kitOne K (.ref D) (.ref C) = some b ∧ d = some dd ∧ H dd = some (.xd fs) ∧ Q (.bl b) H
theorem kIsX {X : Cx} {K : Frag} {a : Addr} {oe : Obj} {cls : Value} {d : Option Addr} {pn : List (Addr × Obj)} (hK : X.K = K) (hz : Zc cls d oe) (hf : ∃ vs, oe.data = .fields vs) : CallR (X.suite a ((a, oe) :: pn)) (.builtin "isinstance") (rIsX K a cls d) := by
  subst hK
  intro pins s σ H xs us Q I r h
  obtain ⟨D, C, dd, fs, b, rfl, rfl, X1, e, rfl, ea, q⟩ := h
  cases r with
  | cons rx rr =>
    cases rr with
    | cons rt rr =>
      cases rr
      cases rx
      cases rt
      obtain ⟨hget, _⟩ := I.pin (a, oe) (List.mem_append.mpr (.inl List.mem_cons_self))
      obtain ⟨vs, hv⟩ := hf
      have hx : ObjOk X.prog X.w H s.heap dd (.xd fs) := I.hok dd _ ea
      obtain ⟨mA, hns, hr⟩ := hx
      obtain ⟨od, ho, hl⟩ := lookIn_ns hns
      have J : PySem.W.InstAt s.heap a oe D (some od) := ⟨hget, hz.1, by unfold PySem.W.notCls; rw [hv] <;> rfl, by rw [hz.2]; exact ho⟩
      have hcl : (clsIn X.K D).isSome = true := by
        obtain ⟨cd, hc, _⟩ := any_some X1.hd
        rw [hc]
        rfl
      exact PySem.W.kia_one (PySem.W.kitx_exc hcl X1.hg X1.hk X1.hs X1.ha X1.hn X1.ht X1.hm) I.kIn J e (fun z => nomatch z) fun tk => ⟨.bl b, H, I.kept (t' := tk) fun _ _ z => z, rfl, q⟩
end ExS
namespace Sy
open PySem PySem.Spec PyProof.Rows L2
section
variable {K : PySem.W.Frag} {L : LL} {O : OO} {k : As → OO → Prop} {x : XP} {E : XK} {t tk : TA}
theorem v_isX {a dx C D : Addr} {fs : List (Str × As)} {b : Bool} (X : L2.ExcC K D) (hb : PySem.W.kitOne K (.ref D) (.ref C) = some b) (q : k (bo b) O) : Vn O (ExS.rIsX K a (.ref D) (some dx)) [exA a dx fs, pt C] k := fun E G0 H0 G H Q vs f z zz => by
  cases z with
  | cons z1 z =>
    cases z with
    | cons z2 z =>
      cases z
      obtain ⟨rfl, ds, h2, h3⟩ := z1
      obtain rfl : _ = V.ref C := z2
      exact ⟨D, C, dx, ds, b, rfl, rfl, X, hb, rfl, f.gh _ _ h2, zz _ _ _ _ _ q f (Same.refl _) rfl⟩
/-- C(.., k = ..) by an __init__ that may raise, in a def that hands it on -/
theorem GoW.makeKX {C : Addr} {α : Type} {n m : Nat} {gV : List V → List V → List V} {pre : α → Prop} {as : α → List As} {fs : α → List (Str × As)} {ok : α → Prop} {rp : α → Value → List (Str × As) → OO → Prop} (gA : List As → List As → List As)
    (hg : ∀ (G : Hp) (p : V) (P : As) (l ms : List As) (vs zs : List V), P.p G p → All2 G l vs → All2 G ms zs → All2 G (P :: gA l ms) (gV (p :: vs) zs))
    (h : GoA L O t fun l O1 => GoA L O1 tk fun ms O2 => l.length = n ∧ ms.length = m ∧ ∃ a, gA l ms = as a ∧ pre a ∧ (∀ cls fs O', rp a cls fs O' → ∃ D, O' = [D] ∧ x cls fs L O2) ∧ (ok a → k (ins C (fs a)) O2)) : GoW (fun cls d _ H => E cls d H) x L O (tMakeK C n m (SpIX C pre as fs ok rp) gV E t tk) k := fun E' G0 H0 σ G H Q f s z ac =>
  h _ _ _ _ _ _ _ f s fun l O1 G1 H1 vs hk f1 s1 b => hk _ _ _ _ _ _ _ f1 (s.m s1) fun ms O2 G2 H2 zs hk f2 s2 c => by
    obtain ⟨l1, l2, a, ha, hp, hn, hk⟩ := hk
    refine ⟨by rw [b.len, l1], by rw [c.len, l2], fun y dx nx ndx ne => ?_⟩
    have f4 := made_fr (C := C) f2 nx ndx ne
    refine ⟨(y, a), G2, hp, ?_, f4.part oi1, fun A O' G' H' v q g c => ?_, fun cls fs O' G' H' dx ds q g e1 e2 => ?_⟩
    · have e := hg G2 (.ref y) (pt y) l ms vs zs rfl (b.m s2) c
      rw [ha] at e
      exact e
    · obtain ⟨ho, rfl, rfl⟩ := q
      exact ⟨c, made_end (f2.hn _ nx) (f4.frame g) (hk ho) fun A O G H v q f s => z A O G H v q f (((s1.trans s2).trans g.gg).trans s)⟩
    · obtain ⟨D, rfl, hx⟩ := hn _ _ _ q
      exact ac _ _ _ _ _ _ _ _ _ hx (FrLe.drop (x := D) O2 _ _ _ _ _ (f4.frame g)) ((s1.trans s2).trans g.gg) (s.m ((s1.trans s2).trans g.gg)) e1 e2
end
end Sy

/-! ### comprehensions whose elements draw: told by a relation -/
namespace Sy
open PySem PySem.Spec PyProof.Rows L2
inductive Rel2 {α β : Type} (P : α → β → Prop) : List α → List β → Prop
  | nil : Rel2 P [] []
  | cons {x : α} {y : β} {l : List α} {m : List β} : P x y → Rel2 P l m → Rel2 P (x :: l) (y :: m)
theorem Rel2.snoc {α β : Type} {P : α → β → Prop} {x : α} {y : β} (h : P x y) : ∀ {l : List α} {m : List β}, Rel2 P l m → Rel2 P (l ++ [x]) (m ++ [y])
  | _, _, .nil => .cons h .nil
  | _, _, .cons a t => .cons a (Rel2.snoc h t)
theorem Rel2.len {α β : Type} {P : α → β → Prop} : ∀ {l : List α} {m : List β}, Rel2 P l m → m.length = l.length
  | _, _, .nil => rfl
  | _, _, .cons _ t => congrArg (· + 1) (Rel2.len t)
theorem Rel2.right {α β : Type} {P : α → β → Prop} : ∀ {l : List α} {m : List β}, Rel2 P l m → ∀ y ∈ m, ∃ x ∈ l, P x y
  | _, _, .nil, y, h => by cases h
  | _, _, .cons (x := x) a t, y, h => by
    rcases List.mem_cons.mp h with rfl | h
    · exact ⟨x, List.mem_cons_self, a⟩
    · obtain ⟨z, h1, h2⟩ := Rel2.right t y h
      exact ⟨z, List.mem_cons_of_mem _ h1, h2⟩
theorem Rel2.map {α β γ : Type} {P : α → β → Prop} {f : α → γ} {g : β → γ} (e : ∀ x y, P x y → g y = f x) : ∀ {l : List α} {m : List β}, Rel2 P l m → m.map g = l.map f
  | _, _, .nil => rfl
  | _, _, .cons a t => by rw [List.map_cons, List.map_cons, e _ _ a, Rel2.map e t]
theorem hg3 {K : PySem.W.Frag} {a b c : Nat} (x : V) (σ : L2.St) (H : Hp) (Q : L2.St → Hp → Prop) : gTup K 3 (gCons (gName a) (gCons (gName b) (gCons (gName c) gNil))) x (wipe σ [a, b, c]) H (fun σ2 H2 => wipe σ2 [a, b, c] = wipe σ [a, b, c] → Q σ2 H2) →
    gTup K 3 (gCons (gName a) (gCons (gName b) (gCons (gName c) gNil))) x (wipe σ [a, b, c]) H (fun σ2 H2 => wipe σ2 [a, b, c] = wipe σ [a, b, c] ∧ Q σ2 H2) := fun q => by
  obtain ⟨p, xs, h1, h2, h3, v, r, h4, w, r', h5, u, r2, h6, h7, q⟩ := q
  have e : wipe ((((wipe σ [a, b, c]).set a (some v)).set b (some w)).set c (some u)) [a, b, c] = wipe σ [a, b, c] := by
    refine List.ext_getElem? fun i => ?_
    simp only [wipe, List.getElem?_set, List.length_set]
    by_cases ha : a = i <;> by_cases hb : b = i <;> by_cases hc : c = i <;> simp [ha, hb, hc]
  exact ⟨p, xs, h1, h2, h3, v, r, h4, w, r', h5, u, r2, h6, h7, e, q e⟩
section
variable {K : PySem.W.Frag} {L : LL} {O : OO} {k : As → OO → Prop}
theorem Go.lcW {α β : Type} {wi : TI} {g : TG} {te : TE} {vs : List Nat} (hg : HG g vs) (f : α → As) (B : β → As) (P : α → β → Prop) (c : Nat) (h : GoI L O wi fun xs O1 => ∃ (l : List α) (d : Addr) (n : Nat) (R : OO), O1 = (d, OC.dr n) :: R ∧ xs = l.map f ∧ l.length < 100000 ∧
      (∀ x ∈ l, ∀ m T, m ≤ n + c * l.length → GoG (wipeL L vs) (f x) g fun L2 => Go L2 ((d, .dr m) :: (R ++ T)) te fun B' O3 => ∃ y m', B' = B y ∧ P x y ∧ m' ≤ m + c ∧ O3 = (d, .dr m') :: (R ++ T)) ∧
      ∀ (ys : List β) (m : Nat), Rel2 P l ys → m ≤ n + c * l.length → k (Sy.lst K (ys.map B)) ((d, .dr m) :: R)) :
    Go L O (tLc wi g tYes te vs) k := Go.lc (K := K) hg fun E G0 H0 σ G H Q f s z => h _ _ _ _ _ _ _ f s fun xs O1 G1 H1 J e => z _ _ _ _ _ (by
    obtain ⟨l, d, n, R, rfl, rfl, hl, he, hq⟩ := e
    refine ⟨fun i acc O' => ∃ ys m, acc = ys.map B ∧ Rel2 P (l.take i) ys ∧ m ≤ n + c * i ∧ O' = (d, .dr m) :: R, ⟨[], n, rfl, .nil, by omega, rfl⟩, ?_, ?_⟩
    · rintro i A acc O' T hA ⟨ys, m, rfl, hw, hm, rfl⟩
      rw [List.getElem?_map] at hA
      cases hx : l[i]? with
      | none => rw [hx] at hA; cases hA
      | some x =>
        rw [hx] at hA
        obtain rfl := Option.some.inj hA
        have hi := (List.getElem?_eq_some_iff.mp hx).1
        have hyl := hw.len
        rw [List.length_take] at hyl
        refine (he x (List.mem_of_getElem? hx) m T (Nat.le_trans hm (Nat.add_le_add_left (Nat.mul_le_mul_left c (by omega)) n))).imp fun L2 h2 => GoT.yes ?_
        rw [if_pos rfl]
        refine h2.imp fun B' O3 q => ?_
        obtain ⟨y, m', rfl, hp, hm', rfl⟩ := q
        refine ⟨(d, .dr m') :: R, rfl, by rw [List.length_map]; omega, ys ++ [y], m', by rw [List.map_append]; rfl, ?_, by rw [Nat.mul_succ]; omega, rfl⟩
        rw [List.take_add_one, hx]
        exact hw.snoc hp
    · rintro acc O' ⟨ys, m, rfl, hw, hm, rfl⟩
      rw [List.length_map] at hw hm
      rw [List.take_length] at hw
      exact hq ys m hw hm)
/-- list(xs), that will be changed -/
theorem v_lstO {xs : List As} (q : ∀ D, k (pt D) (O ++ [(D, .ol xs)])) : Vn O (rLstQ K) [lst K xs] k := fun E G0 H0 G H Q vs f a zz => by
  cases a with
  | cons a r =>
    cases r
    obtain ⟨p, ws, rfl, h1, h2⟩ := a
    exact ⟨p, ws, rfl, .inl (SqL.of (f.gh _ _ h1)), fun D nD => zz _ _ _ _ _ (q D) (f.own (c := .ol xs) nD ⟨ws, upd_same, h2⟩) (Same.refl _) rfl⟩
end
end Sy

/-! ### the second draw source: {'mixed': int, 'great': a list of ints, 'turn': int} -/
namespace Sy
open PySem PySem.Spec PyProof.Rows L2
open SX (S S_len S_cat S_inj)
def gMixed : List Nat := [109, 105, 120, 101, 100]
def gGreat : List Nat := [103, 114, 101, 97, 116]
def gTurn : List Nat := [116, 117, 114, 110]
def dgK (m t : Int) (g : Addr) : List (Key × As) := [(.inr (S [109, 105, 120, 101, 100]), it m), (.inr (S [103, 114, 101, 97, 116]), pt g), (.inr (S [116, 117, 114, 110]), it t)]
section
variable {L : LL} {O : OO}
theorem Fr.re {E : List Addr} {G0 H0 G H : Hp} {O O' : OO} (f : Fr E G0 H0 O G H) (e : O'.map (·.1) = O.map (·.1)) (h : ∀ x ∈ O', ((∃ y ∈ O, y.1 = x.1 ∧ (y.2.par = true → x.2.par = true)) ∧ OcOk G H x.1 x.2)) : Fr E G0 H0 O' G H :=
  ⟨f.gg, f.gh, f.hh, f.hn, f.fr, fun x hx => by
    obtain ⟨⟨y, hy, e1, e2⟩, ok⟩ := h x hx
    obtain ⟨h1, h2, _⟩ := f.ow y hy
    rw [e1] at h1 h2
    exact ⟨h1, h2.imp (fun z => ⟨e2 z.1, z.2⟩) id, ok⟩, by rw [e]; exact f.nd⟩
theorem GoS.unpk {t : TS} {k : Es} {D g : Addr} {n : Nat} {R : OO} (h : ∀ (m u : Int) (gs : List Int), 0 ≤ u → u ≤ n → 0 ≤ m → m < 2305843009213693951 → gs.length ≤ 63 → GoS L ((D, .od true (dgK m u g)) :: (g, .op (gs.map it)) :: R) t k) : GoS L ((D, .dg g n) :: (g, .dl) :: R) t k := fun E G0 H0 σ G H De f s e => by
  obtain ⟨m, u, ⟨⟨a1, a2⟩, a3, a4⟩, hD⟩ := (f.ow (D, .dg g n) (by simp)).2.2
  obtain ⟨gs, hl, hg⟩ := (f.ow (g, .dl) (by simp)).2.2
  refine h m u gs a1 a2 a3 a4 hl _ _ _ _ _ _ _ (f.re rfl fun x hx => ?_) s e
  rcases List.mem_cons.mp hx with rfl | hx
  · exact ⟨⟨(D, .dg g n), List.mem_cons_self, rfl, fun _ => rfl⟩, _, hD, .cons rfl (.cons rfl (.cons rfl .nil))⟩
  rcases List.mem_cons.mp hx with rfl | hx
  · exact ⟨⟨(g, .dl), List.mem_cons_of_mem _ List.mem_cons_self, rfl, fun _ => rfl⟩, _, hg, All2.map.mpr rfl⟩
  · have hx' := List.mem_cons_of_mem (D, OC.dg g n) (List.mem_cons_of_mem (g, OC.dl) hx)
    exact ⟨⟨x, hx', rfl, id⟩, (f.ow x hx').2.2⟩
theorem FrLe.pk {D g : Addr} {n : Nat} {R : OO} {p : Bool} {m u : Int} {gs : List Int} {c : OC} (hc : c = .op (gs.map it) ∨ c = .ol (gs.map it)) (a1 : 0 ≤ u) (a2 : u ≤ n) (a3 : 0 ≤ m) (a4 : m < 2305843009213693951) (hl : gs.length ≤ 63) : FrLe ((D, .od p (dgK m u g)) :: (g, c) :: R) ((D, .dg g n) :: (g, .dl) :: R) := fun E G0 H0 G H f => by
  obtain ⟨vs, hD, hk⟩ := (f.ow (D, .od p (dgK m u g)) (by simp)).2.2
  have hg : ∃ vs, H g = some (.lst vs) ∧ All2 G (gs.map it) vs := by
    have := (f.ow (g, c) (by simp)).2.2
    rcases hc with rfl | rfl <;> exact this
  obtain ⟨ws, h1, h2⟩ := hg
  obtain rfl := All2.map.mp h2
  refine f.re rfl fun x hx => ?_
  rcases List.mem_cons.mp hx with rfl | hx
  · refine ⟨⟨(D, .od p (dgK m u g)), List.mem_cons_self, rfl, fun _ => rfl⟩, m, u, ⟨⟨a1, a2⟩, a3, a4⟩, ?_⟩
    cases hk with
    | cons z1 hk => cases hk with
      | cons z2 hk => cases hk with
        | cons z3 hk =>
          cases hk
          cases z1
          cases z2
          cases z3
          exact hD
  rcases List.mem_cons.mp hx with rfl | hx
  · exact ⟨⟨(g, c), List.mem_cons_of_mem _ List.mem_cons_self, rfl, fun _ => rfl⟩, gs, hl, h1⟩
  · have hx' := List.mem_cons_of_mem (D, OC.od p (dgK m u g)) (List.mem_cons_of_mem (g, c) hx)
    exact ⟨⟨x, hx', rfl, id⟩, (f.ow x hx').2.2⟩
end
section
variable {K : PySem.W.Frag} {L : LL} {O : OO} {k : As → OO → Prop}
/-! lists of the caller -/
theorem v_neP {pre post : OO} {D : Addr} {xs : List As} (q : k (bo (!xs.isEmpty)) (pre ++ (D, .op xs) :: post)) : V2 (pre ++ (D, .op xs) :: post) (rNeE K) (pt D) (lst K []) k := fun E G0 H0 G H Q x y f a b zz => by
  obtain rfl : x = .ref D := a
  obtain ⟨p, vs, rfl, h1, h2⟩ := b
  cases h2
  obtain ⟨us, u1, u2⟩ := own_at f
  refine ⟨D, p, us, [], rfl, rfl, SqL.of u1, SqL.of (f.gh _ _ h1), .inr rfl, ?_⟩
  have e : (us.isEmpty && ([] : List V).isEmpty) = xs.isEmpty := by cases u2 <;> rfl
  rw [e]
  exact zz _ _ _ _ _ q f (Same.refl _) rfl
theorem v_lenP {pre post : OO} {D : Addr} {xs : List As} (q : k (it (xs.length : Int)) (pre ++ (D, .op xs) :: post)) : Vn (pre ++ (D, .op xs) :: post) (rLenQ K) [pt D] k := fun E G0 H0 G H Q vs f a zz => by
  cases a with
  | cons a r =>
    cases r
    obtain rfl : _ = V.ref D := a
    obtain ⟨us, u1, u2⟩ := own_at f
    exact ⟨D, us, rfl, .inl (SqL.of u1), by rw [u2.len]; exact zz _ _ _ _ _ q f (Same.refl _) rfl⟩
theorem v_ixP {pre post : OO} {D : Addr} {xs : List As} {i : Int} {A : As} (h : atI xs i = some A) (q : k A (pre ++ (D, .op xs) :: post)) : V2 (pre ++ (D, .op xs) :: post) (rIxL K) (pt D) (it i) k := fun E G0 H0 G H Q x y f a b zz => by
  obtain rfl : x = .ref D := a
  obtain ⟨us, u1, u2⟩ := own_at f
  obtain ⟨v, e, av⟩ := at2 u2 h
  exact ⟨D, us, i, v, rfl, b, SqL.of u1, e, zz _ _ _ _ _ q f (Same.refl _) av⟩
theorem GoGh.subP {to ti : TE} {A : As} {k : LL → OO → Prop} (h : Go L O to fun B O1 => Go L O1 ti fun C O2 => ∃ (D : Addr) (xs : List As) (pre post : OO) (n : Nat), B = pt D ∧ C = it (n : Int) ∧ O2 = pre ++ (D, .op xs) :: post ∧ n < xs.length ∧ k L (pre ++ (D, .op (xs.set n A)) :: post)) : GoGh L O A (gSub to ti rSetL) k := fun E G0 H0 σ G H Q x f s a z =>
  h _ _ _ _ _ _ _ f s fun B O1 G1 H1 v q f1 s1 b => q _ _ _ _ _ _ _ f1 (s.m s1) fun C O2 G2 H2 w q2 f2 s2 c => by
    obtain ⟨D, xs, pre, post, n, rfl, rfl, rfl, hn, hk⟩ := q2
    obtain ⟨us, u1, u2⟩ := own_at f2
    have hl := u2.len
    exact ⟨D, us, (n : Int), n, b, c, u1, ixn (by omega), z _ _ _ _ _ hk (Fr.change f2 (fun z => z) ⟨us.set n x, upd_same, u2.setAt (A.m (s1.trans s2) a) n⟩) (s1.trans s2) (s.m (s1.trans s2))⟩
/-! draws -/
abbrev dgO (D g : Addr) (n : Nat) : OO := [(D, .dg g n), (g, .dl)]
theorem dg2 {D g : Addr} {n : Nat} : ∀ x ∈ dgO D g n, x.2.par = true := fun x hx => by
  rcases List.mem_cons.mp hx with rfl | hx
  · rfl
  · rw [List.mem_singleton.mp hx]; rfl
/-- the promise of _law_next -/
abbrev SpNext : Sp := SpG (fun a : Addr × Addr × Nat × Int => 0 < a.2.2.2 ∧ a.2.2.2 < 1000000000 ∧ a.2.2.1 ≤ 100000000) (fun a => [pt a.1, it a.2.2.2]) (fun a => dgO a.1 a.2.1 a.2.2.1) (fun a A O' => ∃ i : Int, 0 ≤ i ∧ i < a.2.2.2 ∧ A = it i ∧ O' = dgO a.1 a.2.1 (a.2.2.1 + 1))
theorem Go.next {X : XK} {t : TA} (h : GoA L O t fun l O1 => ∃ D g n m R, l = [pt D, it m] ∧ O1 = dgO D g n ++ R ∧ (0 < m ∧ m < 1000000000 ∧ n ≤ 100000000) ∧ ∀ i : Int, 0 ≤ i → i < m → k (it i) (dgO D g (n + 1) ++ R)) : Go L O (tCall SpNext [] X t) k := Go.call (fun a => dg2) fun E G0 H0 σ G H Q f s z => h _ _ _ _ _ _ _ f s fun l O' G' H' vs q => z _ _ _ _ _ (by
  obtain ⟨D, g, n, m, R, rfl, rfl, h1, h2⟩ := q
  refine ⟨(D, g, n, m), R, rfl, rfl, h1, ?_⟩
  rintro A O2 ⟨i, i0, i1, rfl, rfl⟩
  exact h2 i i0 i1)
/-- .. of _law_pick -/
abbrev SpPickG (K : PySem.W.Frag) : Sp := SpG (fun a : Addr × Addr × Nat × List As => 0 < a.2.2.2.length ∧ a.2.2.2.length ≤ 1000 ∧ a.2.2.1 ≤ 100000000) (fun a => [pt a.1, Sy.lst K a.2.2.2]) (fun a => dgO a.1 a.2.1 a.2.2.1) (fun a A O' => A ∈ a.2.2.2 ∧ O' = dgO a.1 a.2.1 (a.2.2.1 + 1))
theorem Go.pickG {X : XK} {t : TA} (h : GoA L O t fun l O1 => ∃ D g n xs R, l = [pt D, Sy.lst K xs] ∧ O1 = dgO D g n ++ R ∧ (0 < xs.length ∧ xs.length ≤ 1000 ∧ n ≤ 100000000) ∧ Keep (∀ A : As, A ∈ xs → k A (dgO D g (n + 1) ++ R))) : Go L O (tCall (SpPickG K) [] X t) k := Go.call (fun a => dg2) fun E G0 H0 σ G H Q f s z => h _ _ _ _ _ _ _ f s fun l O' G' H' vs q => z _ _ _ _ _ (by
  obtain ⟨D, g, n, xs, R, rfl, rfl, h1, h2⟩ := q
  refine ⟨(D, g, n, xs), R, rfl, rfl, h1, ?_⟩
  rintro A O2 ⟨hA, rfl⟩
  exact h2.out A hA)
/-- a comprehension whose list is owned -/
theorem Go.lcOwn {wi : TI} {g : TG} {tt : TT} {te : TE} {vs : List Nat} (hg : HG g vs)
    (h : GoI L O wi fun xs O1 => ∃ J : Nat → List As → OO → Prop, J 0 [] O1 ∧
      (∀ i A acc O' T, xs[i]? = some A → J i acc O' → GoG (wipeL L vs) A g fun L2 => GoT L2 (O' ++ T) tt fun b O2 => if b = true then Go L2 O2 te fun B O3 => ∃ O4, O3 = O4 ++ T ∧ acc.length < 100000 ∧ J (i + 1) (acc ++ [B]) O4 else ∃ O4, O2 = O4 ++ T ∧ J (i + 1) acc O4) ∧
      ∀ acc O', J xs.length acc O' → ∀ D, k (pt D) (O' ++ [(D, .ol acc)])) : Go L O (tLc wi g tt te vs) k := fun E G0 H0 σ G H Q f s z =>
  h _ _ _ _ _ _ _ f s fun xs O1 G1 H1 It q f1 s1 ok D nD => by
    obtain ⟨J, j0, js, jd⟩ := q
    obtain ⟨Gp, Y, w, gp, yy⟩ := ok
    have fo : Fr E G0 H0 (O1 ++ [(D, .ol [])]) G1 (upd H1 D (.lst [])) := f1.own nD ⟨[], upd_same, .nil⟩
    refine lc_it w (fun i H' => ∃ acc O' G', J i acc O' ∧ Fr E G0 H0 (O' ++ [(D, .ol acc)]) G' H' ∧ Same G1 G') ⟨[], O1, G1, j0, fo, Same.refl _⟩ (fun i H' _ ⟨acc, O', G', _, f', s'⟩ => gp _ (s'.trans f'.gh)) (fun i x H' H'' hi ⟨acc, O', G', j', f', s'⟩ y => ?_) (fun H' ⟨acc, O', G', j', f', s'⟩ => z _ _ _ _ _ (jd _ _ j' D) f' (s1.trans s') rfl)
    obtain ⟨A, G2, hA, ex, a⟩ := yy i H' x H'' hi y G' s' f'.gh
    have f2 := f'.ext ex
    refine hg _ _ _ _ (js i A acc O' [(D, .ol acc)] hA j' _ _ _ _ _ f2.gh ((s.m (s1.trans (s'.trans ex.g))).wipe vs) a fun L2 σ2 q2 s2 hw => ?_)
    refine q2 _ _ _ _ _ _ _ f2 s2 fun b O3 G3 H3 hb f3 s3 => ?_
    cases b with
    | true =>
      rw [if_pos rfl] at hb
      refine ifT rfl (hb _ _ _ _ _ _ _ f3 (s2.m s3) fun B O4 G4 H4 v q4 f4 s4 bb => ?_)
      obtain ⟨O5, rfl, hl, j5⟩ := q4
      obtain ⟨w1, w2, us, hu, au⟩ := f4.ow (D, .ol acc) (by simp)
      exact ⟨us, hu, by rw [au.len]; exact szlt (by omega), acc ++ [B], O5, G4, j5, Fr.change (post := []) f4 (fun z => z) ⟨us ++ [v], upd_same, au.snoc bb⟩, ((s'.trans ex.g).trans s3).trans s4⟩
    | false =>
      rw [if_neg Bool.false_ne_true] at hb
      obtain ⟨O5, rfl, j5⟩ := hb
      exact ifF rfl ⟨acc, O5, G3, j5, f3, (s'.trans ex.g).trans s3⟩
end
end Sy

/-! more rules: raising with less owned, max, tuple[::-1], text.replace in a def with parameters -/
section
open L2
variable {X : Cx} {o e : Expr} {to te : TE} {pos : Pos}
theorem PSsT_nox {st : List Stmt} {t : TS} (h : PSsT X.nox st t) : PSsT X st t := fun pins s σ H D h0 I hw =>
  wpAny_mono (h pins s σ H D h0 (I.wish _) hw) (fun _ _ q => q.unwish) fun _ _ z => False.elim z
theorem pst_set {i : Nat} {x : Str} {pos' : Pos} (hN : X.N.Nodup) (hi : X.N[i]? = some x) (hx : Loc X.env.scope x) (he : PET X e te) (hs : swapsWith e (some (.Name x pos')) pos.line X.env = pure false := by rfl) (hf : X.fn x = true ∨ X.env.scope.names.lookup x = some .local := by first | exact .inl rfl | exact .inr rfl | assumption) :
    PST X (.Assign [.Name x pos'] e pos) (tAsg te (gName i)) := by
  intro pins s σ H D h0 I h
  refine wpAny_Assign_Name (thn (he pins s σ H _ h0 I h) fun v s1 ⟨y, H1, I1, r1, q1⟩ => ?_) hs
  exact store_ok I1 hN hi hx r1 (fun s2 I2 => ⟨_, H1, I2, q1⟩) hf
theorem pet_m1 {id : String} {name : Str} {apos : Pos} {r : V → List V → Hp → VK → Prop} (slot : Slot "str" name id) (ty : typeOf (.builtin id) = pure (.type "method_descriptor")) (rule : MtR X id r) (ho : PET X o to) (he : PE X e te)
    (hs : starEach [e] X.env = [(false, eval e X.env)] := by rfl) (hbase : attributeBase o name X.env (eval o X.env) = eval o X.env := by rfl) (hline : (apos.endLine == pos.line) = true := by rfl) :
    PET X (.Call (.Attribute o name apos) [e] [] pos) (tM1 r to te) := by
  intro pins s σ H Q h0 I h
  refine PySem.Call_method1 hbase hs hline (thn (ho pins s σ H _ h0 I h) fun v s1 ⟨x, H1, I1, r1, q1⟩ => ?_)
  obtain ⟨⟨a, rfl⟩, q1⟩ := q1
  obtain ⟨t, rfl⟩ := _root_.id r1
  refine ⟨"str", _, F.plainAttrs_str, slot, ty, typeIs_str _ _ _, (fun _ e => nomatch e), Calls.callWith_builtin rfl (Calls.evalArgs_plain (Calls.spliced_cons ?_))⟩
  exact thn (he.run pins s1 σ H1 _ I1 q1) fun u s2 ⟨y, H2, I2, r2, q2⟩ => Calls.spliced_nil (rule pins s2 σ H2 _ [y] _ [u] Q I2 r1 (.cons r2 .nil) q2)
theorem pet_split {apos : Pos} (ho : PET X o to) (he : PE X e te) (hs : starEach [e] X.env = [(false, eval e X.env)] := by rfl) (hbase : attributeBase o "split" X.env (eval o X.env) = eval o X.env := by rfl) (hline : (apos.endLine == pos.line) = true := by rfl) :
    PET X (.Call (.Attribute o "split" apos) [e] [] pos) (tM1 (fun x xs H Q => ∃ a b, x = .str a ∧ xs = [.str b] ∧ (b.length == 0) = false ∧ a.length + 2 ≤ sizeLine ∧ rNewStrs (Txt.split a b) H Q) to te) :=
  pet_m1 F.slot_str_split F.type_str_split mt_split ho he hs hbase hline
end
section
variable {M : Model} {A : Around} {E : Value → Shared → Prop} {s₀ s : Shared} {m cm : Str → Option Value} {env : Env}
/-- the first parameter is stored: a token is out -/
theorem stLT {n : Str} {v : Value} {Q : Unit → Shared → Prop} (x : InCallC s₀ env.locals m env.cells cm s) (hk : env.scope.kind = .function) (hl : env.kindOf n = some .local)
    (h : ∀ s', InCallC s₀ env.locals (fun y => if y = n then some v else m y) env.cells cm s' → 1 ≤ s'.toks → Q () s') : wpAny M A (storeName env n v) Q E s := by
  refine wpAny_storeName_local hl x.toInCall.ns (fun h' hn' hs' => h _ ⟨⟨?_, hn', fun b o e => ?_, x.toInCall.fresh⟩, fun k c hc => ?_, x.apart, x.above⟩ (Nat.le_add_left 1 _)) (by rw [hk]; rfl)
  · obtain ⟨h₁, tk, rfl⟩ := x.toInCall.same
    exact ⟨h', _, rfl⟩
  · exact hs'.extBut b o (Nat.ne_of_lt (Nat.lt_of_lt_of_le (Heap.lt_size e) x.toInCall.fresh)) (x.toInCall.keep b o e)
  · exact (x.cell k c hc).sameBut hs' (Nat.ne_of_gt (x.above k c (PySem.mem_of_lookup hc)))
theorem bindT {P : Program} {w : World} {n : Str} {v : Value} {r : List (Str × Value)} {Q : PUnit → Shared → Prop} (f : Str × Value → PUnit → Sem (ForInStep PUnit)) (hf : ∀ n v u, f (n, v) u = (do storeName env n v; pure (.yield ⟨⟩))) (hk : env.scope.kind = .function)
    (x : InCallC s₀ env.locals m env.cells cm s) (hl : env.kindOf n = some .local) (hr : ∀ x ∈ r, env.kindOf x.1 = some .local ∨ (env.kindOf x.1 = some .cell ∧ (env.cells.lookup x.1).isSome = true))
    (h : ∀ s', InCallC s₀ env.locals (bindL env.kindOf ((n, v) :: r) m) env.cells (bindC env.kindOf ((n, v) :: r) cm) s' → 1 ≤ s'.toks → Q ⟨⟩ s') : wpAny (model P w) A (forIn ((n, v) :: r) ⟨⟩ f) Q E s := by
  rw [List.forIn_cons, hf]
  refine wpAny_bind (wpAny_bind (stLT x hk hl fun s' x' ht => wpAny_pure (wpAny_mono (PySem.wpAny_toks (E := E) (wpAny_bindParams f hf hk r _ _ s' (fun _ s'' => InCallC s₀ env.locals (bindL env.kindOf ((n, v) :: r) m) env.cells (bindC env.kindOf ((n, v) :: r) cm) s'') x' hr fun s'' x'' => ?_)) (fun _ s'' q => h s'' q.2 (Nat.le_trans ht q.1)) fun _ _ z => z.2)))
  unfold bindL bindC
  rw [if_pos hl, if_pos hl]
  exact x''
theorem newEnvT {P : Program} {w : World} {scope : Scope} {globals : Addr} {n : Str} {v : Value} {r : List (Str × Value)} {qual : Str} {func : Option Addr} {code : Value} {builtins : Addr} {Q : Env → Shared → Prop}
    (hk : scope.kind = .function) (hl : scope.names.lookup n = some .local)
    (hkind : ∀ x ∈ r, scope.names.lookup x.1 = some .local ∨ (scope.names.lookup x.1 = some .cell ∧ ((cellsFrom (s.heap.objs.size + 1) scope.names []).lookup x.1).isSome = true))
    (hQ : ∀ env, env = newEnv scope s.heap.objs.size globals (cellsFrom (s.heap.objs.size + 1) scope.names []) qual func code none builtins →
      ∀ s', InCallC s env.locals (bindL env.kindOf ((n, v) :: r) fun _ => none) env.cells (bindC env.kindOf ((n, v) :: r) fun _ => none) s' → 1 ≤ s'.toks → Q env s') :
    wpAny (model P w) A (newFunctionEnv scope globals [] ((n, v) :: r) qual func code none builtins) Q E s := by
  simp only [newFunctionEnv, Option.isSome_none, Bool.false_eq_true, if_false]
  refine wpAny_bind (wpAny_alloc ?_)
  refine wpAny_bind (wpAny_layCells _ (fun name kind cells => by cases hkc : kind == NameKind.cell <;> simp [hkc]) _ _ _ _ ?_)
  have ok := cellsFrom_ok scope.names (s.heap.push { cls := .type "frame", data := .dict #[] }) (s.heap.objs.size + 1) [] ⟨fun _ _ hm => (nomatch hm), List.Pairwise.nil⟩ (by rw [Heap.size_push]; exact Nat.le_refl _)
  rw [Heap.size_push] at ok
  rw [show ({ s with heap := s.heap.push { cls := .type "frame", data := .dict #[] } } : Shared).heap.objs.size = s.heap.objs.size + 1 from Heap.size_push ..]
  exact wpAny_bind (bindT (s₀ := s) (env := newEnv scope s.heap.objs.size globals (cellsFrom (s.heap.objs.size + 1) scope.names []) qual func code none builtins)
    _ (fun _ _ _ => rfl) hk
    ⟨⟨⟨_, _, rfl⟩, (Heap.Ns.new s.heap (.type "frame")).keeps (pushCells_keeps _ _), fun b o e => pushCells_keeps _ _ b o (Heap.get?_push_of_some _ e), Nat.le_refl _⟩,
      fun n c hc => (ok.empty n c (PySem.mem_of_lookup hc)).1, ok.apart, fun n c hm => (ok.empty n c hm).2⟩
    hl hkind fun s' x h1 => wpAny_pure (hQ _ rfl s' x h1))
end
/-- a def's body keeps its promise; a token is out when it begins (its first parameter is no cell) -/
theorem fn_ofT2 {CX : CXT} {P : Program} {w : World} {K : PySem.W.Frag} {mg : Str → Option Value} {base : Heap} {k : Nat} {f : Addr} {name qual : Str} {params : Arguments} {body : List Stmt} {scope : Scope} {dV kV doc pm cdv ct oc : Value} {an od : Option Addr}
    {osl : Array (Option Value)} {N ps : List Str} {p0 : Str} {sp : Sp} (lk : K.lookup f = some ⟨oc, od, .func (PySem.W.fnOf name qual params body scope dV kV doc pm an cdv ct), osl⟩) (hcd : PySem.W.codeIn K cdv qual = true) (S : FnScope N (p0 :: ps) scope)
    (h0 : scope.names.lookup p0 = some .local) (len : ∀ vs H Q E, sp vs H Q E → vs.length = (p0 :: ps).length)
    (hbody : ∀ (A : Around) (outer : List Env) (s : Shared) (H : Hp) (vs : List V) (Q : VK) (E : XK), Room k (A.deeper (envOfC qual scope s.heap.objs.size f cdv)) → sp vs H Q E →
      ∃ t, PSsT (cxOf CX P w K mg base N qual scope f cdv A outer s H E) body t ∧ t { nx := fun _ H' => Q .non H', rt := Q } (start N vs) H) :
    FnOk P w K mg base CX (k + 1) f (PySem.W.fnOf name qual params body scope dV kV doc pm an cdv ct) (p0 :: ps) sp := by
  refine ⟨len, fun A outer s H args us vs Q E hr e0 hb r hsp => ?_⟩
  have hl := len _ _ _ _ hsp
  have KX : K.In s.heap := e0.mod.kin.keeps fun b o e => (e0.bs b o e).1
  have lim : s.heap.NoLimit := e0.mod.nolimit.keeps fun b o e => (e0.bs b o e).1
  cases us with
  | nil => have := r.length; rw [hl] at this; cases this
  | cons u0 us =>
    have hkind : ∀ y ∈ ps.zip us, scope.names.lookup y.1 = some .local ∨ (scope.names.lookup y.1 = some .cell ∧ ((cellsFrom (s.heap.objs.size + 1) scope.names []).lookup y.1).isSome = true) := fun ⟨n, v⟩ hy => by
      rcases S.par n (List.mem_cons_of_mem _ (List.of_mem_zip hy).1) with q | q
      · exact .inl q
      · exact .inr ⟨q, PySem.W.cellsFrom_some _ _ _ (.inl q)⟩
    refine codeAny_call_function hr.depth (KX _ _ lk) rfl S.co S.gen rfl (PySem.W.codeRec_of KX hcd) (hb _ _ _ _ ?_)
    refine newEnvT S.kind h0 hkind fun env he s1 x h1 => ?_
    subst he
    refine ⟨lim.keeps x.toInCall.keep, codeAny_func ?_⟩
    obtain ⟨t, ht, hq⟩ := hbody A outer s H vs Q E (hr.deeper _) hsp
    have I : Inv (cxOf CX P w K mg base N qual scope f cdv A outer s H E) [] (start N vs) H s1 := inv_start S hr.hd e0 hl r x
    refine wpAny_mono (ht [] s1 (start N vs) H _ h1 I hq) (fun fl s' hs => ?_) fun e s' hs => hs
    have fin : ∀ {σ' : L2.St} {H' : Hp} {v : V} {u : Value}, Inv (cxOf CX P w K mg base N qual scope f cdv A outer s H E) [] σ' H' s' → RelV v u → Q v H' → CE outer P w H s Q u s' :=
      fun {σ' H' v u} J rv q => ⟨v, H', J.os, J.bare, J.base, J.hok, rv, q⟩
    cases fl with
    | ret u =>
      obtain ⟨v, σ', H', J, rv, q⟩ := hs
      exact fin J rv q
    | next =>
      obtain ⟨σ', H', J, q⟩ := hs
      exact fin (v := V.non) (u := Value.none) J rfl q
    | brk =>
      obtain ⟨_, _, _, q⟩ := hs
      exact False.elim q
    | cont =>
      obtain ⟨_, _, _, q⟩ := hs
      exact False.elim q
namespace Sy
open PySem PySem.Spec PyProof.Rows L2
open SX (S S_len S_cat S_inj)
section
variable {P : Program} {w : World} {K : PySem.W.Frag} {mg : Str → Option Value} {base : Heap}
/-- a def whose body wants a token: its parameters have given out one -/
theorem fn_syT {α : Type} {pre : α → Prop} {as : α → List As} {oin : α → OO} {post : α → As → OO → Prop} {x qual : Str} {st : Stmt} {f : Addr} {fd : FuncData} {N ps : List Str} {p0 : Str} {k : Nat} (F : Fun K x qual st f fd) (S : FnScope N (p0 :: ps) (defScope st)) (h0 : (defScope st).names.lookup p0 = some .local) (len : ∀ a, pre a → (as a).length = (p0 :: ps).length)
    (body : ∀ (a : α) (cdv : Value) (A : Around) (outer : List Env) (s : Shared) (H : Hp) (E : XK), Room k (A.deeper (envOfC qual (defScope st) s.heap.objs.size f cdv)) → pre a →
      ∃ t, PSsT (cxOf CX0 P w K mg base N qual (defScope st) f cdv A outer s H E).nox (defBody st) t ∧ GoS (startL N (as a)) (oin a) t (eR (post a))) :
    FnOk P w K mg base CX0 (k + 1) f fd (p0 :: ps) (SpG pre as oin post) := by
  obtain ⟨oc, od, kV, doc, pm, an, cdv, ct, osl, rfl, lk, hcd⟩ := F.ex
  refine fn_ofT2 lk hcd S h0 (fun vs H Q E h => ?_) (fun A outer s H vs Q E hr h => ?_)
  · obtain ⟨a, G, h1, h2, _⟩ := h
    rw [h2.len, len a h1]
  · obtain ⟨a, G, h1, h2, h3, h4⟩ := h
    obtain ⟨t, ht, hg⟩ := body a cdv A outer s H E hr h1
    refine ⟨t, PSsT_nox ht, hg _ _ _ _ _ _ _ h3 ?_ ⟨fun L O σ G' H' q f z s => h4 _ _ _ _ _ q f rfl, fun A O G' H' v q f z a => h4 _ _ _ _ _ q f a, fun _ _ _ _ _ q => q.elim, fun _ _ _ _ _ q => q.elim⟩⟩
    have e : L2.start N vs = vs.map some ++ List.replicate (N.length - (as a).length) none := by
      unfold L2.start
      rw [h2.len]
    rw [e]
    exact Slots.start _ h2
end
theorem All2.rev {G : Hp} : ∀ {l : List As} {vs : List V}, All2 G l vs → All2 G l.reverse vs.reverse
  | _, _, .nil => .nil
  | _, _, .cons a t => by rw [List.reverse_cons, List.reverse_cons]; exact (All2.rev t).snoc a
section
variable {K : PySem.W.Frag} {L : LL} {O : OO} {W : WX} {x : XP} {t : TS} {k : Es} {te : TE} {ka : As → OO → Prop}
theorem GoSW.leX (h : GoSW W (fun cls fs L O => ∃ O2, FrLe O O2 ∧ x cls fs L O2) L O t k) : GoSW W x L O t k := fun E G0 H0 σ G H D f s e c => h _ _ _ _ _ _ _ f s e fun cls fs L O σ G' H' dx vs q f' z s' => by
  obtain ⟨O2, le, q⟩ := q
  exact c _ _ _ _ _ _ _ _ _ q (le _ _ _ _ _ f') z s'
theorem GoSW.post (h : GoSW W x L O t { k with nx := fun L' O' => ∃ O2, FrLe O' O2 ∧ k.nx L' O2 }) : GoSW W x L O t k := fun E G0 H0 σ G H D f s e c => h _ _ _ _ _ _ _ f s ⟨fun L O σ G H q f z s => by
  obtain ⟨O2, le, q⟩ := q
  exact e.nx _ _ _ _ _ q (le _ _ _ _ _ f) z s, e.rt, e.bk, e.ct⟩ c
theorem GoSW.setD {k : Es} (i : Nat) (h : ∀ D, k.nx (setL L i (pt D)) (O ++ [(D, .od false [])])) : GoSW W x L O (tAsg tDNewK (gName i)) k := .up (GoS.setD i h)
/-- xs[::-1] of a tuple -/
theorem Go.rvT (h : Go L O te fun A O1 => ∃ xs, A = Sy.tup K xs ∧ ka (Sy.tup K xs.reverse) O1) : Go L O (RTp.tRv K te) ka := fun E G0 H0 σ G H Q f s z =>
  h _ _ _ _ _ _ _ f s fun A O1 G1 H1 x hx f1 s1 a => by
    obtain ⟨xs, rfl, q⟩ := hx
    obtain ⟨p, ws, rfl, h1, h2⟩ := a
    refine ⟨p, ws, rfl, SqT.mono f1.gh h1, fun D nD => ?_⟩
    have ex := Ext.new (o := .tup ws.reverse) f1.gh nD
    exact z _ _ _ _ _ q (f1.ext ex) (s1.trans ex.g) ⟨D, _, rfl, .inl (.inl upd_same), h2.rev.m ex.g⟩
/-- max of a list of numbers -/
theorem v_maxN {ns : List Int} (hn : ns ≠ []) (q : ∀ m, m ∈ ns → (∀ y ∈ ns, y ≤ m) → ka (it m) O) : Vn O (rMax K) [lst K (ns.map it)] ka := fun E G0 H0 G H Q vs f a zz => by
  cases a with
  | cons a r =>
    cases r
    obtain ⟨p, us, rfl, h1, h2⟩ := a
    refine ⟨p, ns, rfl, SqL.of (f.gh _ _ ?_), List.length_pos_iff.mpr hn, fun m h3 h4 => zz _ _ _ _ _ (q m h3 h4) f (Same.refl _) rfl⟩
    rw [show ns.map V.int = us from (All2.map (f := V.int).mp h2).symm]
    exact h1
/-- max(xs, default=d) -/
theorem Go.maxD {ta tk : TA} (h : GoA L O ta fun l O1 => ∃ ns, l = [Sy.lst K (ns.map Sy.it)] ∧ GoA L O1 tk fun l2 O2 => ∃ d, l2 = [Sy.it d] ∧ ∀ m, (ns = [] ∧ m = d ∨ m ∈ ns ∧ ∀ y ∈ ns, y ≤ m) → ka (Sy.it m) O2) : Go L O (tCKw (MD.rMd K) ta tk) ka := fun E G0 H0 σ G H Q f s z =>
  h _ _ _ _ _ _ _ f s fun l O1 G1 H1 vs hx f1 s1 a => by
    obtain ⟨ns, rfl, h2⟩ := hx
    refine h2 _ _ _ _ _ _ _ f1 (s.m s1) fun l2 O2 G2 H2 ws hy f2 s2 b => ?_
    obtain ⟨d, rfl, q⟩ := hy
    have a2 := All2.m s2 a
    cases a2 with
    | cons c r =>
      cases r
      cases b with
      | cons b r2 =>
        cases r2
        obtain ⟨p, us, e1, h1, h3⟩ := c
        have e2 := (show _ = V.int d from b)
        rw [e1, e2]
        refine ⟨p, ns, d, rfl, rfl, SqL.of (f2.gh _ _ ?_), fun m hm => z _ _ _ _ _ (q m hm) f2 (s1.trans s2) rfl⟩
        rw [show ns.map V.int = us from (All2.map (f := V.int).mp h3).symm]
        exact h1
/-- x.replace(c, "") -/
theorem replL_gone (c : Nat) : ∀ l : List Nat, PySem.StrLaws.replL [c] [] l = l.filter fun x => !decide (x = c)
  | [] => PySem.StrLaws.replL_nil
  | x :: r => by
    by_cases h : x = c
    · subst h
      rw [PySem.StrLaws.replL_hit (by simp) rfl, List.filter_cons_of_neg (by simp)]
      exact replL_gone x r
    · rw [PySem.StrLaws.replL_miss (by simp [h]), List.filter_cons_of_pos (by simp [h]), replL_gone c r]
theorem Go.replaceL {y z : Str} {to : TE} (hy : 1 ≤ y.length) (h : Go L O to fun A O1 => ∃ l, A = tx l ∧ l.length + (l.length + 1) * z.length ≤ 16777216 ∧ ka (tx (PySem.StrLaws.replL y.cps.toList z.cps.toList l)) O1) : Go L O (CwR.tReplC to y z) ka := fun E G0 H0 σ G H Q f s zz =>
  h _ _ _ _ _ _ _ f s fun A O1 G1 H1 x hx f1 s1 a => by
    obtain ⟨l, rfl, hl, q⟩ := hx
    obtain rfl := (show x = V.str (S l) from a)
    refine ⟨S l, rfl, by rw [S_len]; exact hl, zz _ _ _ _ _ q f1 s1 ?_⟩
    have e := PySem.StrLaws.replace_list (x := S l) (y := y) (z := z) hy
    show V.str _ = V.str (S _)
    have e2 : ∀ u : Str, u = S u.cps.toList := fun u => rfl
    rw [e2 (Txt.replace (S l) y z), e]
end
end Sy

/-! ### caught exceptions as values: what is caught stays known in the heap; several except clauses -/
namespace ExS
open PySem PySem.Spec PyProof.Rows L2 PySem.W
/-- the object at a is an exception of the class cls with the dict d -/
def ExcO (a : Addr) (cls : Value) (d : Option Addr) : HO := .ext fun h => ∃ (oe : Obj) (vs : Array Value), h.get? a = some oe ∧ Zc cls d oe ∧ oe.data = .fields vs
section
variable {X : Cx} {pins : List (Addr × Obj)} {σ : L2.St} {H : Hp} {s sI : Shared} {a : Addr} {oe : Obj} {vs : Array Value} {cls : Value} {d : Option Addr}
/-- the caught one is told to the heap -/
theorem inv_tell (hex : X.ex = []) (J0 : Inv X pins σ H sI) (fresh : sI.heap.get? a = none) (J : Inv X pins σ H s) (ha : s.heap.get? a = some oe) (hz : Zc cls d oe) (hd : oe.data = .fields vs) (na : H a = none) (nL : a ≠ X.env.locals) : Inv X pins σ (upd H a (ExcO a cls d)) s := by
  have ne : ∀ {b : Addr} {u : HO}, H b = some u → b ≠ a := fun e z => by rw [z, na] at e; cases e
  have keep : ∀ {b : Addr} {u : HO}, H b = some u → upd H a (ExcO a cls d) b = some u := fun e => by rw [upd_ne (ne e)]; exact e
  refine ⟨J.ok, J.os, J.bare, ⟨J.base.keep, J.base.slot, fun b o e n hb => ?_, J.base.there, fun b xs e => keep (J.base.tups b xs e), fun b o u e => keep (J.base.frzs b o u e), fun b ps e => ?_⟩, J.loc, J.cell, ?_, fun x c e => ?_, fun p hp => ?_, fun b u e => ?_, J.len⟩
  · have nb : b ≠ a := fun z => by
      obtain ⟨o', e'⟩ := J0.base.there b o e hb
      rw [z, fresh] at e'
      cases e'
    rw [upd_ne nb]
    exact J.base.free b o e n hb
  · obtain ⟨more, q⟩ := J.base.tbls b ps e
    exact ⟨more, keep q⟩
  · rw [upd_ne (Ne.symm nL)]
    exact J.free
  · have nc : c ≠ a := fun z => by
      obtain ⟨v, o, ho, hc⟩ := J.cell x c e
      rw [z, ha] at ho
      cases ho
      rw [hd] at hc
      cases hc
    rw [upd_ne nc]
    exact J.freeC x c e
  · obtain ⟨q1, q2, q3, q4, q5⟩ := J.pin p hp
    have np : p.1 ≠ a := fun z => by
      have e' := (J0.pin p hp).1
      rw [z, fresh] at e'
      cases e'
    exact ⟨q1, by rw [upd_ne np]; exact q2, q3, q4, q5⟩
  · by_cases hb : b = a
    · subst hb
      rw [upd_same] at e
      cases e
      exact ⟨⟨oe, vs, ha, hz, hd⟩, ⟨oe, ha⟩, fun h1 h2 ⟨o1, v1, e1, e2, e3⟩ st => ⟨o1, v1, st _ e1, e2, e3⟩⟩
    · rw [upd_ne hb] at e
      exact (J.hok b u e).stay (fun _ _ _ q => q) (fun c q => keep q) fun c xs q => keep q
/-- into a suite without a new pin -/
theorem inv_suite0 (I : Inv X pins σ H s) : Inv (X.suite a (X.pn ++ pins)) [] σ H s :=
  ⟨I.ok.suite _ _, I.os, I.bare, I.base, I.loc, I.cell, I.free, I.freeC, fun p hp => I.pin p (by rw [List.append_nil] at hp; exact hp), I.hok, I.len⟩
theorem inv_unsuite0 {pn' : List (Addr × Obj)} (I : Inv (X.suite a (X.pn ++ pins)) pn' σ H s) (ok : X.Ok) : Inv X pins σ H s :=
  ⟨ok, I.os, I.bare, I.base, I.loc, I.cell, I.free, I.freeC, fun p hp => I.pin p (List.mem_append_left _ hp), I.hok, I.len⟩
end
/-- whether one of the classes matches -/
def exmW (K : Frag) (cls : Value) : List Value → Option Bool
  | [c] => exmOne K cls c
  | cs => exmAny K cls cs
theorem exmW_two {K : Frag} {cls c1 c2 : Value} {b1 b2 : Bool} (h1 : exmOne K cls c1 = some b1) (h2 : exmOne K cls c2 = some b2) : exmW K cls [c1, c2] = some (b1 || (b2 || false)) := by
  show exmAny K cls [c1, c2] = _
  simp only [exmAny, h1, h2]
/-- the clauses: classes, slot of the name, suite -/
abbrev Cls := List (List Value × Option Nat × TS)
def setO : Option Nat → Option V → L2.St → L2.St
  | none, _, σ => σ
  | some i, v, σ => σ.set i v
/-- what the clauses wish of an exception of the body -/
def wV (K : Frag) (Wout : WX) (D : Ends) : Cls → WX
  | [] => Wout
  | (c, i, ts) :: r => fun cls d σ H => ∃ b, exmW K cls c = some b ∧
      (b = true → ∀ a, H a = none → ts { nx := fun σ' H' => D.nx (setO i none σ') H', rt := D.rt, bk := fun σ' H' => D.bk (setO i none σ') H', ct := fun σ' H' => D.ct (setO i none σ') H' } (setO i (some (.ref a)) σ) (upd H a (ExcO a cls d))) ∧
      (b = false → wV K Wout D r cls d σ H)
inductive HdV (X : Cx) : List ExceptHandler → Cls → Prop
  | nil : HdV X [] []
  | cons {x n : Str} {i : Nat} {c : Value} {ts : TS} {b₀ : Stmt} {suite : List Stmt} {np pos' : Pos} {hds : List ExceptHandler} {l : Cls} (hc : Names X x c) (hi : X.N[i]? = some n) (hln : X.env.kindOf n = some .local)
      (hsu : ∀ (a : Addr) (pn : List (Addr × Obj)), PSs (X.suite a pn) (b₀ :: suite) ts) (r : HdV X hds l) :
      HdV X (.ExceptHandler (some (.Name x np)) (some n) (b₀ :: suite) pos' :: hds) (([c], some i, ts) :: l)
  | bare {x : Str} {c : Value} {ts : TS} {b₀ : Stmt} {suite : List Stmt} {np pos' : Pos} {hds : List ExceptHandler} {l : Cls} (hc : Names X x c)
      (hsu : ∀ (a : Addr) (pn : List (Addr × Obj)), PSs (X.suite a pn) (b₀ :: suite) ts) (r : HdV X hds l) :
      HdV X (.ExceptHandler (some (.Name x np)) none (b₀ :: suite) pos' :: hds) (([c], none, ts) :: l)
  | two {x y n : Str} {i : Nat} {c1 c2 : Value} {ts : TS} {b₀ : Stmt} {suite : List Stmt} {np1 np2 tp pos' : Pos} {ctx : _} {hds : List ExceptHandler} {l : Cls} (hc : Names X x c1) (hc2 : Names X y c2) (hi : X.N[i]? = some n) (hln : X.env.kindOf n = some .local)
      (hsu : ∀ (a : Addr) (pn : List (Addr × Obj)), PSs (X.suite a pn) (b₀ :: suite) ts) (r : HdV X hds l) :
      HdV X (.ExceptHandler (some (.Tuple [.Name x np1, .Name y np2] ctx tp)) (some n) (b₀ :: suite) pos' :: hds) (([c1, c2], some i, ts) :: l)
theorem flying_ext {B h h' : Heap} {l : List Env} {e : Addr} {Z : Obj → Prop} (f : HandSPX.FlyingZ B l e Z h) (k : ∀ b o, h.get? b = some o → h'.get? b = some o) : HandSPX.FlyingZ B l e Z h' := by
  obtain ⟨f1, f2, f3, oe, vs, T, oT, ts, t1, t2, t3, t4, t5, t6, t7, t8, t9⟩ := f
  exact ⟨fun b o q => k _ _ (f1 b o q), f2, f3.of_keeps fun b o q _ => ⟨o, k _ _ q, rfl⟩, oe, vs, T, oT, ts, k _ _ t1, t2, t3, t4, t5, t6, k _ _ t7, t8, t9⟩
section
variable {X : Cx} {body : List Stmt} {h₀ : ExceptHandler} {hds : List ExceptHandler} {l : Cls} {pos : Pos} {tb : WX → TS} {Wout : WX}
theorem ps_tryV (hex : X.ex = []) (hs : X.stack = X.env :: X.outer) (hf : X.env.frame = some X.env.locals) (hN : X.N.Nodup) (tk : Takes X Wout)
    (hb : ∀ (W : WX) (pn : List (Addr × Obj)) (xe : Value → Shared → Prop), Takes (X.tr pn xe) W → PassesOwn (model X.prog X.w) X.A X.env xe → PSs (X.tr pn xe) body (tb W))
    (hh : HdV X (h₀ :: hds) l) : PS X (.Try body (h₀ :: hds) [] [] pos) (fun D σ H => tb (wV X.K Wout D l) D σ H) := by
  refine ⟨fun pins s σ H D I0 h => ?_⟩
  have okX := I0.ok
  have hfr : X.A.frames = some (X.env :: X.outer) := by rw [okX.frames, hs]
  refine wpAny_Try_except (wpAny_mono ((hb (wV X.K Wout D l) (X.pn ++ pins) (fun e s₁ => wpAny (model X.prog X.w) X.A (noteFrame e X.env) (fun _ s₂ => wpAny (model X.prog X.w) X.A (setFlight e none) (fun _ s₃ => wpAny (model X.prog X.w) X.A (handleBy e X.env (h₀ :: hds)) (SP X pins D) X.xe s₃) X.xe s₂) X.xe s₁) (fun u s' xx => ?_) PassesOwn.looking).run [] s σ H D (I0.toTry _) h) (fun f s1 hsp => ?_) (fun e s1 he => he))
  · obtain ⟨a, B, sI, pins', σ', H', cls, d, rfl, J', nb, up, sky, na, os, ag, w⟩ := xx
    have J0 : Inv X pins σ' H' sI := J'.ofTry okX
    have sk : Sky B (X.env :: X.outer) a (Zc cls d) X.env.locals s'.heap := by rw [← hs]; exact sky
    show wpAny (model X.prog X.w) X.A (noteFrame (.ref a) X.env) _ _ _
    refine Sky.land Zc.steady hfr hf sk fun g fl upg => ?_
    obtain ⟨o3, v3, e3, z3, d3⟩ := fl.there
    have nofr : ∀ {h : Heap} {o : Obj} {vs : Array Value}, h.FunFrames B (X.env :: X.outer) → h.get? a = some o → o.data = .fields vs → a ∉ frs (X.env :: X.outer) := fun {h o vs} ff e dd hm => by
      obtain ⟨_, o', e', q⟩ := ff.mem hm
      rw [e] at e'
      cases e'
      exact q _ dd
    have nfr := nofr fl.2.2.1 e3 d3
    have nL : a ≠ X.env.locals := fun z => nfr (List.mem_filterMap.mpr ⟨X.env, List.mem_cons_self, by rw [hf, z]⟩)
    have nF : a ∉ X.fs := fun hm => by
      obtain ⟨e, he, q⟩ := List.mem_filterMap.mp hm
      exact nfr (List.mem_filterMap.mpr ⟨e, List.mem_cons_of_mem _ he, q⟩)
    have fresh : sI.heap.get? a = none := by
      cases q : sI.heap.get? a with
      | none => rfl
      | some o =>
        have e' := nb a o q (by rw [hs]; exact nfr)
        rw [fl.2.1] at e'
        cases e'
    have go : ∀ {hd2 : List ExceptHandler} {l2 : Cls}, HdV X hd2 l2 → wV X.K Wout D l2 cls d σ' H' → ∀ g : Heap, HandSPX.FlyingZ B (X.env :: X.outer) a (Zc cls d) g → s'.heap.UpToSlots g → wpAny (model X.prog X.w) X.A (handleBy (.ref a) X.env hd2) (SP X pins D) X.xe { s' with heap := g } := by
      clear e3 z3 d3 fl upg
      have test : ∀ {x : Str} {c : Value} {np : Pos} {Q : Value → Shared → Prop} {E : Value → Shared → Prop} {g : Heap}, HandSPX.FlyingZ B (X.env :: X.outer) a (Zc cls d) g → s'.heap.UpToSlots g → Names X x c → Q c { s' with heap := g } → wpAny (model X.prog X.w) (X.A.mark (some (.ref a))) (eval (.Name x np) X.env) Q E { s' with heap := g } := fun {x c np Q E g} fl upg hc q => by
        have J3 : Inv X pins σ' H' { s' with heap := g } := J0.landed nb fl.1 (up.trans upg) os ag
        obtain ⟨o3, v3, e3, z3, d3⟩ := fl.there
        have S3 := J3.suite e3 d3 na nL nF
        obtain ⟨hg, hdb, hm | ⟨hm, hv, hnn⟩⟩ := hc
        · exact ld_glob (X := X.suite a ((a, o3) :: (X.pn ++ pins))) S3 hg hm q hdb
        · exact ld_blt (X := X.suite a ((a, o3) :: (X.pn ++ pins))) S3 hg hm hv q hnn hdb
      intro hd2 l2 hk
      induction hk with
      | nil =>
        intro w g fl upg
        refine wpAny_handleBy_nil ?_
        obtain ⟨k1, k2, k3, oe, vs, T, oT, tsT, he, hz, hd, h1, hr⟩ := id fl
        unfold PySem.passOn
        refine wpAny_bind (wpAny_field he hd h1 ?_)
        rw [if_neg (show ¬ ((Value.ref T == Value.none) = true) by simp)]
        have fin : wpAny (model X.prog X.w) X.A (setFlight (.ref a) X.env.frame) (fun _ s9 => wpAny (model X.prog X.w) X.A (throw (.ref a) : Sem Flow) (SP X pins D) X.xe s9) X.xe { s' with heap := g } := by
          rw [hf]
          exact HandSPX.setFlight_upZ fl fun g9 hh9 up9 => wpAny_throw (tk _ _ ⟨a, B, sI, pins, σ', H', cls, d, rfl, J0, nb, (up.trans upg).trans up9, .inr (.inr (by rw [hs]; exact hh9)), na, os, ag, w⟩)
        first
          | exact wpAny_bind (wpAny_pure (wpAny_bind fin))
          | exact wpAny_bind fin
      | @cons x n i c ts b₀ suite np pos' hd3 l3 hc hi hln hsu r ih =>
        rintro ⟨b, hb1, hyes, hno⟩ g fl upg
        have J3 : Inv X pins σ' H' { s' with heap := g } := J0.landed nb fl.1 (up.trans upg) os ag
        obtain ⟨o3, v3, e3, z3, d3⟩ := fl.there
        have LT : PySem.W.Looks (model X.prog X.w) g (typeOf (.ref a)) cls := fun A Q E s k q => wpAny_typeOf_ref (k _ _ e3) (by rw [z3.1]; exact q)
        refine wpAny_handleBy_cons (codeAny_handlers_test (test fl upg hc ((PySem.W.exm_one (M := model X.prog X.w) J3.kIn LT hb1).here ?_))) (by intro q; cases q)
        cases b with
        | true =>
          refine codeAny_handlers_suite_as (HandSPX.lands_againZ fl fun g4 fl4 up4 => ?_)
          have J4 : Inv X pins σ' H' { s' with heap := g4 } := J0.landed nb fl4.1 ((up.trans upg).trans up4) os ag
          obtain ⟨o4, v4, e4, z4, d4⟩ := fl4.there
          refine store_ok (X := X.suite a (X.pn ++ pins)) (v := .ref a) (inv_suite0 (inv_tell hex J0 fresh J4 e4 z4 d4 na nL)) hN hi (Or.inl hln : Loc X.env.scope n) rfl (fun s5 S5 => ?_) (.inr hln)
          refine wpAny_mono ((hsu a (X.pn ++ pins)).run [] s5 _ _ _ S5 (hyes rfl a na)) (fun f s6 hsp => ?_) (fun _ _ z => False.elim z)
          have fin : ∀ {σ6 : L2.St} {H6 : Hp} {Q : Shared → Prop}, Inv (X.suite a (X.pn ++ pins)) [] σ6 H6 s6 → (∀ s7, Inv X pins (σ6.set i none) H6 s7 → Q s7) → wpAny (model X.prog X.w) X.A (do bindName X.env n .none; unbindBehindTheSuite X.env n pos') (fun _ s7 => Q s7) X.xe s6 := fun {σ6 H6 Q} S6 hq => gone_ok (inv_unsuite0 S6 okX) hN hi hln hq
          cases f with
          | ret u =>
            obtain ⟨v6, σ6, H6, S6, r6, q6⟩ := hsp
            exact fin S6 fun s7 J7 => ⟨_, _, _, J7, r6, q6⟩
          | _ =>
            obtain ⟨σ6, H6, S6, q6⟩ := hsp
            exact fin S6 fun s7 J7 => ⟨_, _, J7, q6⟩
        | false => exact ih (hno rfl) g fl upg
      | @two x y n i c1 c2 ts b₀ suite np1 np2 tp pos' ctx hd3 l3 hc hc2 hi hln hsu r ih =>
        rintro ⟨b, hb1, hyes, hno⟩ g0 fl0 upg0
        have hb1 : PySem.W.exmAny X.K cls [c1, c2] = some b := hb1
        refine wpAny_handleBy_cons (codeAny_handlers_test (wpAny_Tuple_spliced ?_)) (by intro q; cases q)
        refine Calls.spliced_cons (test fl0 upg0 hc (Calls.spliced_cons (test fl0 upg0 hc2 (Calls.spliced_nil ⟨by show 2 ≤ sizeLine; rw [sizeLine_eq]; decide, ?_⟩))))
        have kp : ∀ b o, g0.get? b = some o → (g0.push { cls := .type "tuple", data := .seq [c1, c2].toArray }).get? b = some o := fun b o e => Heap.get?_push_of_some _ e
        have fl := flying_ext fl0 kp
        have upg := upg0.trans (Heap.UpToSlots.of_keeps kp)
        have hp : (g0.push { cls := .type "tuple", data := .seq [c1, c2].toArray }).get? g0.objs.size = some { cls := .type "tuple", data := .seq [c1, c2].toArray } := Heap.get?_push_size _ rfl
        generalize g0.push { cls := .type "tuple", data := .seq [c1, c2].toArray } = g at fl upg hp
        have J3 : Inv X pins σ' H' { s' with heap := g } := J0.landed nb fl.1 (up.trans upg) os ag
        obtain ⟨o3, v3, e3, z3, d3⟩ := fl.there
        have LT : PySem.W.Looks (model X.prog X.w) g (typeOf (.ref a)) cls := fun A Q E s k q => wpAny_typeOf_ref (k _ _ e3) (by rw [z3.1]; exact q)
        refine (PySem.W.exm_tup2 (M := model X.prog X.w) J3.kIn LT hp hb1).here ?_
        cases b with
        | true =>
          refine codeAny_handlers_suite_as (HandSPX.lands_againZ fl fun g4 fl4 up4 => ?_)
          have J4 : Inv X pins σ' H' { s' with heap := g4 } := J0.landed nb fl4.1 ((up.trans upg).trans up4) os ag
          obtain ⟨o4, v4, e4, z4, d4⟩ := fl4.there
          refine store_ok (X := X.suite a (X.pn ++ pins)) (v := .ref a) (inv_suite0 (inv_tell hex J0 fresh J4 e4 z4 d4 na nL)) hN hi (Or.inl hln : Loc X.env.scope n) rfl (fun s5 S5 => ?_) (.inr hln)
          refine wpAny_mono ((hsu a (X.pn ++ pins)).run [] s5 _ _ _ S5 (hyes rfl a na)) (fun f s6 hsp => ?_) (fun _ _ z => False.elim z)
          have fin : ∀ {σ6 : L2.St} {H6 : Hp} {Q : Shared → Prop}, Inv (X.suite a (X.pn ++ pins)) [] σ6 H6 s6 → (∀ s7, Inv X pins (σ6.set i none) H6 s7 → Q s7) → wpAny (model X.prog X.w) X.A (do bindName X.env n .none; unbindBehindTheSuite X.env n pos') (fun _ s7 => Q s7) X.xe s6 := fun {σ6 H6 Q} S6 hq => gone_ok (inv_unsuite0 S6 okX) hN hi hln hq
          cases f with
          | ret u =>
            obtain ⟨v6, σ6, H6, S6, r6, q6⟩ := hsp
            exact fin S6 fun s7 J7 => ⟨_, _, _, J7, r6, q6⟩
          | _ =>
            obtain ⟨σ6, H6, S6, q6⟩ := hsp
            exact fin S6 fun s7 J7 => ⟨_, _, J7, q6⟩
        | false => exact ih (hno rfl) g fl upg
      | @bare x c ts b₀ suite np pos' hd3 l3 hc hsu r ih =>
        rintro ⟨b, hb1, hyes, hno⟩ g fl upg
        have J3 : Inv X pins σ' H' { s' with heap := g } := J0.landed nb fl.1 (up.trans upg) os ag
        obtain ⟨o3, v3, e3, z3, d3⟩ := fl.there
        have LT : PySem.W.Looks (model X.prog X.w) g (typeOf (.ref a)) cls := fun A Q E s k q => wpAny_typeOf_ref (k _ _ e3) (by rw [z3.1]; exact q)
        refine wpAny_handleBy_cons (codeAny_handlers_test (test fl upg hc ((PySem.W.exm_one (M := model X.prog X.w) J3.kIn LT hb1).here ?_))) (by intro q; cases q)
        cases b with
        | true =>
          refine codeAny_handlers_suite (HandSPX.lands_againZ fl fun g4 fl4 up4 => ?_)
          have J4 : Inv X pins σ' H' { s' with heap := g4 } := J0.landed nb fl4.1 ((up.trans upg).trans up4) os ag
          obtain ⟨o4, v4, e4, z4, d4⟩ := fl4.there
          refine wpAny_mono ((hsu a (X.pn ++ pins)).run [] _ _ _ _ (inv_suite0 (inv_tell hex J0 fresh J4 e4 z4 d4 na nL)) (hyes rfl a na)) (fun f s6 hsp => ?_) (fun _ _ z => False.elim z)
          cases f with
          | ret u =>
            obtain ⟨v6, σ6, H6, S6, r6, q6⟩ := hsp
            exact ⟨_, _, _, inv_unsuite0 S6 okX, r6, q6⟩
          | _ =>
            obtain ⟨σ6, H6, S6, q6⟩ := hsp
            exact ⟨_, _, inv_unsuite0 S6 okX, q6⟩
        | false => exact ih (hno rfl) g fl upg
    exact go hh w g fl upg
  · cases f with
    | next =>
      obtain ⟨σ9, H9, J9, q⟩ := hsp
      exact wpAny_execs_nil ⟨σ9, H9, J9.ofTry okX, q⟩
    | ret u =>
      obtain ⟨v, σ9, H9, J9, r, q⟩ := hsp
      exact ⟨v, σ9, H9, J9.ofTry okX, r, q⟩
    | _ =>
      obtain ⟨σ9, H9, J9, q⟩ := hsp
      exact ⟨σ9, H9, J9.ofTry okX, q⟩
end
end ExS

/-! ### .. in the layer: the value, its fields, isinstance, is None; try -/
namespace ExS
open PySem PySem.Spec PyProof.Rows L2 PySem.W
/-- e.n of a caught exception that is kept as a value -/
def tXv (K : Frag) (n : Str) (te : TE) : TE := fun σ H Q => te σ H fun x H1 => ∃ (a C dd : Addr) (fs : List (Str × V)) (v : V), x = .ref a ∧ H1 a = some (ExcO a (.ref C) (some dd)) ∧ XfC K C ∧ findIn K (.ref C) n = some none ∧ H1 dd = some (.xd fs) ∧ fs.lookup n = some v ∧ Q v H1
theorem pe_xv {X : Cx} {K : Frag} {e : Expr} {te : TE} {pos : Pos} {n : Str} (hK : X.K = K) (he : PE X e te) (hb : attributeBase e n X.env (eval e X.env) = eval e X.env := by rfl) : PE X (.Attribute e n pos) (tXv K n te) := by
  subst hK
  refine ⟨fun pins s σ H Q I h => attr_of hb (thn (he.run pins s σ H _ I h) fun u s1 hh => ?_)⟩
  obtain ⟨x, H1, I1, rx, a, C, dd, fs, v, rfl, eE, T, hno, ea, l, q⟩ := hh
  obtain rfl : u = Value.ref a := rx
  obtain ⟨⟨oe, vs, ha, hz, hd⟩, _, _⟩ := I1.hok a _ eE
  obtain ⟨mA, hns, hr⟩ := (I1.hok dd _ ea : ObjOk X.prog X.w H1 s1.heap dd (.xd fs))
  obtain ⟨od, ho, hl⟩ := lookIn_ns hns
  obtain ⟨u, hu, ru⟩ := RelO.some_of (v := v) (o := mA n) (by rw [← l]; exact hr n)
  have J : PySem.W.InstAt s1.heap a oe C (some od) := ⟨ha, hz.1, by unfold PySem.W.notCls; rw [hd] <;> rfl, by rw [hz.2]; exact ho⟩
  exact HandSPX.exc_get I1.kIn J T.ga T.gg T.exC (PySem.W.findObj_own T.hdC hno rfl (by rw [hl, hu])) (handed_of ru) ⟨v, H1, I1.tok _, ru, q⟩
/-- isinstance(e, C) of such a value; C one of the program's classes, or a builtin one -/
def rIsV (K : Frag) : List V → Hp → VK → Prop := fun xs H Q => ∃ (a D dd : Addr) (fs : List (Str × V)) (b : Bool) (x2 : V) (c2 : Value), xs = [.ref a, x2] ∧ (∀ u, RelV x2 u → u = c2) ∧ H a = some (ExcO a (.ref D) (some dd)) ∧ L2.ExcC K D ∧ kitOne K (.ref D) c2 = some b ∧ H dd = some (.xd fs) ∧ Q (.bl b) H
theorem kIsV {X : Cx} {K : Frag} (hK : X.K = K) : CallR X (.builtin "isinstance") (rIsV K) := by
  subst hK
  intro pins s σ H xs us Q I r h
  obtain ⟨a, D, dd, fs, b, x2, c2, rfl, h2, eE, X1, e, ea, q⟩ := h
  cases r with
  | cons rx rr =>
    cases rr with
    | cons rt rr =>
      cases rr
      cases rx
      obtain rfl := h2 _ rt
      obtain ⟨⟨oe, vs, ha, hz, hd⟩, _, _⟩ := I.hok a _ eE
      obtain ⟨mA, hns, hr⟩ := (I.hok dd _ ea : ObjOk X.prog X.w H s.heap dd (.xd fs))
      obtain ⟨od, ho, hl⟩ := lookIn_ns hns
      have J : PySem.W.InstAt s.heap a oe D (some od) := ⟨ha, hz.1, by unfold PySem.W.notCls; rw [hd] <;> rfl, by rw [hz.2]; exact ho⟩
      have hcl : (clsIn X.K D).isSome = true := by
        obtain ⟨cd, hc, _⟩ := any_some X1.hd
        rw [hc]
        rfl
      exact PySem.W.kia_one (PySem.W.kitx_exc hcl X1.hg X1.hk X1.hs X1.ha X1.hn X1.ht X1.hm) I.kIn J e (fun z => nomatch z) fun tk => ⟨.bl b, H, I.kept (t' := tk) fun _ _ z => z, rfl, q⟩
theorem kit_ty {K : Frag} {D : Addr} {nm : String} {b : Bool} (h : subIn K (.ref D) (.type nm) = some b) (hm : kitMeta nm = true := by decide +kernel) : kitOne K (.ref D) (.type nm) = some b := by
  have ne : (Value.ref D == .type nm) = false := rfl
  unfold kitOne
  rw [ne]
  show (if kitMeta nm = true then subIn K (.ref D) (.type nm) else none) = some b
  rw [if_pos hm]
  exact h
end ExS
namespace Sy
open PySem PySem.Spec PyProof.Rows L2
open SX (S S_len S_cat S_inj)
/-- a caught exception: its class, its fields -/
def exV (cls : Value) (fs : List (Str × As)) : As := ⟨fun G v => ∃ (a dx : Addr) (ds : List (Str × V)), v = .ref a ∧ G a = some (ExS.ExcO a cls (some dx)) ∧ G dx = some (.xd ds) ∧ FsOk G fs ds, fun e h => by
  obtain ⟨a, dx, ds, h0, h1, h2, h3⟩ := h
  exact ⟨a, dx, ds, h0, e _ _ h1, e _ _ h2, h3.m e⟩⟩
section
variable {K : PySem.W.Frag} {L : LL} {O : OO} {k : As → OO → Prop} {te : TE}
theorem Go.xv {C : Addr} {f : Str} {fs : List (Str × As)} {B : As} (T : XfC K C) (hno : PySem.W.findIn K (.ref C) f = some none) (h : Go L O te fun A O1 => A = exV (.ref C) fs ∧ fs.lookup f = some B ∧ k B O1) : Go L O (ExS.tXv K f te) k := fun E G0 H0 σ G H Q fr s z =>
  h _ _ _ _ _ _ _ fr s fun A O1 G1 H1 v q f1 s1 a1 => by
    obtain ⟨rfl, hl, hk⟩ := q
    obtain ⟨a, dx, ds, rfl, h1, h2, h3⟩ := a1
    obtain ⟨y, h4, h5⟩ := h3 _ _ hl
    exact ⟨a, C, dx, ds, y, rfl, f1.gh _ _ h1, T, hno, f1.gh _ _ h2, h4, z _ _ _ _ _ hk f1 s1 h5⟩
theorem v_isV {C D : Addr} {fs : List (Str × As)} {b : Bool} (X : L2.ExcC K D) (hb : PySem.W.kitOne K (.ref D) (.ref C) = some b) (q : k (bo b) O) : Vn O (ExS.rIsV K) [exV (.ref D) fs, pt C] k := fun E G0 H0 G H Q vs f z zz => by
  cases z with
  | cons z1 z =>
    cases z with
    | cons z2 z =>
      cases z
      obtain ⟨a, dx, ds, rfl, h1, h2, h3⟩ := z1
      obtain rfl : _ = V.ref C := z2
      exact ⟨a, D, dx, ds, b, _, _, rfl, fun u h => h, f.gh _ _ h1, X, hb, f.gh _ _ h2, zz _ _ _ _ _ q f (Same.refl _) rfl⟩
/-- .. of a builtin class -/
theorem v_isVB {D : Addr} {nm : String} {fs : List (Str × As)} {b : Bool} (X : L2.ExcC K D) (hb : PySem.W.kitOne K (.ref D) (.type nm) = some b) (q : k (bo b) O) : Vn O (ExS.rIsV K) [exV (.ref D) fs, cst (.ty nm)] k := fun E G0 H0 G H Q vs f z zz => by
  cases z with
  | cons z1 z =>
    cases z with
    | cons z2 z =>
      cases z
      obtain ⟨a, dx, ds, rfl, h1, h2, h3⟩ := z1
      obtain rfl : _ = V.ty nm := z2
      exact ⟨a, D, dx, ds, b, _, _, rfl, fun u h => h, f.gh _ _ h1, X, hb, f.gh _ _ h2, zz _ _ _ _ _ q f (Same.refl _) rfl⟩
theorem v_isNV {c : Value} {fs : List (Str × As)} (q : k (bo false) O) : V2 O (fun x y H Q => y = V.non ∧ Q (V.bl (decide (x = V.non))) H) (exV c fs) (cst .non) k := fun E G0 H0 G H Q x y f a b zz => by
  obtain ⟨p, dx, ds, rfl, h1, h2, h3⟩ := a
  exact ⟨b, zz _ _ _ _ _ q f (Same.refl _) rfl⟩
theorem v_notNV {c : Value} {fs : List (Str × As)} (q : k (bo true) O) : V2 O (fun x y H Q => y = V.non ∧ Q (V.bl (!decide (x = V.non))) H) (exV c fs) (cst .non) k := fun E G0 H0 G H Q x y f a b zz => by
  obtain ⟨p, dx, ds, rfl, h1, h2, h3⟩ := a
  exact ⟨b, zz _ _ _ _ _ q f (Same.refl _) rfl⟩
instance {c : Value} {fs : List (Str × As)} : Stp (V2 O (fun x y H Q => y = V.non ∧ Q (V.bl (decide (x = V.non))) H) (exV c fs) (cst .non) k) (k (bo false) O) := ⟨v_isNV⟩
instance {c : Value} {fs : List (Str × As)} : Stp (V2 O (fun x y H Q => y = V.non ∧ Q (V.bl (!decide (x = V.non))) H) (exV c fs) (cst .non) k) (k (bo true) O) := ⟨v_notNV⟩
end
section
variable {K : PySem.W.Frag} {L : LL} {O : OO} {W : WX} {x : XP} {k : Es} {te : TE} {t u : TS} {tt : TT} {ta : TA}
def setLO : Option Nat → As → LL → LL
  | none, _, L => L
  | some i, A, L => setL L i A
def delLO : Option Nat → LL → LL
  | none, L => L
  | some i, L => delL L i
theorem Slots.setO {G : Hp} {L : LL} {σ : L2.St} {A : As} {v : V} (s : Slots G L σ) (a : A.p G v) : ∀ i : Option Nat, Slots G (setLO i A L) (ExS.setO i (some v) σ)
  | none => s
  | some i => s.set a i
theorem Slots.delO {G : Hp} {L : LL} {σ : L2.St} (s : Slots G L σ) : ∀ i : Option Nat, Slots G (delLO i L) (ExS.setO i none σ)
  | none => s
  | some i => s.del i
/-- the clauses, one after the other -/
def HdG (K : PySem.W.Frag) (k : Es) (x : XP) : ExS.Cls → XP
  | [] => x
  | (c, i, ts) :: r => fun cls fs L O => ∃ b, ExS.exmW K cls c = some b ∧
      (b = true → GoS (setLO i (exV cls fs) L) O ts ⟨fun L2 O2 => k.nx (delLO i L2) O2, k.rt, fun L2 O2 => k.bk (delLO i L2) O2, fun L2 O2 => k.ct (delLO i L2) O2⟩) ∧ (b = false → HdG K k x r cls fs L O)
def tTryV (K : PySem.W.Frag) (l : ExS.Cls) (tb : WX → TS) (Wout : WX) : TS := fun D σ H => tb (ExS.wV K Wout D l) D σ H
theorem ps_tryV {X : Cx} {body : List Stmt} {h₀ : ExceptHandler} {hds : List ExceptHandler} {l : ExS.Cls} {pos : Pos} {tb : WX → TS} {Wout : WX} (hK : X.K = K) (hex : X.ex = []) (hs : X.stack = X.env :: X.outer) (hf : X.env.frame = some X.env.locals) (hN : X.N.Nodup) (tk : Takes X Wout)
    (hb : ∀ (W : WX) (pn : List (Addr × Obj)) (xe : Value → Shared → Prop), Takes (X.tr pn xe) W → PassesOwn (model X.prog X.w) X.A X.env xe → PSs (X.tr pn xe) body (tb W))
    (hh : ExS.HdV X (h₀ :: hds) l) : PS X (.Try body (h₀ :: hds) [] [] pos) (tTryV K l tb Wout) := by
  subst hK
  exact ExS.ps_tryV hex hs hf hN tk hb hh
theorem hdg_ok {E : List Addr} {G0 H0 G : Hp} {D : Ends} (e : EndsOk E G0 H0 G D k) (ac : Acc W x E G0 H0 G) : ∀ l : ExS.Cls, Acc (ExS.wV K W D l) (HdG K k x l) E G0 H0 G
  | [] => ac
  | (c, i, ts) :: r => fun cls fs L1 O1 σ1 G1 H1 dx ds q f1 s1 sl e1 e2 => by
    obtain ⟨b, hb, ht, hf⟩ := q
    refine ⟨b, hb, fun hbt a na => ?_, fun hbf => hdg_ok e ac r _ _ _ _ _ _ _ _ _ (hf hbf) f1 s1 sl e1 e2⟩
    have ex := Ext.new (o := ExS.ExcO a cls (some dx)) f1.gh na
    have e' := e.m (s1.trans ex.g)
    exact ht hbt _ _ _ _ _ _ _ (f1.ext ex) ((sl.m ex.g).setO (A := exV cls fs) ⟨a, dx, ds, rfl, upd_same, ex.g _ _ e1, e2.m ex.g⟩ i)
      ⟨fun L O σ G H q f z s => e'.nx _ _ _ _ _ q f z (s.delO i), e'.rt, fun L O σ G H q f z s => e'.bk _ _ _ _ _ q f z (s.delO i), fun L O σ G H q f z s => e'.ct _ _ _ _ _ q f z (s.delO i)⟩
theorem GoSW.tryV {l : ExS.Cls} {tb : WX → TS} (h : ∀ W', GoSW W' (HdG K k x l) L O (tb W') k) : GoSW W x L O (tTryV K l tb W) k := fun E G0 H0 σ G H D f s e ac => h _ E G0 H0 σ G H D f s e (hdg_ok e ac l)
theorem GoS.tryV {l : ExS.Cls} {tb : WX → TS} (h : ∀ W', GoSW W' (HdG K k (fun _ _ _ _ => False) l) L O (tb W') k) : GoS L O (tTryV K l tb fun _ _ _ _ => False) k := GoS.ofW (GoSW.tryV h)
end
end Sy

/-! ### functions as values: a name that holds a def is called -/
namespace Sy
open PySem PySem.Spec PyProof.Rows L2
def tCallW (i : Nat) (f : Addr) (sp : Sp) (E : XK) (t : TA) : TE := fun σ H Q => σ[i]? = some (some (.ref f)) ∧ tCall sp [] E t σ H Q
section
variable {X : Cx} {CX : CXT} {k i : Nat} {f : Addr} {fd : FuncData} {ps : List Str} {sp : Sp} {E : XK} {x : Str} {e : Expr} {es : List Expr} {t : TA} {p pos : Pos}
theorem pe_callW (F : FnOk X.prog X.w X.K X.mg X.base CX k f fd ps sp) (hr : Room k X.A) (hk : PySem.W.keepIn X.K (.ref f) = true) (hb : Binds X.K fd ps []) (hx : Passes CX X E) (hN : X.N[i]? = some x) (hv : Vis X.env.scope x) (ha : PA X (e :: es) t)
    (hd : (x == ("__debug__" : Str)) = false := by decide) (hcd : (x == ("__classdict__" : Str)) = false := by decide)
    (he : starEach (e :: es) X.env = (false, eval e X.env) :: starEach es X.env := by rfl) (hpl : (backTo pos (starEach es X.env)).any (·.1) = false := by rfl) : PE X (.Call (.Name x p) (e :: es) [] pos) (tCallW i f sp E t) := by
  refine ⟨fun pins s σ H Q I h => wpAny_Call_Name_kw (thn ((pe_var (pos := p) (i := i) hN hv hd hcd).run pins s σ H (fun v H1 => v = .ref f ∧ H1 = H) I ⟨.ref f, h.1, rfl, rfl⟩) fun u s1 ⟨v, H1, I1, r1, ev, eH⟩ => ?_)⟩
  subst ev
  rw [eH] at I1
  cases r1
  exact PySem.W.callWith_K (h₀ := X.base) I.ok.mod.kin hk (thn (ha.run pos pins s1 σ H _ I1 h.2) fun us s2 ⟨vs, H2, I2, r, q⟩ => ⟨I2.kIn, wpAny_call (run_fnR (F.raw hb .nil) hr hx I2 r q)⟩) he hpl
end
theorem Go.callW {L : LL} {O : OO} {k : As → OO → Prop} {i : Nat} {f : Addr} {sp : Sp} {E : XK} {t : TA} (h : L[i]? = some (some (pt f))) (q : Go L O (tCall sp [] E t) k) : Go L O (tCallW i f sp E t) k := fun E0 G0 H0 σ G H Q fr s z => by
  obtain ⟨v, h1, h2⟩ := s.get h
  obtain rfl : v = V.ref f := h2
  exact ⟨h1, q _ _ _ _ _ _ _ fr s z⟩
end Sy

/-! ### lambdas without parameters, handed to a def: made, called -/
namespace LmS
open PySem PySem.Spec PyProof.Rows L2 LamX
/-- what making the lambda leaves: its code object is found in the table at P, or new and laid there -/
def Lay (H : Hp) (P : Addr) (q : Str) (c' : Addr) (H1 : Hp) : Prop := ∃ ps : Array Value, H P = some (.tbl ps) ∧
  ((H1 = H ∧ ∃ pos : Pos, codeAmong pos ps.toList = some (.ref c')) ∨
   (H c' = none ∧ ∃ more : Array Value, H1 = upd (upd H P (.tbl (ps ++ more))) c' (CodeO c' q) ∧ TriplesOk (ps ++ more).toList ∧ ∀ (pos : Pos) (cv : Value), codeAmong pos (ps ++ more).toList = some cv → codeAmong pos ps.toList = some cv ∨ cv = .ref c'))
section
variable {X : Cx} {pins : List (Addr × Obj)} {σ : L2.St} {H HZ : Hp} {s s1 : Shared}
theorem make3 {c P : Addr} {params : Arguments} {body : Expr} {scope : Scope} {pos : Pos} {ps : Array Value} {E : Value → Shared → Prop} {Q : Value → Shared → Prop} (I : Inv X pins σ H s) (TB : TabB X.base X.mg c P) (hcode : X.env.code = .ref c)
    (hP : H P = some (.tbl ps)) (ht : TriplesOk ps.toList) (ha : ∀ (pos : Pos) (cv : Value), codeAmong pos ps.toList = some cv → ∃ d, cv = .ref d ∧ H d = some (CodeO d (X.env.qual ++ "<lambda>")))
    (hdef : defaultsOf params X.env = ([], [])) (hfree : ∀ y ∈ scope.names, y.2 = .free → ∃ c, X.env.cells.lookup y.1 = some c)
    (h : ∀ (f c' : Addr) (pm ctv : Value) (H1 : Hp) (s' : Shared), Inv X pins σ H1 s' → Lay H P (X.env.qual ++ "<lambda>") c' H1 → s'.heap.get? f = some (PySem.W.kla_obj "<lambda>" (X.env.qual ++ "<lambda>") params body scope (cloFrom X.env.cells scope.names []) pm c' ctv) →
      H1 f = none → f ∉ frs X.stack → H1 c' = some (CodeO c' (X.env.qual ++ "<lambda>")) → Q (.ref f) s') :
    wpAny (model X.prog X.w) X.A (eval (.Lambda params body scope pos) X.env) Q E s := by
  have bP : s.heap.BuiltinsAt X.mg P := TB.bm.keeps I.bk
  have oP : s.heap.get? P = some { cls := .none, data := .fields ps } := I.hok P _ hP
  have away : ∀ f, s.heap.objs.size ≤ f → f ∉ frs X.stack := fun f hf z => by
    rcases List.mem_cons.mp (I.stkSub _ z) with e | e
    · exact absurd (Nat.lt_of_lt_of_le (e ▸ I.lt) hf) (by rw [e]; exact Nat.lt_irrefl _)
    · exact I.nofs hf e
  refine PySem.W.kla_eval hdef ?_
  cases hc : codeAmong pos ps.toList with
  | some cv =>
    obtain ⟨d, rfl, hd⟩ := ha pos cv hc
    refine PySem.W.kla_makeFunctionHit (mg := X.mg) (c := c) (P := P) (ps := ps) (closure_ok hfree) I.ok.glob (I.mod.glob.keeps I.bk) hcode (TB.code.keeps I.bk) oP ht hc bP fun ctv h' tk hx hsz => ?_
    exact h h'.objs.size d ((X.mg "__name__").getD .none) ctv H _ (I.kept (t' := tk) fun b o e => Heap.get?_push_of_some _ (hx b o e)) ⟨ps, hP, .inl ⟨rfl, pos, hc⟩⟩ (Heap.get?_push_size _ rfl) (I.hok.fresh hsz) (away _ hsz) hd
  | none =>
    refine PySem.W.kla_makeFunction (mg := X.mg) (c := c) (P := P) (ps := ps) (closure_ok hfree) I.ok.glob (I.mod.glob.keeps I.bk) hcode (TB.code.keeps I.bk) oP ht hc TB.gP bP fun c' ctv h' tk hx hge hlt hrec htb => ?_
    obtain ⟨c2, oc, vs, t, e2, hoc, hd, hv⟩ := hrec
    cases e2
    have hsz : s.heap.objs.size ≤ h'.objs.size := Nat.le_trans hge (Nat.le_of_lt hlt)
    have nC : H c' = none := I.hok.fresh hge
    have n1 : h'.objs.size ≠ c' := Nat.ne_of_gt hlt
    have n2 : h'.objs.size ≠ P := Nat.ne_of_gt (Nat.lt_of_lt_of_le (Heap.lt_size oP) hsz)
    have J := inv_table (t' := tk) (more := #[rawInt pos.line, rawInt pos.col, .ref c']) (h' := h'.push (PySem.W.kla_obj "<lambda>" (X.env.qual ++ "<lambda>") params body scope (cloFrom X.env.cells scope.names []) ((X.mg "__name__").getD .none) c' ctv)) I hP (fun b o hb e => Heap.get?_push_of_some _ (hx b o hb e)) (Heap.get?_push_of_some _ htb) hge ⟨oc, vs, t, Heap.get?_push_of_some _ hoc, hd, hv⟩
    have eL : (ps ++ #[rawInt pos.line, rawInt pos.col, .ref c']).toList = ps.toList ++ [rawInt pos.line, rawInt pos.col, .ref c'] := by simp
    refine h h'.objs.size c' ((X.mg "__name__").getD .none) ctv _ _ J ⟨ps, hP, .inr ⟨nC, _, rfl, by rw [eL]; exact PySem.TriplesOk_snoc _ _ _ _ ht, fun p' cv q => ?_⟩⟩ (Heap.get?_push_size _ rfl) ?_ (away _ hsz) upd_same
    · rw [eL] at q
      exact among_app _ ht q
    · rw [upd_ne n1, upd_ne n2]
      exact I.hok.fresh hsz
/-- the def that got the lambda calls it: a slot's name, no arguments -/
def tAct (i : Nat) (f c' : Addr) (q : Str) (tl : XK → Hp → VK → Prop) (W : WX) : TE := fun σZ HZ Q => σZ[i]? = some (some (.ref f)) ∧ HZ c' = some (CodeO c' q) ∧ tl (WE W σZ) HZ Q
theorem pe_act3 {CXg : CXT} {Eg : XK} {Ng : List Str} {qg : Str} {sg : Scope} {g f c' : Addr} {cdg pm ctv : Value} {params : Arguments} {body : Expr} {scope : Scope} {k i : Nat} {a : Str} {pn : List (Addr × Obj)} {xe : Value → Shared → Prop} {W : WX} {tb : XK → TE} {p1 p2 : Pos}
    (I : Inv X pins σ H s) (L : LamS X.env.scope scope) (hf : s.heap.get? f = some (PySem.W.kla_obj "<lambda>" (X.env.qual ++ "<lambda>") params body scope (cloFrom X.env.cells scope.names []) pm c' ctv)) (hfn : H f = none) (hfr : f ∉ frs X.stack)
    (hbind : bindArgs (PySem.W.kla_fn "<lambda>" (X.env.qual ++ "<lambda>") params body scope (cloFrom X.env.cells scope.names []) pm (.ref c') ctv) ⟨[], []⟩ = pure [])
    (tk : Takes ((cxOf CXg X.prog X.w X.K X.mg X.base Ng qg sg g cdg X.A X.stack s H Eg).tr pn xe) W) (hr : Room (k + 1) (X.A.deeper (envOfC qg sg s.heap.objs.size g cdg)))
    (hbody : ∀ (A : Around) (outer : List Env) (s : Shared) (H : Hp) (E : XK), Room k (A.deeper (lamEnv X scope s.heap.objs.size f c')) → PE (lamCx X A outer s H E scope f c') body (tb E))
    (hN : Ng[i]? = some a) (hv : Vis sg a) (hd : (a == ("__debug__" : Str)) = false := by decide) (hcd : (a == ("__classdict__" : Str)) = false := by decide) :
    PE ((cxOf CXg X.prog X.w X.K X.mg X.base Ng qg sg g cdg X.A X.stack s H Eg).tr pn xe) (.Call (.Name a p1) [] [] p2) (tAct i f c' (X.env.qual ++ "<lambda>") (fun E H' Q' => tb E σ H' Q') W) := by
  refine ⟨fun pZ sZ σZ HZ Q IZ ⟨h1, h2, h3⟩ => ?_⟩
  refine wpAny_Call_Name_kw (thn ((pe_var (pos := p1) (i := i) hN hv hd hcd).run pZ sZ σZ HZ (fun v H1 => v = .ref f ∧ H1 = HZ) IZ ⟨.ref f, h1, rfl, rfl⟩) fun u s1 ⟨v, H1, I1, r1, ev, eH⟩ => ?_)
  subst ev
  rw [eH] at I1
  cases r1
  have of1 : s1.heap.get? f = some (PySem.W.kla_obj "<lambda>" (X.env.qual ++ "<lambda>") params body scope (cloFrom X.env.cells scope.names []) pm c' ctv) := I1.base.keep f _ hf hfn hfr (fun z => nomatch (show f ∈ ([] : List Addr) from z))
  refine PySem.W.callWith_F0 ⟨_, _, _, _, of1⟩ ?_
  have un : Un (frs X.stack) [] H HZ s.heap s1.heap := I1.base
  obtain ⟨⟨oc, vs, t, hoc, hdc, hvc⟩, _, _⟩ := I1.hok c' _ h2
  have rc : codeAny (model X.prog X.w) (X.A.deeper (envOfC qg sg s.heap.objs.size g cdg)) (.call (.ref f) ⟨[], []⟩) (CR (L2.CX X.prog X.w) (envOfC qg sg s.heap.objs.size g cdg :: X.stack) X.prog X.w HZ s1 Q (WE W σZ)) s1 := by
    refine PySem.W.kla_callFunE hr.depth of1 rfl L.co L.gen rfl ⟨c', oc, vs, t, rfl, hoc, hdc, hvc⟩ ?_
    rw [hbind]
    refine wpAny_pure (wpAny_newFunctionEnv (fun y hy => (L.own y hy).2) (fun y hy => absurd hy (by simp)) (fun g1 hns hsb => ⟨I1.nolimit.fresh _ hsb, ?_⟩) L.kind)
    have kp : ∀ b o, s1.heap.get? b = some o → g1.get? b = some o := fun b o e => hsb.extBut b o (Nat.ne_of_lt (Heap.lt_size e)) (Heap.get?_push_of_some _ e)
    have J : Inv (lamCx X (X.A.deeper (envOfC qg sg s.heap.objs.size g cdg)) (envOfC qg sg s.heap.objs.size g cdg :: X.stack) s1 HZ (WE W σZ) scope f c') [] σ HZ { s1 with heap := g1, toks := s1.toks + ([] : List (Str × Value)).length } := lam_start2 I L I1.env0 hr.hd un hns kp
    refine PySem.W.kla_codeExpr (wpAny_mono ((hbody _ _ s1 HZ (WE W σZ) (hr.deeper _)).run [] _ _ HZ Q J h3) (fun v s' ⟨w', H', J', rv, q⟩ => ?_) fun e s' hq => hq)
    exact ⟨w', H', J'.os, J'.bare, J'.base, J'.hok, rv, q⟩
  have hx := passAt tk σZ
  refine wpAny_call (codeAny_mono rc fun r s' hq => ?_)
  match r, hq with
  | .error e, hq => exact hx pZ HZ s1 e s' I1 hq
  | .ok (.ret u), hq => exact I1.after hq
  | .ok .next, hq => exact hq.elim
  | .ok .brk, hq => exact hq.elim
  | .ok .cont, hq => exact hq.elim
end
/-- a def with one parameter that calls what it got; TT tells what it makes of the deed's reading -/
def Gives (P : Program) (w : World) (K : PySem.W.Frag) (mg : Str → Option Value) (base : Heap) (A : Around) (stk : List Env) (j : Nat) (Ng : List Str) (x : Str) (sg : Scope) (g : Addr) (cdg : Value) (bg : List Stmt) (a q : Str) (TT : (XK → Hp → VK → Prop) → Addr → Addr → Hp → VK → Prop) : Prop :=
  ∀ (f c' : Addr) (s : Shared) (H : Hp) (Q : VK) (tl : XK → Hp → VK → Prop), Room j (A.deeper (envOfC x sg s.heap.objs.size g cdg)) →
    (∀ (W : WX) (pn : List (Addr × Obj)) (xe : Value → Shared → Prop) (p1 p2 : Pos), Takes ((cxOf C8.CX0 P w K mg base Ng x sg g cdg A stk s H C8.E0).tr pn xe) W →
      PE ((cxOf C8.CX0 P w K mg base Ng x sg g cdg A stk s H C8.E0).tr pn xe) (.Call (.Name a p1) [] [] p2) (tAct 0 f c' q tl W)) →
    TT tl f c' H Q → ∃ t, PSs (cxOf C8.CX0 P w K mg base Ng x sg g cdg A stk s H C8.E0).nox bg t ∧ t { nx := fun _ H' => Q .non H', rt := Q } (L2.start Ng [.ref f]) H
/-- the table at P as it is owned: its codes are known -/
def tLam (P : Addr) (q : Str) (TT : (XK → Hp → VK → Prop) → Addr → Addr → Hp → VK → Prop) (t : XK → TE) : TE := fun σ H Q =>
  (∃ ps : Array Value, H P = some (.tbl ps) ∧ TriplesOk ps.toList ∧ ∀ (pos : Pos) (cv : Value), codeAmong pos ps.toList = some cv → ∃ d, cv = .ref d ∧ H d = some (CodeO d q)) ∧
    ∀ (f c' : Addr) (H1 : Hp), Lay H P q c' H1 → H1 c' = some (CodeO c' q) → TT (fun E H' Q' => t E σ H' Q') f c' H1 Q
/-- x(lambda: body) -/
theorem pe_lam {X : Cx} {TT : (XK → Hp → VK → Prop) → Addr → Addr → Hp → VK → Prop} {x a : Str} {st : Stmt} {g c P : Addr} {j : Nat} {fd : FuncData} {Ng : List Str} {params : Arguments} {body : Expr} {scope : Scope} {t : XK → TE} {p lpos pos : Pos}
    (hg : Gl X x) (hm : X.mg x = some (.ref g)) (hk : PySem.W.keepIn X.K (.ref g) = true) (F : Fun X.K x x st g fd) (hb : L2.Binds X.K fd [a] []) (Sg : FnScope Ng [a] (defScope st)) (hNg : Ng[0]? = some a) (hva : Vis (defScope st) a)
    (hG : ∀ cdv : Value, Gives X.prog X.w X.K X.mg X.base X.A X.stack j Ng x (defScope st) g cdv (defBody st) a (X.env.qual ++ "<lambda>") TT)
    (TB : TabB X.base X.mg c P) (hcode : X.env.code = .ref c) (hr : Room (j + 2) X.A) (L : LamS X.env.scope scope) (hdef : defaultsOf params X.env = ([], []))
    (hbind : ∀ (q : Str) (cl : List (Str × Addr)) (pm cv ctv : Value), bindArgs (PySem.W.kla_fn "<lambda>" q params body scope cl pm cv ctv) ⟨[], []⟩ = pure [])
    (hbody : ∀ (A : Around) (outer : List Env) (s : Shared) (H : Hp) (E : XK) (f c' : Addr), Room j (A.deeper (lamEnv X scope s.heap.objs.size f c')) → PE (lamCx X A outer s H E scope f c') body (t E))
    (hdb : (x == ("__debug__" : Str)) = false := by decide) (hd : (a == ("__debug__" : Str)) = false := by decide) (hcd : (a == ("__classdict__" : Str)) = false := by decide) :
    PE X (.Call (.Name x p) [.Lambda params body scope lpos] [] pos) (tLam P (X.env.qual ++ "<lambda>") TT t) := by
  obtain ⟨oc, od, kV, doc, pm0, an, cdv, ct, osl, rfl, lk, hcg⟩ := F.ex
  refine ⟨fun pins s σ H Q I ⟨⟨ps, hP, ht, ha⟩, h⟩ => wpAny_Call_Name_kw (ld_glob I hg hm ?_ hdb)⟩
  refine PySem.W.callWith_K (h₀ := X.base) I.ok.mod.kin hk ?_ (by rfl) (by rfl)
  show wpAny _ _ (spliced ((false, eval (.Lambda params body scope lpos) X.env) :: backTo pos (starEach [] X.env))) _ _ s
  refine Calls.spliced_cons (make3 I TB hcode hP ht ha hdef (L.has I.ok) fun f c' pm ctv H1 s' I1 ly hf hfn hfr hco => Calls.spliced_nil ⟨I1.kIn, ?_⟩)
  have rc : codeAny (model X.prog X.w) X.A (.call (.ref g) ⟨[.ref f], []⟩) (CR C8.CX0 X.stack X.prog X.w H1 s' Q C8.E0) s' := by
    refine run_ofS (N := Ng) (ps := [a]) (us := [.ref f]) (vs := [.ref f]) lk hcg Sg (hr : Room ((j + 1) + 1) X.A) I1.env0 (hb s' [.ref f] I1.kIn rfl) (.cons rfl .nil) rfl fun hr' => ?_
    obtain ⟨t', ht', hq'⟩ := hG cdv f c' s' H1 Q (fun E H' Q' => t E σ H' Q') (hr'.mono (Nat.le_succ j)) (fun W pn xe p1 p2 tk => pe_act3 (i := 0) I1 L hf hfn hfr (hbind _ _ _ _ _) tk hr' (fun A outer s H E hr2 => hbody A outer s H E f c' hr2) hNg hva hd hcd) (h f c' H1 ly hco)
    exact ⟨t', ht'.nox, hq'⟩
  refine wpAny_call (codeAny_mono rc fun r s2 hq => ?_)
  match r, hq with
  | .error e, hq => exact (show False from hq).elim
  | .ok (.ret u), hq => exact I1.after hq
  | .ok .next, hq => exact hq.elim
  | .ok .brk, hq => exact hq.elim
  | .ok .cont, hq => exact hq.elim
end LmS

/-! ### lambdas in the layer: the table as an owned object, the deed, the def that calls it -/
namespace Sy
open PySem PySem.Spec PyProof.Rows L2
open SX (S S_len S_cat S_inj)
/-- what the deed does where O is owned: it gives what kd says, or raises what xd says -/
def Deed (Gm : Hp) (tl : XK → Hp → VK → Prop) (O : OO) (kd : As → OO → Prop) (xd : Value → List (Str × As) → OO → Prop) : Prop :=
  ∀ (E : List Addr) (G0 H0 G H : Hp) (Ex : XK) (Q : VK), Fr E G0 H0 O G H → Same Gm G → Post E G0 H0 G kd Q →
    (∀ cls fs O' G' H' dx vs, xd cls fs O' → Fr E G0 H0 O' G' H' → Same G G' → G' dx = some (.xd vs) → FsOk G' fs vs → Ex cls (some dx) H') → tl Ex H Q
/-- the lambda, as the def holds it -/
def deedA (f c' : Addr) (q : Str) (Gm : Hp) : As := ⟨fun G v => v = .ref f ∧ G c' = some (LamX.CodeO c' q) ∧ Same Gm G, fun e h => ⟨h.1, e _ _ h.2.1, h.2.2.trans e⟩⟩
abbrev RelD := (As → OO → Prop) → (Value → List (Str × As) → OO → Prop) → (As → OO → Prop) → Prop
def TTr (Rel : RelD) (q : Str) : (XK → Hp → VK → Prop) → Addr → Addr → Hp → VK → Prop := fun tl f c' H Q =>
  ∃ (kd : As → OO → Prop) (xd : Value → List (Str × As) → OO → Prop) (po : As → OO → Prop) (E : List Addr) (G0 H0 : Hp) (O : OO) (G : Hp), Rel kd xd po ∧ Fr E G0 H0 O G H ∧ G c' = some (LamX.CodeO c' q) ∧ Deed G tl O kd xd ∧
    ∀ A O' G' H' v, po A O' → Fr E G0 H0 O' G' H' → Same G G' → A.p G' v → Q v H'
section
variable {K : PySem.W.Frag} {L : LL} {O : OO} {k : As → OO → Prop} {W : WX} {x : XP}
theorem GoW.act {i : Nat} {f c' : Addr} {q : Str} {Gm : Hp} {tl : XK → Hp → VK → Prop} {kd : As → OO → Prop} {xd : Value → List (Str × As) → OO → Prop} (hL : L[i]? = some (some (deedA f c' q Gm))) (hD : Deed Gm tl O kd xd) (hk : ∀ A O', kd A O' → k A O') (hx : ∀ cls fs O', xd cls fs O' → x cls fs L O') : GoW W x L O (LmS.tAct i f c' q tl W) k := fun E G0 H0 σ G H Q fr s z ac => by
  obtain ⟨v, h1, rfl, h2, h3⟩ := s.get hL
  exact ⟨h1, fr.gh _ _ h2, hD _ _ _ _ _ _ _ fr h3 (fun A O' G' H' v q => z _ _ _ _ _ (hk _ _ q)) fun cls fs O' G' H' dx vs q fr' sg e1 e2 => ac _ _ _ _ _ _ _ _ _ (hx _ _ _ q) fr' sg (s.m sg) e1 e2⟩
/-- x(lambda: body) -/
theorem Go.lamC {P : Addr} {q : Str} {Rel : RelD} {t : XK → TE} {pre post : OO} (hO : O = pre ++ (P, .tb q) :: post) (h : ∃ (kd : As → OO → Prop) (xd : Value → List (Str × As) → OO → Prop) (po : As → OO → Prop), Rel kd xd po ∧ (∀ E : XK, GoW (fun cls d _ H => E cls d H) (fun cls fs _ O' => xd cls fs O') L O (t E) kd) ∧ ∀ A O', po A O' → k A O') :
    Go L O (LmS.tLam P q (TTr Rel q) t) k := fun E G0 H0 σ G H Q f s z => by
  subst hO
  obtain ⟨kd, xd, po, hR, hW, hpo⟩ := h
  obtain ⟨gn, w2, ps, hP, ht, ha⟩ := f.ow (P, .tb q) (by simp)
  have hP : H P = some (.tbl ps) := hP
  refine ⟨⟨ps, hP, ht, fun pos cv hc => ?_⟩, fun f9 c' H1 ly hco => ?_⟩
  · obtain ⟨c, e1, e2⟩ := ha pos cv hc
    exact ⟨c, e1, f.gh _ _ e2⟩
  · have deed : ∀ G1, Same G G1 → Deed G1 (fun E' H' Q' => t E' σ H' Q') (pre ++ (P, .tb q) :: post) kd xd := fun G1 s1 E' G0' H0' G' H' Ex Q' fr sg hp hx =>
      hW Ex _ _ _ σ G' H' Q' fr (s.m (s1.trans sg)) hp fun cls fs L1 O1 σ1 G2 H2 dx vs q fr1 sg1 _ e1 e2 => hx _ _ _ _ _ _ _ q fr1 sg1 e1 e2
    obtain ⟨ps2, hP2, cs⟩ := ly
    rw [hP] at hP2
    cases hP2
    rcases cs with ⟨rfl, pos, hc⟩ | ⟨nc, more, rfl, ht2, hin⟩
    · obtain ⟨d, e1, e2⟩ := ha pos _ hc
      cases e1
      exact ⟨kd, xd, po, E, G0, H0, _, G, hR, f, e2, deed G (Same.refl _), fun A O' G' H' v q fr sg a => z _ _ _ _ _ (hpo _ _ q) fr sg a⟩
    · have ex := Ext.new (o := LamX.CodeO c' q) f.gh nc
      have f1 := f.ext ex
      have ne : P ≠ c' := ne_of_none hP nc
      have f2 := f1.change (c' := .tb q) (o := .tbl (ps ++ more)) (fun h => h) ⟨ps ++ more, upd_same, ht2, fun pos cv hc => by
        rcases hin pos cv hc with h | h
        · obtain ⟨d, e1, e2⟩ := ha pos cv h
          exact ⟨d, e1, ex.g _ _ e2⟩
        · exact ⟨c', h, upd_same⟩⟩
      have eh : upd (upd H c' (LamX.CodeO c' q)) P (.tbl (ps ++ more)) = upd (upd H P (.tbl (ps ++ more))) c' (LamX.CodeO c' q) := funext fun b => by
        by_cases hb : b = P
        · rw [hb, upd_same, upd_ne ne, upd_same]
        · rw [upd_ne hb]
          by_cases hc : b = c'
          · rw [hc, upd_same, upd_same]
          · rw [upd_ne hc, upd_ne hc, upd_ne hb]
      rw [eh] at f2
      exact ⟨kd, xd, po, E, G0, H0, _, _, hR, f2, upd_same, deed _ ex.g, fun A O' G' H' v q fr sg a => z _ _ _ _ _ (hpo _ _ q) fr (ex.g.trans sg) a⟩
/-- .. in a def that hands on what is raised (nothing is, here) -/
theorem GoW.lamC {P : Addr} {q : Str} {Rel : RelD} {t : XK → TE} {pre post : OO} (hO : O = pre ++ (P, .tb q) :: post) (h : ∃ (kd : As → OO → Prop) (xd : Value → List (Str × As) → OO → Prop) (po : As → OO → Prop), Rel kd xd po ∧ (∀ E : XK, GoW (fun cls d _ H => E cls d H) (fun cls fs _ O' => xd cls fs O') L O (t E) kd) ∧ ∀ A O', po A O' → k A O') : GoW W x L O (LmS.tLam P q (TTr Rel q) t) k := .up (Go.lamC hO h)
end
section
variable {P : Program} {w : World} {K : PySem.W.Frag} {mg : Str → Option Value} {base : Heap}
/-- a def that calls the deed it gets: by its body -/
theorem gives_sy {Rel : RelD} {j : Nat} {x q a : Str} {st : Stmt} {g : Addr} {N : List Str} {cdv : Value} {A : Around} {stk : List Env} (Sc : FnScope N [a] (defScope st))
    (body : ∀ (s : Shared) (H : Hp) (f c' : Addr) (tl : XK → Hp → VK → Prop), Room j (A.deeper (envOfC x (defScope st) s.heap.objs.size g cdv)) →
      (∀ (W : WX) (pn : List (Addr × Obj)) (xe : Value → Shared → Prop) (p1 p2 : Pos), Takes ((cxOf C8.CX0 P w K mg base N x (defScope st) g cdv A stk s H C8.E0).tr pn xe) W →
        PE ((cxOf C8.CX0 P w K mg base N x (defScope st) g cdv A stk s H C8.E0).tr pn xe) (.Call (.Name a p1) [] [] p2) (LmS.tAct 0 f c' q tl W)) →
      ∀ (kd : As → OO → Prop) (xd : Value → List (Str × As) → OO → Prop) (po : As → OO → Prop) (O : OO) (Gm : Hp), Rel kd xd po → Deed Gm tl O kd xd →
      ∃ t, PSs (cxOf C8.CX0 P w K mg base N x (defScope st) g cdv A stk s H C8.E0).nox (defBody st) t ∧ GoS (startL N [deedA f c' q Gm]) O t (eR po)) :
    LmS.Gives P w K mg base A stk j N x (defScope st) g cdv (defBody st) a q (TTr Rel q) := fun f c' s H Q tl hr act ⟨kd, xd, po, E, G0, H0, O, G, hR, fr, hc, hD, hp⟩ => by
  obtain ⟨t, ht, hg⟩ := body s H f c' tl hr act kd xd po O G hR hD
  refine ⟨t, ht, hg _ _ _ _ _ _ _ fr ?_ ⟨fun L O σ G' H' q f z s => hp _ _ _ _ _ q f z rfl, fun A O G' H' v q f z a => hp _ _ _ _ _ q f z a, fun _ _ _ _ _ q => q.elim, fun _ _ _ _ _ q => q.elim⟩⟩
  exact Slots.start (l := [deedA f c' q G]) (vs := [.ref f]) _ (.cons ⟨rfl, hc, Same.refl _⟩ .nil)
/-- a def that makes lambdas: its code object is told -/
theorem fn_syM {α : Type} {pre : α → Prop} {as : α → List As} {oin : α → OO} {post : α → As → OO → Prop} {x qual : Str} {st : Stmt} {f : Addr} {fd : FuncData} {N ps : List Str} {k : Nat} {cv : Value} (F : Fun K x qual st f fd) (S : FnScope N ps (defScope st)) (hc : fd.code = cv) (len : ∀ a, pre a → (as a).length = ps.length)
    (body : ∀ (a : α) (A : Around) (outer : List Env) (s : Shared) (H : Hp) (E : XK), Room k (A.deeper (envOfC qual (defScope st) s.heap.objs.size f cv)) → pre a →
      ∃ t, PSs (cxOf CX0 P w K mg base N qual (defScope st) f cv A outer s H E).nox (defBody st) t ∧ GoS (startL N (as a)) (oin a) t (eR (post a))) :
    FnOk P w K mg base CX0 (k + 1) f fd ps (SpG pre as oin post) := by
  obtain ⟨oc, od, kV, doc, pm, an, cdv, ct, osl, rfl, lk, hcd⟩ := F.ex
  obtain rfl : cdv = cv := hc
  refine fn_of lk hcd S (fun vs H Q E h => ?_) (fun A outer s H vs Q E hr h => ?_)
  · obtain ⟨a, G, h1, h2, _⟩ := h
    rw [h2.len, len a h1]
  · obtain ⟨a, G, h1, h2, h3, h4⟩ := h
    obtain ⟨t, ht, hg⟩ := body a A outer s H E hr h1
    refine ⟨t, ht.nox, hg _ _ _ _ _ _ _ h3 ?_ ⟨fun L O σ G' H' q f z s => h4 _ _ _ _ _ q f rfl, fun A O G' H' v q f z a => h4 _ _ _ _ _ q f a, fun _ _ _ _ _ q => q.elim, fun _ _ _ _ _ q => q.elim⟩⟩
    have e : L2.start N vs = vs.map some ++ List.replicate (N.length - (as a).length) none := by
      unfold L2.start
      rw [h2.len]
    rw [e]
    exact Slots.start _ h2
theorem fnG_syM {α : Type} {pre : α → Prop} {as : α → List As} {oin : α → OO} {post : α → As → OO → Prop} {x qual : Str} {st : Stmt} {f : Addr} {fd : FuncData} {N ps : List Str} {k : Nat} {cv : Value} (F : Fun K x qual st f fd) (Sc : FnScope N ps (defScope st)) (hc : fd.code = cv) (len : ∀ a, pre a → (as a).length = ps.length)
    (body : ∀ (a : α) (A : Around) (outer : List Env) (s : Shared) (H : Hp) (E : XK), Room k (A.deeper (envOfC qual (defScope st) s.heap.objs.size f cv)) → A.guards = some [] → pre a →
      ∃ t, PSs (cxOf CX0 P w K mg base N qual (defScope st) f cv A outer s H E).nox (defBody st) t ∧ GoS (startL N (as a)) (oin a) t (eR (post a))) :
    FnG P w K mg base CX0 (k + 1) f fd ps (SpG pre as oin post) := by
  obtain ⟨oc, od, kV, doc, pm, an, cdv, ct, osl, rfl, lk, hcd⟩ := F.ex
  obtain rfl : cdv = cv := hc
  refine ⟨fun vs H Q E h => ?_, fun A outer s H args us vs Q E hr hg e0 hb r hsp => ?_⟩
  · obtain ⟨a, G, h1, h2, _⟩ := h
    rw [h2.len, len a h1]
  · have hl : vs.length = ps.length := by
      obtain ⟨a, G, h1, h2, _⟩ := hsp
      rw [h2.len, len a h1]
    refine StX.run_bnd lk hcd Sc hr e0 (G := fun xs H2 => xs = vs ∧ H2 = H) (fun A' Ex Q' h => ?_) (fun s2 H2 xs gg hr' => ?_)
    · exact hb _ _ _ _ (h s H vs us e0 Un.refl rfl (fun _ _ z => z) r hl ⟨rfl, rfl⟩)
    · obtain ⟨rfl, rfl⟩ := gg
      obtain ⟨a, G, h1, h2, h3, h4⟩ := hsp
      obtain ⟨t, ht, hgo⟩ := body a A outer s2 H2 E hr' hg h1
      refine ⟨t, ht.nox, hgo _ _ _ _ _ _ _ h3 ?_ ⟨fun L O σ G' H' q f z s => h4 _ _ _ _ _ q f rfl, fun A O G' H' v q f z a => h4 _ _ _ _ _ q f a, fun _ _ _ _ _ q => q.elim, fun _ _ _ _ _ q => q.elim⟩⟩
      have e : L2.start N xs = xs.map some ++ List.replicate (N.length - (as a).length) none := by
        unfold L2.start
        rw [h2.len]
      rw [e]
      exact Slots.start _ h2
end
end Sy

/-! ### the end of a law whose defs make lambdas (tables of code objects), guards known -/
section
open LamX
theorem law_runT {P : Program} {w : World} {K : PySem.W.Frag} {mg mb : Str → Option Value} {CX : CXT} {k : Nat} {fa a : Addr} {cs : List (Addr × Addr)} {fd : FuncData} {x : Str} {sp : Sp} {st : Shared} {vs : List Value} {ns : List Int}
    (KX : K.In st.heap) (n1 : st.heap.Ns mainGlobals mg) (n2 : st.heap.Ns builtinsNs mb) (bb : ∀ x : Str, x ≠ "__name__" → mb x = bootBuiltins x) (lim : st.heap.NoLimit) (gs : st.gens = #[])
    (hT : ∀ p ∈ cs, st.heap.get? p.2 = some { cls := .none, data := .fields #[] }) (nT : ∀ p ∈ cs, K.lookup p.2 = none) (C : ∀ p ∈ cs, PySem.W.CodeHd st.heap p.1 p.2)
    (hbm : ∃ (bm : Addr) (ob : Obj), mg "__builtins__" = some (.ref bm) ∧ bm ≠ builtinsNs ∧ st.heap.get? bm = some ob ∧ ob.cls = .type "module" ∧ ob.dict = some builtinsNs ∧ ob.data = .plain)
    (ha : st.heap.get? a = some { cls := .type "list", data := .seq vs.toArray }) (hi : IntsAre vs ns) (hl : ns.length ≤ sizeLine) (hr : Room k callerA)
    (F : ∀ base : Heap, K.In base → base.Ns mainGlobals mg → (∀ p ∈ cs, TabB base mg p.1 p.2) → FnG P w K mg base CX k fa fd [x] sp) (hbind : ∀ (s : Shared) (u : Value), BindsTo s fd ⟨[u], []⟩ [(x, u)])
    (hsp : ∀ H : Hp, (∀ p ∈ cs, H p.2 = some (.tbl #[])) → SqL K H a (ns.map V.int) → sp [.ref a] H (fun v _ => v = .bl true) fun _ _ _ => False) (hCX : ∀ H e s', CX [] H st (fun _ _ _ => False) e s' → False) :
    codeAny (model P w) callerA (.call (.ref fa) ⟨[.ref a], []⟩) (fun r s' => r = .ok (.ret (.bool true)) ∧ OldK st.heap s'.heap ∧ s'.os = st.os ∧ AllBare s'.gens) st := by
  have lenV := hi.length
  have isT : ∀ b : Addr, b ∈ cs.map (·.2) → st.heap.get? b = some { cls := .none, data := .fields #[] } := fun b hb => by
    obtain ⟨p, hp, rfl⟩ := List.mem_map.mp hb
    exact hT p hp
  have aT : a ∉ cs.map (·.2) := fun z => by
    have q := isT a z
    rw [ha] at q
    exact absurd (congrArg Obj.data (Option.some.inj q)) (by intro z; cases z)
  have memT : ∀ p ∈ cs, p.2 ∈ cs.map (·.2) := fun p hp => List.mem_map_of_mem hp
  have main : ∀ H : Hp, (∀ p ∈ cs, H p.2 = some (.tbl #[])) → (∀ b, H b = none ∨ b ∈ cs.map (·.2) ∨ ∃ o xs, H b = some (.frz o (.lst xs))) → SqL K H a (ns.map V.int) → HOk P w H st.heap → (∀ b, H b ≠ none → (b = a ∧ K.lookup a = none) ∨ b ∈ cs.map (·.2)) →
      codeAny (model P w) callerA (.call (.ref fa) ⟨[.ref a], []⟩) (fun r s' => r = .ok (.ret (.bool true)) ∧ OldK st.heap s'.heap ∧ s'.os = st.os ∧ AllBare s'.gens) st := by
    intro H hH hO hS ok own
    have out : ∀ {b : Addr} {o : Obj}, st.heap.get? b = some o → b ≠ a → b ∉ cs.map (·.2) → (hidT st.heap H).get? b = some o := fun {b o} e n m => by
      refine hidT_get e ?_
      cases q : H b with
      | none => rfl
      | some u => exact ((own b (by rw [q]; simp)).elim (fun z => absurd z.1 n) (fun z => absurd z m))
    have plain : ∀ {b : Addr} {o : Obj}, st.heap.get? b = some o → (∀ us n, o.data ≠ .seq us n) → o.data ≠ .fields #[] → (hidT st.heap H).get? b = some o := fun {b o} e d1 d2 => by
      refine out e (fun z => ?_) fun z => ?_
      · rw [z, ha] at e
        cases e
        exact d1 _ _ rfl
      · rw [isT b z] at e
        cases e
        exact d2 rfl
    have names : ∀ {b : Addr} {m : Str → Option Value}, st.heap.Ns b m → (hidT st.heap H).Ns b m := by
      rintro b m ⟨o, es, ep, e, d, r⟩
      exact ⟨o, es, ep, plain e (fun us n z => by rw [d] at z; cases z) (fun z => by rw [d] at z; cases z), d, r⟩
    have kin : K.In (hidT st.heap H) := fun b o e => by
      cases q : H b with
      | none => exact hidT_get (KX b o e) q
      | some u =>
        rcases own b (by rw [q]; simp) with ⟨rfl, z⟩ | z
        · rw [z] at e
          cases e
        · obtain ⟨p, hp, rfl⟩ := List.mem_map.mp z
          rw [nT p hp] at e
          cases e
    have tabs : ∀ p ∈ cs, TabB (hidT st.heap H) mg p.1 p.2 := fun p hp => by
      refine ⟨?_, ?_, fun z => ?_⟩
      · obtain ⟨o, us, file, tf, flags, tg, inF, text, tt, e1, r1, r2, r3, r4, r5, r6, r7, r8, hne⟩ := C p hp
        refine ⟨o, us, file, tf, flags, tg, inF, text, tt, plain e1 (fun vs n z => by rw [r2] at z; cases z) (fun z => ?_), r1, r2, r3, r4, r5, r6, r7, r8, hne⟩
        rw [r2] at z
        cases z
        simp at r3
      · obtain ⟨bm, ob, b1, b2, b3, b4, b5, b6⟩ := hbm
        refine ⟨bm, ob, b1, b2, fun q => ?_, fun q => ?_, plain b3 (fun vs n z => by rw [b6] at z; cases z) (fun z => by rw [b6] at z; cases z), b4, b5, b6⟩
        · obtain ⟨o, es, ep, e, hd, _⟩ := n1
          rw [q, e] at b3
          cases b3
          rw [hd] at b6
          cases b6
        · rw [q, hT p hp] at b3
          cases b3
          cases b6
      · obtain ⟨o, es, ep, e, hd, _⟩ := n1
        rw [z, hT p hp] at e
        cases e
        cases hd
    obtain ⟨mc, c1, c2⟩ := lim
    have e0 : Env0 P w K mg (hidT st.heap H) callerA [] st H := ⟨rfl, ⟨kin, names n1, ⟨mb, names n2, bb⟩, mc, names c1, c2⟩, fun b o e => of_hidT e, Nat.le_of_eq (hidT_size _ _), trivial, (fun b z => nomatch z), ok, .of_eq gs⟩
    refine codeAny_mono ((F _ kin (names n1) tabs).go callerA [] st H ⟨[.ref a], []⟩ [.ref a] [.ref a] _ _ hr rfl e0 (hbind st (.ref a)) (.cons rfl .nil) (hsp H hH hS)) fun res s' h => ?_
    match res, h with
    | .error e, h => exact (hCX H e s' h).elim
    | .ok .next, h => exact h.elim
    | .ok .brk, h => exact h.elim
    | .ok .cont, h => exact h.elim
    | .ok (.ret u), h =>
      obtain ⟨v, H', os, bare, un, ok', rv, q⟩ := h
      obtain rfl : v = .bl true := q
      obtain rfl : u = Value.bool true := rv
      have key : ∀ b o, b ∉ cs.map (·.2) → st.heap.get? b = some o → s'.heap.get? b = some o := fun b o nb e => by
        rcases hO b with z | z | ⟨ob, xs, z⟩
        · exact un.keep b o e z (fun y => nomatch y) (fun y => nomatch y)
        · exact absurd z nb
        · obtain ⟨e1, _⟩ := ok b _ z
          obtain ⟨e2, _⟩ := ok' b _ (un.frzs b ob _ z)
          rw [e1] at e
          cases e
          exact e2
      have grown : ∀ p ∈ cs, ∃ more : Array Value, s'.heap.get? p.2 = some { cls := .none, data := .fields more } := fun p hp => by
        obtain ⟨more, z⟩ := un.tbls p.2 #[] (hH p hp)
        exact ⟨_, ok' p.2 _ z⟩
      refine ⟨rfl, ⟨fun b o e => ?_, fun b o e => ?_⟩, os, bare⟩
      · by_cases hb : b ∈ cs.map (·.2)
        · obtain ⟨p, hp, rfl⟩ := List.mem_map.mp hb
          obtain ⟨more, hm⟩ := grown p hp
          rw [hT p hp] at e
          cases e
          exact .inr (.inl ⟨((C p hp).tab (hT p hp)).isCodeTable, rfl, #[], more, rfl, by rw [Array.empty_append]; exact hm⟩)
        · exact .inl (key b o hb e)
      · by_cases hb : b ∈ cs.map (·.2)
        · obtain ⟨p, hp, rfl⟩ := List.mem_map.mp hb
          obtain ⟨more, hm⟩ := grown p hp
          exact ⟨_, hm⟩
        · exact ⟨o, key b o hb e⟩
  have rv := vals_ints hi
  have tb_if : ∀ b, b ∈ cs.map (·.2) → (if b ∈ cs.map (·.2) then some (HO.tbl #[]) else none) = some (HO.tbl #[]) := fun b hb => if_pos hb
  cases hk : K.lookup a with
  | some o =>
    have e := KX a o hk
    rw [ha] at e
    cases e
    refine main (fun b => if b ∈ cs.map (·.2) then some (.tbl #[]) else none) (fun p hp => if_pos (memT p hp)) (fun b => ?_) (.inr ⟨_, vs.toArray, _, hk, rfl, rfl, rfl, by rw [List.size_toArray, lenV]; exact hl, by simpa using rv⟩) (fun b u z => ?_) fun b z => ?_
    · by_cases hb : b ∈ cs.map (·.2)
      · exact .inr (.inl hb)
      · exact .inl (if_neg hb)
    · by_cases hb : b ∈ cs.map (·.2)
      · have z' := (if_pos hb).symm.trans z
        cases z'
        exact isT b hb
      · have z' := (if_neg hb).symm.trans z
        cases z'
    · by_cases hb : b ∈ cs.map (·.2)
      · exact .inr hb
      · exact absurd (if_neg hb) z
  | none =>
    have at_ : ∀ b u, (if b = a then some (HO.frz { cls := .type "list", data := .seq vs.toArray } (.lst (ns.map V.int))) else if b ∈ cs.map (·.2) then some (.tbl #[]) else none) = some u → (b = a ∧ u = HO.frz { cls := .type "list", data := .seq vs.toArray } (.lst (ns.map V.int))) ∨ (b ∈ cs.map (·.2) ∧ u = .tbl #[]) := fun b u z => by
      by_cases hb : b = a
      · rw [if_pos hb] at z
        exact .inl ⟨hb, (Option.some.inj z).symm⟩
      · rw [if_neg hb] at z
        by_cases hc : b ∈ cs.map (·.2)
        · rw [if_pos hc] at z
          exact .inr ⟨hc, (Option.some.inj z).symm⟩
        · rw [if_neg hc] at z
          cases z
    refine main (fun b => if b = a then some (.frz { cls := .type "list", data := .seq vs.toArray } (.lst (ns.map V.int))) else if b ∈ cs.map (·.2) then some (.tbl #[]) else none) (fun p hp => (if_neg (show ¬ p.2 = a from fun z => aT (by rw [← z]; exact memT p hp))).trans (if_pos (memT p hp))) (fun b => ?_)
      (.inl (.inr ⟨{ cls := .type "list", data := .seq vs.toArray }, if_pos rfl⟩)) (fun b u z => ?_) fun b z => ?_
    · by_cases hb : b = a
      · exact .inr (.inr ⟨_, _, if_pos hb⟩)
      · by_cases hc : b ∈ cs.map (·.2)
        · exact .inr (.inl hc)
        · exact .inl ((if_neg hb).trans (if_neg hc))
    · rcases at_ b u z with ⟨rfl, rfl⟩ | ⟨hc, rfl⟩
      · exact ⟨ha, by rw [List.length_map]; exact hl, vs, _, rv, ha⟩
      · exact isT b hc
    · cases q : (if b = a then some (HO.frz { cls := .type "list", data := .seq vs.toArray } (.lst (ns.map V.int))) else if b ∈ cs.map (·.2) then some (.tbl #[]) else none) with
      | none => exact absurd q z
      | some u => exact (at_ b u q).imp (fun y => ⟨y.1, hk⟩) (fun y => y.1)
/-- what is known of the law's promise at the head's heap -/
def LawT (l : PySem.W.OpenLaw) (w : World) (K : PySem.W.Frag) (CX : CXT) (k n : Nat) (x : Str) (mg : Str → Option Value) (fa : Addr) (h : Heap) : Prop :=
  ∃ (fd : FuncData) (cs : List (Addr × Addr)) (sp : Sp), (∀ p ∈ cs, h.get? p.2 = some { cls := .none, data := .fields #[] }) ∧ (∀ p ∈ cs, K.lookup p.2 = none) ∧ (∀ p ∈ cs, PySem.W.CodeHd h p.1 p.2) ∧ (∀ (s : Shared) (v : Value), BindsTo s fd ⟨[v], []⟩ [(x, v)]) ∧
    (∀ (H : Hp) (a : Addr) (ns : List Int), ns.length ≤ n → (∀ p ∈ cs, H p.2 = some (.tbl #[])) → SqL K H a (ns.map V.int) → sp [.ref a] H (fun v _ => v = .bl true) fun _ _ _ => False) ∧
    ∀ base : Heap, K.In base → base.Ns mainGlobals mg → (∀ p ∈ cs, TabB base mg p.1 p.2) → FnG l.prog w K mg base CX k fa fd [x] sp
/-- the end of such a law -/
theorem walk_T {l : PySem.W.OpenLaw} {n k : Nat} {q : Program} {loose : List Str} {XP : (Str → Option Value) → Heap → Prop} {YP : World → Heap → Prop} {d : DefRec} {K : Params → PySem.W.Frag} {CX : World → CXT} {x : Str}
    (hn : l.most = some n) (h2 : n ≤ sizeLine) (hdf : d.params.defaults = []) (hr : Room k callerA) (hY : ∀ (w : World) (h : Heap), YP w h → (K w.params).In h)
    (F : ∀ (w : World) (mg : Str → Option Value) (fa : Addr) (h : Heap), YP w h → (K w.params).In h → h.Ns mainGlobals mg → mg d.name = some (.ref fa) → LawT l w (K w.params) (CX w) k n x mg fa h)
    (hCX : ∀ (w : World) (H : Hp) (s : Shared) (e : Value) (s' : Shared), CX w [] H s (fun _ _ _ => False) e s' → False) : PySem.W.WalkO q loose XP YP l.row.toRowW d [] (fun f vs => PySem.call f vs) :=
  Att.attach_call hn hdf fun w s₀ st mg mb fa o pm cd doc a vs ns G Y ho hd hcd hmg hobj hints hlen hg => by
    obtain ⟨fd, cs, sp, hT, nT, C, hb, hsp, hF⟩ := F w mg fa _ Y (hY w _ Y) G.T.g hmg
    exact law_runT (hY w _ Y) G.T.g G.T.b G.T.builtins G.T.nolimit hg hT nT C G.T.bmain hobj hints (Nat.le_trans hlen h2) hr hF hb (fun H hH hS => hsp H a ns hlen hH hS) fun H e s' => hCX w H st e s'
end
namespace Sy
open PySem PySem.Spec PyProof.Rows L2
/-- the heap that law starts with: the script, and the tables, that are owned -/
def tbO (cs : List (Addr × Str)) : OO := cs.map fun p => (p.1, .tb p.2)
def noT (H : Hp) (cs : List (Addr × Str)) : Hp := fun b => if b ∈ cs.map (·.1) then none else H b
theorem start_T {K : PySem.W.Frag} {H : Hp} {a : Addr} {ns : List Int} {cs : List (Addr × Str)} (nd : (cs.map (·.1)).Nodup) (hH : ∀ p ∈ cs, H p.1 = some (.tbl #[])) (hS : SqL K H a (ns.map V.int)) :
    All2 (noT H cs) [sql K (ns.map it)] [.ref a] ∧ Fr ((tbO cs).map (·.1)) (noT H cs) H (tbO cs) (noT H cs) H := by
  have sm : Same (noT H cs) H := fun b o e => by
    unfold noT at e
    split at e
    · cases e
    · exact e
  have e1 : (tbO cs).map (·.1) = cs.map (·.1) := by
    unfold tbO
    rw [List.map_map]
    rfl
  refine ⟨.cons ⟨a, _, rfl, ?_, all2_it ns⟩ .nil, Same.refl _, sm, fun _ _ _ h => h, fun _ h => h, fun b h n => h, fun x hx => ?_, by rw [e1]; exact nd⟩
  · rcases hS with h | h
    · have na : a ∉ cs.map (·.1) := fun z => by
        obtain ⟨p, hp, e⟩ := List.mem_map.mp z
        have e2 := hH p hp
        rw [e] at e2
        rcases h with h | ⟨o, h⟩ <;> rw [e2] at h <;> cases h
      have ea : noT H cs a = H a := if_neg na
      exact .inl (h.imp (fun h => ea.trans h) fun ⟨o, h⟩ => ⟨o, ea.trans h⟩)
    · exact .inr h
  · obtain ⟨p, hp, rfl⟩ := List.mem_map.mp hx
    have hm : p.1 ∈ cs.map (·.1) := List.mem_map_of_mem hp
    refine ⟨if_pos hm, .inl ⟨rfl, by rw [e1]; exact hm⟩, #[], hH p hp, True.intro, fun pos cv hc => ?_⟩
    have z : codeAmong pos [] = some cv := hc
    simp [codeAmong] at z
end Sy

/-! ### a statement behind which nothing goes on (it raises for what is asked) -/
section
open L2
variable {X : Cx} {st : Stmt} {rest body orelse : List Stmt} {t : TS} {tg iter : Expr} {wi : TI} {pos : Pos}
def tLast (t : TS) : TS := fun D σ H => t { D with nx := fun _ _ => False } σ H
theorem pss_last (h : PS X st t) : PSs X (st :: rest) (tLast t) := by
  refine ⟨fun pins s σ H D I q => wpAny_execs_cons (thn (h.run pins s σ H { D with nx := fun _ _ => False } I q) fun f s1 q => ?_)⟩
  match f, q with
  | .next, q =>
    obtain ⟨_, _, _, q⟩ := q
    exact q.elim
  | .ret v, q => exact q
  | .brk, q => exact q
  | .cont, q => exact q
def tForX (wi : TI) : TS := fun _ σ H => wi σ H fun _ _ => False
theorem ps_forX (hi : PI X tg iter wi) (hs : ∀ x, foldedSetIterable iter X.env x = pure x := by intro _; rfl) : PS X (.For tg iter body orelse pos) (tForX wi) := by
  refine ⟨fun pins s σ H D I h => wpAny_For (thn (hi.run pins s σ H _ I h) fun v s1 h1 => thn h1 fun itv s2 h2 => ?_) hs⟩
  obtain ⟨_, _, _, _, _, _, _, _, _, _, q⟩ := h2
  exact q.elim
end
namespace Sy
open PySem PySem.Spec PyProof.Rows L2
section
variable {K : PySem.W.Frag} {L : LL} {O : OO} {W : WX} {x : XP} {t : TS} {k : Es} {ta : TA}
theorem GoSW.last (h : GoSW W x L O t { k with nx := fun _ _ => False }) : GoSW W x L O (tLast t) k := fun E G0 H0 σ G H D f s e c => h _ _ _ _ _ _ _ f s ⟨fun _ _ _ _ _ q => q.elim, e.rt, e.bk, e.ct⟩ c
theorem GoSW.forXT (h : GoWA W x L O ta fun _ _ => False) : GoSW W x L O (tForX (ET.iEn K ta)) k := fun E G0 H0 σ G H D f s e c => h _ _ _ _ _ _ _ f s (fun l O' G' H' vs q => q.elim) c
end
end Sy

/-! ### owned lists read and stored in at any index -/
namespace Sy
open PySem PySem.Spec PyProof.Rows L2
section
variable {K : PySem.W.Frag} {L : LL} {O : OO} {k : As → OO → Prop}
theorem v_ixO {pre post : OO} {D : Addr} {xs : List As} {i : Int} {A : As} (h : atI xs i = some A) (q : k A (pre ++ (D, .ol xs) :: post)) : V2 (pre ++ (D, .ol xs) :: post) (rIxL K) (pt D) (it i) k := fun E G0 H0 G H Q x y f a b zz => by
  obtain ⟨us, u1, u2⟩ := own_at f
  obtain rfl : x = .ref D := a
  obtain ⟨v, e, av⟩ := at2 u2 h
  exact ⟨D, us, i, v, rfl, b, SqL.of u1, e, zz _ _ _ _ _ q f (Same.refl _) av⟩
theorem GoGh.subN {to ti : TE} {A : As} {k : LL → OO → Prop} (h : Go L O to fun B O1 => Go L O1 ti fun C O2 => ∃ (D : Addr) (xs : List As) (pre post : OO) (i : Int) (n : Nat), B = pt D ∧ C = it i ∧ O2 = pre ++ (D, .ol xs) :: post ∧ ixN xs.length i = some n ∧ k L (pre ++ (D, .ol (xs.set n A)) :: post)) : GoGh L O A (gSub to ti rSetL) k := fun E G0 H0 σ G H Q x f s a z =>
  h _ _ _ _ _ _ _ f s fun B O1 G1 H1 v q f1 s1 b => q _ _ _ _ _ _ _ f1 (s.m s1) fun C O2 G2 H2 w q2 f2 s2 c => by
    obtain ⟨D, xs, pre, post, i, n, rfl, rfl, rfl, hn, hk⟩ := q2
    obtain ⟨us, u1, u2⟩ := own_at f2
    exact ⟨D, us, i, n, b, c, u1, by rw [u2.len]; exact hn, z _ _ _ _ _ hk (Fr.change f2 (fun z => z) ⟨us.set n x, upd_same, u2.setAt (A.m (s1.trans s2) a) n⟩) (s1.trans s2) (s.m (s1.trans s2))⟩
end
instance (priority := low) OwnAt.atEnd {l : OO} {D : Addr} {c : OC} : OwnAt (l ++ [(D, c)]) D l c [] := ⟨rfl⟩
end Sy

/-! ### lambdas with one parameter that has a written default (a number), called without it -/
namespace LmS
open PySem PySem.Spec PyProof.Rows L2 LamX
section
variable {X : Cx} {pins : List (Addr × Obj)} {σ : L2.St} {H HZ : Hp} {s s1 : Shared}
theorem make4 {c P : Addr} {params : Arguments} {body : Expr} {scope : Scope} {pos pd : Pos} {ps : Array Value} {E : Value → Shared → Prop} {Q : Value → Shared → Prop} {n : Int} {jd : Nat} (I : Inv X pins σ H s) (TB : TabB X.base X.mg c P) (hcode : X.env.code = .ref c)
    (hP : H P = some (.tbl ps)) (ht : TriplesOk ps.toList) (ha : ∀ (pos : Pos) (cv : Value), codeAmong pos ps.toList = some cv → ∃ d, cv = .ref d ∧ H d = some (CodeO d (X.env.qual ++ "<lambda>")))
    (hdf : params.defaults = [.Constant (.int n) jd pd]) (hkd : params.kw_defaults = []) (hko : params.kwonlyargs = []) (hfree : ∀ y ∈ scope.names, y.2 = .free → ∃ c, X.env.cells.lookup y.1 = some c)
    (h : ∀ (f c' T0 : Addr) (u pm ctv doc : Value) (H1 : Hp) (s' : Shared), Inv X pins σ H1 s' → Lay H P (X.env.qual ++ "<lambda>") c' H1 → s'.heap.get? f = some (PySem.W.kdv_obj "<lambda>" (X.env.qual ++ "<lambda>") params (.expr body) scope (cloFrom X.env.cells scope.names []) (.ref T0) doc pm c' ctv) →
      H1 f = none → f ∉ frs X.stack → s'.heap.get? T0 = some (PySem.W.kdv_tup [u]) → H1 T0 = none → T0 ∉ frs X.stack → H1 c' = some (CodeO c' (X.env.qual ++ "<lambda>")) → Q (.ref f) s') :
    wpAny (model X.prog X.w) X.A (eval (.Lambda params body scope pos) X.env) Q E s := by
  have away : ∀ {H : Hp} {s : Shared}, Inv X pins σ H s → ∀ f, s.heap.objs.size ≤ f → f ∉ frs X.stack := fun {H s} I f hf z => by
    rcases List.mem_cons.mp (I.stkSub _ z) with e | e
    · exact absurd (Nat.lt_of_lt_of_le (e ▸ I.lt) hf) (by rw [e]; exact Nat.lt_irrefl _)
    · exact I.nofs hf e
  refine PySem.W.kdv_lam (by rw [hdf]; rfl) hkd ?_
  rw [hdf]
  refine PySem.W.kdv_all1 (wpAny_Constant_int (PySem.W.kdv_all0 ?_))
  rw [makeFunction_eq, hko]
  simp only [List.zip_nil_left, List.filterMap_nil, List.isEmpty_nil, List.isEmpty_cons, if_true, Bool.false_eq_true, if_false, pure_bind]
  refine wpAny_bind (wpAny_newTextTuple ?_)
  have I1 := I.tok (s.toks + 1)
  obtain ⟨u, hu⟩ : ∃ u : Value, u = .int n s.toks := ⟨_, rfl⟩
  rw [← hu]
  generalize hs0 : ({ s with toks := s.toks + 1 } : Shared) = s0 at I1 ⊢
  have I2 : Inv X pins σ H { s0 with heap := s0.heap.push (PySem.W.kdv_tup [u]) } := I1.kept (t' := s0.toks) fun b o e => Heap.get?_push_of_some _ e
  have gT : (s0.heap.push (PySem.W.kdv_tup [u])).get? s0.heap.objs.size = some (PySem.W.kdv_tup [u]) := Heap.get?_push_size _ rfl
  have nT : H s0.heap.objs.size = none := I1.hok.fresh (Nat.le_refl _)
  have fT : s0.heap.objs.size ∉ frs X.stack := away I1 _ (Nat.le_refl _)
  show wpAny _ _ (makeTail "<lambda>" (X.env.qual ++ "<lambda>") params (.expr body) scope X.env (.ref s0.heap.objs.size) .none none pos pos.line) Q E { s0 with heap := s0.heap.push (PySem.W.kdv_tup [u]) }
  generalize s0.heap.objs.size = T0 at gT nT fT ⊢
  generalize hs2 : ({ s0 with heap := s0.heap.push (PySem.W.kdv_tup [u]) } : Shared) = s2 at I2 ⊢
  have gT : s2.heap.get? T0 = some (PySem.W.kdv_tup [u]) := by rw [← hs2]; exact gT
  have bP : s2.heap.BuiltinsAt X.mg P := TB.bm.keeps I2.bk
  have oP : s2.heap.get? P = some { cls := .none, data := .fields ps } := I2.hok P _ hP
  have nTP : T0 ≠ P := fun z => by rw [z, hP] at nT; cases nT
  cases hc : codeAmong pos ps.toList with
  | some cv =>
    obtain ⟨d, rfl, hd⟩ := ha pos cv hc
    refine PySem.W.kdv_makeTailHit (mg := X.mg) (c := c) (P := P) (ps := ps) (closure_ok hfree) I2.ok.glob (I2.mod.glob.keeps I2.bk) hcode (TB.code.keeps I2.bk) oP ht hc bP fun ctv doc h' tk hx hsz => ?_
    exact h h'.objs.size d T0 u ((X.mg "__name__").getD .none) ctv doc H _ (I2.kept (t' := tk) fun b o e => Heap.get?_push_of_some _ (hx b o e)) ⟨ps, hP, .inl ⟨rfl, pos, hc⟩⟩ (Heap.get?_push_size _ rfl) (I2.hok.fresh hsz) (away I2 _ hsz) (Heap.get?_push_of_some _ (hx _ _ gT)) nT fT hd
  | none =>
    refine PySem.W.kdv_makeTail (mg := X.mg) (c := c) (P := P) (ps := ps) (closure_ok hfree) I2.ok.glob (I2.mod.glob.keeps I2.bk) hcode (TB.code.keeps I2.bk) oP ht hc TB.gP bP fun c' ctv doc h' tk hx hge hlt hrec htb => ?_
    obtain ⟨c2, oc, vs, t, e2, hoc, hd, hv⟩ := hrec
    cases e2
    have hsz : s2.heap.objs.size ≤ h'.objs.size := Nat.le_trans hge (Nat.le_of_lt hlt)
    have nC : H c' = none := I2.hok.fresh hge
    have n1 : h'.objs.size ≠ c' := Nat.ne_of_gt hlt
    have n2 : h'.objs.size ≠ P := Nat.ne_of_gt (Nat.lt_of_lt_of_le (Heap.lt_size oP) hsz)
    have n3 : T0 ≠ c' := Nat.ne_of_lt (Nat.lt_of_lt_of_le (Heap.lt_size gT) hge)
    have J := inv_table (t' := tk) (more := #[rawInt pos.line, rawInt pos.col, .ref c']) (h' := h'.push (PySem.W.kdv_obj "<lambda>" (X.env.qual ++ "<lambda>") params (.expr body) scope (cloFrom X.env.cells scope.names []) (.ref T0) doc ((X.mg "__name__").getD .none) c' ctv)) I2 hP (fun b o hb e => Heap.get?_push_of_some _ (hx b o hb e)) (Heap.get?_push_of_some _ htb) hge ⟨oc, vs, t, Heap.get?_push_of_some _ hoc, hd, hv⟩
    have eL : (ps ++ #[rawInt pos.line, rawInt pos.col, .ref c']).toList = ps.toList ++ [rawInt pos.line, rawInt pos.col, .ref c'] := by simp
    refine h h'.objs.size c' T0 u ((X.mg "__name__").getD .none) ctv doc _ _ J ⟨ps, hP, .inr ⟨nC, _, rfl, by rw [eL]; exact PySem.TriplesOk_snoc _ _ _ _ ht, fun p' cv q => ?_⟩⟩ (Heap.get?_push_size _ rfl) ?_ (away I2 _ hsz) (Heap.get?_push_of_some _ (hx _ _ nTP gT)) ?_ fT upd_same
    · rw [eL] at q
      exact among_app _ ht q
    · rw [upd_ne n1, upd_ne n2]
      exact I2.hok.fresh hsz
    · rw [upd_ne n3, upd_ne nTP]
      exact nT
/-- captured names and globals, one name of its own that the maker has not -/
structure LamD (N : List Str) (sc scope : Scope) (a : Str) : Prop where
  kind : scope.kind = .function
  co : scope.isCoroutine = false
  gen : scope.isGenerator = false
  own : ∀ y ∈ scope.names, y.2 ≠ .cell ∧ (y.2 = .local → y.1 ∉ N)
  loc : scope.names.lookup a = some .local
  free : ∀ y ∈ scope.names, y.2 = .free → sc.names.lookup y.1 = some .cell ∨ sc.names.lookup y.1 = some .free
def lamDB (N : List Str) (sc scope : Scope) (a : Str) : Bool :=
  decide (scope.kind = .function) && !scope.isCoroutine && !scope.isGenerator && decide (scope.names.lookup a = some .local) && scope.names.all fun y => !decide (y.2 = .cell) && (!decide (y.2 = .local) || !N.contains y.1) && (!decide (y.2 = .free) || decide (sc.names.lookup y.1 = some .cell) || decide (sc.names.lookup y.1 = some .free))
theorem lamD_by {N : List Str} {sc scope : Scope} {a : Str} (h : lamDB N sc scope a = true) : LamD N sc scope a := by
  unfold lamDB at h
  simp only [Bool.and_eq_true, Bool.or_eq_true, Bool.not_eq_true', decide_eq_true_eq, decide_eq_false_iff_not, List.all_eq_true] at h
  obtain ⟨⟨⟨⟨h1, h2⟩, h3⟩, h5⟩, h4⟩ := h
  refine ⟨h1, h2, h3, fun y hy => ⟨(h4 y hy).1.1, fun e z => ?_⟩, h5, fun y hy e => ?_⟩
  · rcases (h4 y hy).1.2 with q | q
    · exact q e
    · exact Bool.false_ne_true (q.symm.trans (List.contains_iff_mem.mpr z))
  · rcases (h4 y hy).2 with (z | z) | z
    · exact absurd e z
    · exact .inl z
    · exact .inr z
theorem LamD.has {X : Cx} {scope : Scope} {a : Str} (L : LamD X.N X.env.scope scope a) (ok : X.Ok) : ∀ y ∈ scope.names, y.2 = .free → ∃ c, X.env.cells.lookup y.1 = some c := fun y hy e => by
  rcases L.free y hy e with k | k
  · exact ok.has _ (.inl k)
  · exact ok.has _ (.inr k)
theorem lam_startD {A : Around} {outer : List Env} {E : XK} {scope : Scope} {f c' : Addr} {h₁ : Heap} {tk : Nat} {a : Str} {m₁ : Str → Option Value} (I : Inv X pins σ H s) (L : LamD X.N X.env.scope scope a) (e0 : Env0 X.prog X.w X.K X.mg X.base A outer s1 HZ) (hd : A.handled = none)
    (un : Un (frs X.stack) [] H HZ s.heap s1.heap) (hns : h₁.Ns s1.heap.objs.size m₁) (kp : ∀ b o, s1.heap.get? b = some o → h₁.get? b = some o) :
    Inv (lamCx X A outer s1 HZ E scope f c') [] σ HZ { s1 with heap := h₁, toks := tk } := by
  have cm : ∀ {y c}, (cloFrom X.env.cells scope.names []).lookup y = some c → X.env.cells.lookup y = some c := fun {y c} e => by
    rcases cloFrom_mem (PySem.mem_of_lookup e) with hm | ⟨h1, h2⟩
    · cases hm
    · obtain ⟨c1, hc⟩ := L.has I.ok _ h1 rfl
      have hc : X.env.cells.lookup y = some c1 := hc
      have e2 : c = c1 := by rw [h2, hc] <;> rfl
      rw [e2]
      exact hc
  have look : ∀ {y}, scope.names.lookup y = some .free → ∃ c, (cloFrom X.env.cells scope.names []).lookup y = some c := fun {y} hl => mem_lookup (cloFrom_has (cells := X.env.cells) (acc := []) (PySem.mem_of_lookup hl))
  have cellK : ∀ {c : Addr} {v : Option Value}, H c = none → s.heap.IsCell c v → h₁.IsCell c v := fun {c v} n ⟨o, ho, hd⟩ => by
    obtain ⟨sl, q⟩ := un.any ho n (by simp)
    exact ⟨_, kp _ _ q, hd⟩
  have noA : ∀ b : Addr, b ∉ (lamCx X A outer s1 HZ E scope f c').ex := fun b z => absurd (show b ∈ ([] : List Addr) from z) (by simp)
  refine ⟨⟨e0.mod, L.kind, rfl, rfl, Nat.le_refl _, fun y z c e1 e2 => I.ok.inj y z c (cm e1) (cm e2), fun y hy => ?_, (fun y c z _ => nomatch (show false = true from z)), fun _ => hd, Around.frames_deeper e0.frames, .inr ⟨rfl, rfl⟩, (fun b z => absurd z (noA b)), e0.bs, e0.bsz, (fun b _ _ => noA b), (fun b z => absurd z (noA b)), e0.funs, e0.frf⟩,
    rfl, e0.bare, Un.kept kp, ⟨_, hns, fun i y v e1 e2 e3 => ?_⟩, fun y c e => ?_, e0.hok.fresh (Nat.le_refl _), fun y c e => ?_, (fun q hq => absurd (show q ∈ ([] : List (Addr × Obj)) ++ [] from hq) (by simp)), e0.hok.kept kp, I.len⟩
  · have hy : scope.names.lookup y = some .cell ∨ scope.names.lookup y = some .free := hy
    rcases hy with hy | hy
    · exact absurd rfl (L.own _ (PySem.mem_of_lookup hy)).1
    · exact look hy
  · have e3 : Vis scope y := e3
    have e1 : X.N[i]? = some y := e1
    rcases e3 with k | k | k
    · exact absurd (List.mem_of_getElem? e1) ((L.own _ (PySem.mem_of_lookup k)).2 rfl)
    · exact absurd rfl (L.own _ (PySem.mem_of_lookup k)).1
    · obtain ⟨m, hn, hl⟩ := I.loc
      have hvis : Vis X.env.scope y := (L.free _ (PySem.mem_of_lookup k) rfl).elim (fun k => .inr (.inl k)) (fun k => .inr (.inr k))
      obtain ⟨w', r, q⟩ := hl i y v e1 e2 hvis
      obtain ⟨c2, h2⟩ := look k
      refine ⟨w', r, .inr ⟨.inr k, c2, h2, ?_⟩⟩
      have c1 := cm h2
      rcases q with ⟨k', _⟩ | ⟨_, c3, e', z⟩
      · have k' : X.env.scope.names.lookup y = some .local := k'
        rcases L.free _ (PySem.mem_of_lookup k) rfl with k2 | k2 <;> rw [show X.env.scope.names.lookup y = _ from k2] at k' <;> cases k'
      · rw [c1] at e'
        cases e'
        exact cellK (I.freeC y _ c1) z
  · obtain ⟨w', z⟩ := I.cell y c (cm e)
    exact ⟨w', cellK (I.freeC y c (cm e)) z⟩
  · obtain ⟨v, o, ho, hd⟩ := I.cell y c (cm e)
    exact un.free c o ho (I.freeC y c (cm e)) (by simp)
theorem pe_act4 {CXg : CXT} {Eg : XK} {Ng : List Str} {qg : Str} {sg : Scope} {g f c' T0 : Addr} {cdg pm ctv doc u0 : Value} {params : Arguments} {body : Expr} {scope : Scope} {k i : Nat} {a d : Str} {pn : List (Addr × Obj)} {xe : Value → Shared → Prop} {W : WX} {tb : XK → TE} {p1 p2 : Pos}
    (I : Inv X pins σ H s) (L : LamD X.N X.env.scope scope d) (hf : s.heap.get? f = some (PySem.W.kdv_obj "<lambda>" (X.env.qual ++ "<lambda>") params (.expr body) scope (cloFrom X.env.cells scope.names []) (.ref T0) doc pm c' ctv)) (hfn : H f = none) (hfr : f ∉ frs X.stack)
    (hT : s.heap.get? T0 = some (PySem.W.kdv_tup [u0])) (nT : H T0 = none) (fT : T0 ∉ frs X.stack)
    (hbind : ∀ s : Shared, s.heap.get? T0 = some (PySem.W.kdv_tup [u0]) → BindsTo s (PySem.W.kdv_fn "<lambda>" (X.env.qual ++ "<lambda>") params (.expr body) scope (cloFrom X.env.cells scope.names []) (.ref T0) doc pm (.ref c') ctv) ⟨[], []⟩ [(d, u0)])
    (tk : Takes ((cxOf CXg X.prog X.w X.K X.mg X.base Ng qg sg g cdg X.A X.stack s H Eg).tr pn xe) W) (hr : Room (k + 1) (X.A.deeper (envOfC qg sg s.heap.objs.size g cdg)))
    (hbody : ∀ (A : Around) (outer : List Env) (s : Shared) (H : Hp) (E : XK), Room k (A.deeper (lamEnv X scope s.heap.objs.size f c')) → PE (lamCx X A outer s H E scope f c') body (tb E))
    (hN : Ng[i]? = some a) (hv : Vis sg a) (hd : (a == ("__debug__" : Str)) = false := by decide) (hcd : (a == ("__classdict__" : Str)) = false := by decide) :
    PE ((cxOf CXg X.prog X.w X.K X.mg X.base Ng qg sg g cdg X.A X.stack s H Eg).tr pn xe) (.Call (.Name a p1) [] [] p2) (tAct i f c' (X.env.qual ++ "<lambda>") (fun E H' Q' => tb E σ H' Q') W) := by
  refine ⟨fun pZ sZ σZ HZ Q IZ ⟨h1, h2, h3⟩ => ?_⟩
  refine wpAny_Call_Name_kw (thn ((pe_var (pos := p1) (i := i) hN hv hd hcd).run pZ sZ σZ HZ (fun v H1 => v = .ref f ∧ H1 = HZ) IZ ⟨.ref f, h1, rfl, rfl⟩) fun u s1 ⟨v, H1, I1, r1, ev, eH⟩ => ?_)
  subst ev
  rw [eH] at I1
  cases r1
  have of1 : s1.heap.get? f = some (PySem.W.kdv_obj "<lambda>" (X.env.qual ++ "<lambda>") params (.expr body) scope (cloFrom X.env.cells scope.names []) (.ref T0) doc pm c' ctv) := I1.base.keep f _ hf hfn hfr (fun z => nomatch (show f ∈ ([] : List Addr) from z))
  have oT1 : s1.heap.get? T0 = some (PySem.W.kdv_tup [u0]) := I1.base.keep T0 _ hT nT fT (fun z => nomatch (show T0 ∈ ([] : List Addr) from z))
  refine PySem.W.callWith_F0 ⟨_, _, _, _, of1⟩ ?_
  have un : Un (frs X.stack) [] H HZ s.heap s1.heap := I1.base
  obtain ⟨⟨oc, vs, t, hoc, hdc, hvc⟩, _, _⟩ := I1.hok c' _ h2
  have rc : codeAny (model X.prog X.w) (X.A.deeper (envOfC qg sg s.heap.objs.size g cdg)) (.call (.ref f) ⟨[], []⟩) (CR (L2.CX X.prog X.w) (envOfC qg sg s.heap.objs.size g cdg :: X.stack) X.prog X.w HZ s1 Q (WE W σZ)) s1 := by
    refine PySem.W.kla_callFunE hr.depth of1 rfl L.co L.gen rfl ⟨c', oc, vs, t, rfl, hoc, hdc, hvc⟩ (hbind s1 oT1 _ _ _ _ ?_)
    refine wpAny_newFunctionEnv (fun y hy => (L.own y hy).1) (fun y hy => by rw [List.mem_singleton.mp hy]; exact L.loc) (fun g1 hns hsb => ⟨I1.nolimit.fresh _ hsb, ?_⟩) L.kind
    have kp : ∀ b o, s1.heap.get? b = some o → g1.get? b = some o := fun b o e => hsb.extBut b o (Nat.ne_of_lt (Heap.lt_size e)) (Heap.get?_push_of_some _ e)
    have J : Inv (lamCx X (X.A.deeper (envOfC qg sg s.heap.objs.size g cdg)) (envOfC qg sg s.heap.objs.size g cdg :: X.stack) s1 HZ (WE W σZ) scope f c') [] σ HZ { s1 with heap := g1, toks := s1.toks + [(d, u0)].length } := lam_startD I L I1.env0 hr.hd un hns kp
    refine PySem.W.kla_codeExpr (wpAny_mono ((hbody _ _ s1 HZ (WE W σZ) (hr.deeper _)).run [] _ _ HZ Q J h3) (fun v s' ⟨w', H', J', rv, q⟩ => ?_) fun e s' hq => hq)
    exact ⟨w', H', J'.os, J'.bare, J'.base, J'.hok, rv, q⟩
  have hx := passAt tk σZ
  refine wpAny_call (codeAny_mono rc fun r s' hq => ?_)
  match r, hq with
  | .error e, hq => exact hx pZ HZ s1 e s' I1 hq
  | .ok (.ret u), hq => exact I1.after hq
  | .ok .next, hq => exact hq.elim
  | .ok .brk, hq => exact hq.elim
  | .ok .cont, hq => exact hq.elim
end
/-- x(lambda d=n: body) -/
theorem pe_lamD {X : Cx} {TT : (XK → Hp → VK → Prop) → Addr → Addr → Hp → VK → Prop} {x a d : Str} {st : Stmt} {g c P : Addr} {j : Nat} {fd : FuncData} {Ng : List Str} {params : Arguments} {body : Expr} {scope : Scope} {t : XK → TE} {p lpos pos pd : Pos} {n : Int} {jd : Nat}
    (hg : Gl X x) (hm : X.mg x = some (.ref g)) (hk : PySem.W.keepIn X.K (.ref g) = true) (F : Fun X.K x x st g fd) (hb : L2.Binds X.K fd [a] []) (Sg : FnScope Ng [a] (defScope st)) (hNg : Ng[0]? = some a) (hva : Vis (defScope st) a)
    (hG : ∀ cdv : Value, Gives X.prog X.w X.K X.mg X.base X.A X.stack j Ng x (defScope st) g cdv (defBody st) a (X.env.qual ++ "<lambda>") TT)
    (TB : TabB X.base X.mg c P) (hcode : X.env.code = .ref c) (hr : Room (j + 2) X.A) (L : LamD X.N X.env.scope scope d) (hdf : params.defaults = [.Constant (.int n) jd pd]) (hkd : params.kw_defaults = []) (hko : params.kwonlyargs = [])
    (hbind : ∀ (q : Str) (cl : List (Str × Addr)) (T0 : Addr) (u doc pm cv ctv : Value) (s : Shared), s.heap.get? T0 = some (PySem.W.kdv_tup [u]) → BindsTo s (PySem.W.kdv_fn "<lambda>" q params (.expr body) scope cl (.ref T0) doc pm cv ctv) ⟨[], []⟩ [(d, u)])
    (hbody : ∀ (A : Around) (outer : List Env) (s : Shared) (H : Hp) (E : XK) (f c' : Addr), Room j (A.deeper (lamEnv X scope s.heap.objs.size f c')) → PE (lamCx X A outer s H E scope f c') body (t E))
    (hdb : (x == ("__debug__" : Str)) = false := by decide) (hd : (a == ("__debug__" : Str)) = false := by decide) (hcd : (a == ("__classdict__" : Str)) = false := by decide) :
    PE X (.Call (.Name x p) [.Lambda params body scope lpos] [] pos) (tLam P (X.env.qual ++ "<lambda>") TT t) := by
  obtain ⟨oc, od, kV, doc, pm0, an, cdv, ct, osl, rfl, lk, hcg⟩ := F.ex
  refine ⟨fun pins s σ H Q I ⟨⟨ps, hP, ht, ha⟩, h⟩ => wpAny_Call_Name_kw (ld_glob I hg hm ?_ hdb)⟩
  refine PySem.W.callWith_K (h₀ := X.base) I.ok.mod.kin hk ?_ (by rfl) (by rfl)
  show wpAny _ _ (spliced ((false, eval (.Lambda params body scope lpos) X.env) :: backTo pos (starEach [] X.env))) _ _ s
  refine Calls.spliced_cons (make4 I TB hcode hP ht ha hdf hkd hko (L.has I.ok) fun f c' T0 u pm ctv doc H1 s' I1 ly hf hfn hfr hT nT fT hco => Calls.spliced_nil ⟨I1.kIn, ?_⟩)
  have rc : codeAny (model X.prog X.w) X.A (.call (.ref g) ⟨[.ref f], []⟩) (CR C8.CX0 X.stack X.prog X.w H1 s' Q C8.E0) s' := by
    refine run_ofS (N := Ng) (ps := [a]) (us := [.ref f]) (vs := [.ref f]) lk hcg Sg (hr : Room ((j + 1) + 1) X.A) I1.env0 (hb s' [.ref f] I1.kIn rfl) (.cons rfl .nil) rfl fun hr' => ?_
    obtain ⟨t', ht', hq'⟩ := hG cdv f c' s' H1 Q (fun E H' Q' => t E σ H' Q') (hr'.mono (Nat.le_succ j)) (fun W pn xe p1 p2 tk => pe_act4 (i := 0) I1 L hf hfn hfr hT nT fT (fun s hs => hbind _ _ _ _ _ _ _ _ s hs) tk hr' (fun A outer s H E hr2 => hbody A outer s H E f c' hr2) hNg hva hd hcd) (h f c' H1 ly hco)
    exact ⟨t', ht'.nox, hq'⟩
  refine wpAny_call (codeAny_mono rc fun r s2 hq => ?_)
  match r, hq with
  | .error e, hq => exact (show False from hq).elim
  | .ok (.ret u), hq => exact I1.after hq
  | .ok .next, hq => exact hq.elim
  | .ok .brk, hq => exact hq.elim
  | .ok .cont, hq => exact hq.elim
end LmS

/-! ### str(x) of a text, or of data -/
namespace SxS
open PySem PySem.Spec PyProof.Rows L2
section
variable {X : Cx}
def rStrX (K : PySem.W.Frag) : List V → Hp → VK → Prop := fun xs H Q => ∃ v : V, xs = [v] ∧ ((∃ a, v = .str a ∧ Q (.str a) H) ∨ ∃ d : PyData, (∀ a, v ≠ .str a) ∧ Sy.Dxx K H v d ∧ d.showable = true ∧ d.depth ≤ 60 ∧ d.shown.length ≤ sizeLine ∧ Q (.str d.shown) H)
theorem call_strX (K : PySem.W.Frag) (hK : X.K = K) (gd : X.A.guards = some []) (hu : X.A.units + 64 < cLine) : CallR X (.type "str") (rStrX K) := by
  subst hK
  intro pins s σ H xs us Q I r h
  obtain ⟨v, rfl, h⟩ := h
  obtain ⟨u, rfl, ru⟩ := vals1 r
  rcases h with ⟨a, rfl, q⟩ | ⟨d, hv, hd, hs, hp, hz, q⟩
  · obtain ⟨t, rfl⟩ := ru
    exact PySem.P.str_of_str ⟨.str a, H, I, ⟨t, rfl⟩, q⟩
  obtain ⟨as, rd, hn⟩ := hd.reads I ru
  cases rd with
  | none =>
    refine P.str_of_none ⟨.str _, H, I.tok _, ⟨_, rfl⟩, ?_⟩
    simpa only [PyData.shown] using q
  | bool b =>
    refine P.str_of_bool ⟨.str _, H, I.tok _, ⟨_, rfl⟩, ?_⟩
    simpa only [PyData.shown] using q
  | int i t =>
    refine P.str_of_int (by simpa only [PyData.showable, decide_eq_true_eq] using hs) ⟨.str _, H, I.tok _, ⟨_, rfl⟩, ?_⟩
    simpa only [PyData.shown] using q
  | str x t =>
    exfalso
    cases v with
    | str y => exact hv y rfl
    | non => cases (show _ = Value.none from ru)
    | bl b => cases (show _ = Value.bool b from ru)
    | int i => obtain ⟨_, e⟩ := (show ∃ t, _ = Value.int i t from ru); cases e
    | byt b => obtain ⟨_, e⟩ := (show ∃ t, _ = Value.bytes b t from ru); cases e
    | flt b => obtain ⟨_, e⟩ := (show ∃ t, _ = Value.float b t from ru); cases e
    | ref a => cases (show _ = Value.ref a from ru)
    | ty n => cases (show _ = Value.type n from ru)
  | list h1 h2 h3 h4 =>
    refine PySem.str_of_reads (.list h1 h2 h3 h4) hs hn gd (by omega) (fun _ _ z => z) (fun h' u tk hk => ?_) hz
    exact ⟨.str _, H, I.kept hk, ⟨u, rfl⟩, q⟩
  | tuple h1 h2 h3 h4 =>
    refine PySem.str_of_reads (.tuple h1 h2 h3 h4) hs hn gd (by omega) (fun _ _ z => z) (fun h' u tk hk => ?_) hz
    exact ⟨.str _, H, I.kept hk, ⟨u, rfl⟩, q⟩
  | dict h1 h2 h3 h4 h5 =>
    refine PySem.str_of_reads (.dict h1 h2 h3 h4 h5) hs hn gd (by omega) (fun _ _ z => z) (fun h' u tk hk => ?_) hz
    exact ⟨.str _, H, I.kept hk, ⟨u, rfl⟩, q⟩
end
end SxS
namespace Sy
open PySem PySem.Spec PyProof.Rows L2
open SX (S S_len S_cat S_inj)
section
variable {K : PySem.W.Frag} {O : OO} {k : As → OO → Prop} {A : As} {d : PyData} {e b : Nat}
theorem v_strT {l : List Nat} (q : k (tx l) O) : Vn O (SxS.rStrX K) [tx l] k := fun E G0 H0 G H Q vs f a zz => by
  cases a with
  | cons a r =>
    cases r
    obtain rfl : _ = V.str (S l) := a
    exact ⟨_, rfl, .inl ⟨_, rfl, zz _ _ _ _ _ q f (Same.refl _) rfl⟩⟩
theorem odd_ns (h : OddA K "str" A) {E : List Addr} {G0 H0 G H : Hp} {v : V} (f : Fr E G0 H0 O G H) (a : A.p G v) : ∀ x, v ≠ .str x := fun x z => by
  obtain ⟨T, h1, h2⟩ := h
  have := h2 O _ _ _ _ _ _ f a
  subst z
  cases this with
  | base t =>
    cases t
    revert h1
    decide +kernel
theorem v_strX (hn : OddA K "str" A) (h1 : IsX K A d) (s : d.showable = true ∧ d.depth ≤ 60) (hz : d.shown.length ≤ sizeLine) (q : k (tx (shw d)) O) : Vn O (SxS.rStrX K) [A] k := fun E G0 H0 G H Q vs f a zz => by
  cases a with
  | cons a r =>
    cases r
    refine ⟨_, rfl, .inr ⟨d, odd_ns hn f a, h1 _ _ _ f.gh a, s.1, s.2, hz, ?_⟩⟩
    rw [← S_eta d.shown]
    exact zz _ _ _ _ _ q f (Same.refl _) rfl
theorem v_strD (hn : OddA K "str" A) (h : ShD K A d e b) (he : e ≤ 60) (hb : b ≤ 1000000) (q : k (tx (shw d)) O) : Vn O (SxS.rStrX K) [A] k :=
  v_strX hn (isX_of h.is h.nd) ⟨h.sh, Nat.le_trans h.dp he⟩ (PyData.shown_fits_bulk (B := 13) (by decide) (by decide) h.lf (Nat.le_trans h.bk (Nat.le_trans hb (by decide)))) q
end
end Sy

/-! ### keywords in any order, some lacking -/
theorem vals_dt : ∀ {vs : List V} {us : List Value}, Vals vs us → ∀ i : Nat, Vals ((vs.drop i).take 1) ((us.drop i).take 1)
  | _, _, .nil, i => by rw [List.drop_nil, List.drop_nil]; exact .nil
  | _, _, .cons a t, 0 => .cons a .nil
  | _, _, .cons a t, i + 1 => vals_dt t i
/-! ### methods of own classes: o.m(e, ..) as a call whose first argument is guarded -/
namespace MthS
open PySem PySem.Spec PyProof.Rows L2
def tGuard (C : Addr) (m : Str) (ta : TE) : TE := fun σ H Q => ta σ H fun x H1 => ∃ a dx fs, x = V.ref a ∧ H1 a = some (.ins C dx fs) ∧ fs.lookup m = none ∧ Q x H1
section
variable {X : Cx} {CX : CXT} {k : Nat} {f C : Addr} {fd : FuncData} {ps : List Str} {sp : Sp} {dvs : List V} {ds : List Value} {m : Str} {pos apos : Pos} {e o : Expr} {es : List Expr} {ta : TE} {t : TA}
theorem pe_m {E : XK} {pl : Sem Bool} (he : PE X o ta) (c : Cls X.K C) (hm : Meth X.K C m f) (F : FnOk X.prog X.w X.K X.mg X.base CX k f fd ps sp) (hr : Room k X.A) (hb : Binds X.K fd ps []) (hx : Passes CX X E) (ha : PA X (e :: es) t)
    (hst : starEach (e :: es) X.env = (false, eval e X.env) :: starEach es X.env := by rfl) (hpl : (backTo pos (starEach es X.env)).any (·.1) = false := by rfl)
    (ht : eval (.Call (.Attribute o m apos) (e :: es) [] pos) X.env = (do
      let ov ← eval o X.env
      standAt apos.atName
      let (f, first) ← holding [ov] (getMethod ov m pl)
      callWith pos f first (backTo pos (starEach (e :: es) X.env)) (backToKw pos (keywordEach [] X.env))) := by rfl) :
    PE X (.Call (.Attribute o m apos) (e :: es) [] pos) (tCall sp [] E (tCons (tGuard C m ta) t)) :=
  L2.pe_meth he c hm F hr hb .nil hx ha hst hpl ht
theorem pe_m0 {E : XK} {pl : Sem Bool} (he : PE X o ta) (c : Cls X.K C) (hm : Meth X.K C m f) (F : FnOk X.prog X.w X.K X.mg X.base CX k f fd ps sp) (hr : Room k X.A) (hb : Binds X.K fd ps []) (hx : Passes CX X E)
    (ht : eval (.Call (.Attribute o m apos) [] [] pos) X.env = (do
      let ov ← eval o X.env
      standAt apos.atName
      let (f, first) ← holding [ov] (getMethod ov m pl)
      callWith pos f first (backTo pos (starEach [] X.env)) (backToKw pos (keywordEach [] X.env))) := by rfl) :
    PE X (.Call (.Attribute o m apos) [] [] pos) (tCall sp [] E (tCons (tGuard C m ta) tNil)) :=
  L2.pe_meth0 he c hm F hr hb .nil hx ht
/-- .. that may raise -/
theorem pe_mS {E : L2.St → XK} {pl : Sem Bool} (he : PE X o ta) (c : Cls X.K C) (hm : Meth X.K C m f) (F : FnOk X.prog X.w X.K X.mg X.base CX k f fd ps sp) (hr : Room k X.A) (hb : Binds X.K fd ps []) (hx : ∀ σ, PassesAt CX X σ (E σ)) (ha : PA X (e :: es) t)
    (hst : starEach (e :: es) X.env = (false, eval e X.env) :: starEach es X.env := by rfl) (hpl : (backTo pos (starEach es X.env)).any (·.1) = false := by rfl)
    (ht : eval (.Call (.Attribute o m apos) (e :: es) [] pos) X.env = (do
      let ov ← eval o X.env
      standAt apos.atName
      let (f, first) ← holding [ov] (getMethod ov m pl)
      callWith pos f first (backTo pos (starEach (e :: es) X.env)) (backToKw pos (keywordEach [] X.env))) := by rfl) :
    PE X (.Call (.Attribute o m apos) (e :: es) [] pos) (L2.tCallS sp E (tCons (tGuard C m ta) t)) := by
  refine ⟨fun pins s σ H Q I h => ?_⟩
  refine PySem.W.methodCall_KW (pl := pl) (thn (he.run pins s σ H _ I h) fun u s1 ⟨x, H1, I1, rx, a, dx, fs, ex, ea, l, q⟩ => ?_) ht
  subst ex
  obtain rfl : u = Value.ref a := rx
  refine getmeth_ok I1 ea c hm l ?_
  refine PySem.W.callWith_K (first := [.ref a]) (h₀ := X.base) I.ok.mod.kin hm.kp (thn (ha.run pos pins s1 σ H1 _ I1 q) fun us s2 ⟨vs, H2, I2, r, q2⟩ => ⟨I2.kIn, ?_⟩) hst hpl
  exact run_fnS (us := .ref a :: us) (vs := .ref a :: vs) F hr hb (hx σ) I2 (.cons rfl r) q2
end
end MthS
namespace Sy
open PySem PySem.Spec PyProof.Rows L2
/-- an instance of the class at C without a field m -/
def InsN (A : As) (O : OO) (C : Addr) (m : Str) : Prop := ∀ (E : List Addr) (G0 H0 G H : Hp) (x : V), Fr E G0 H0 O G H → A.p G x → ∃ a dx vs, x = .ref a ∧ H a = some (.ins C dx vs) ∧ vs.lookup m = none
theorem InsN.ins {C : Addr} {fs : List (Str × As)} {O : OO} {m : Str} (h : fs.lookup m = none) : InsN (Sy.ins C fs) O C m := fun E G0 H0 G H x fr a => by
  obtain ⟨p, dx, vs, h1, h2, h3⟩ := a
  exact ⟨p, dx, vs, h1, fr.gh _ _ h2, h3.noLook h⟩
theorem Go.guard {L : LL} {O : OO} {ta : TE} {k : As → OO → Prop} {C : Addr} {m : Str} (h : Go L O ta fun A O1 => InsN A O1 C m ∧ k A O1) : Go L O (MthS.tGuard C m ta) k := fun E G0 H0 σ G H Q fr s z =>
  h _ _ _ _ _ _ _ fr s fun A O1 G1 H1 x hk f1 s1 a => by
    obtain ⟨hi, hk⟩ := hk
    obtain ⟨p, dx, vs, e1, e2, e3⟩ := hi _ _ _ _ _ _ f1 a
    exact ⟨p, dx, vs, e1, e2, e3, z _ _ _ _ _ hk f1 s1 a⟩
end Sy
namespace Sy
open PySem PySem.Spec PyProof.Rows L2
theorem All2.dt {G : Hp} : ∀ {l : List As} {vs : List V}, All2 G l vs → ∀ i : Nat, All2 G ((l.drop i).take 1) ((vs.drop i).take 1)
  | _, _, .nil, i => by rw [List.drop_nil, List.drop_nil]; exact .nil
  | _, _, .cons a t, 0 => .cons a .nil
  | _, _, .cons a t, i + 1 => All2.dt t i
end Sy

/-! ### {t: v} with a tuple as the key; repr of a dict -/
/-- {t: v}: the new dict stands empty while the pair is made -/
def tDispT (tk tv : TE) : TE := fun σ H Q => ∀ p, H p = none → tk σ (upd H p (.dT [])) fun x H1 => tv σ H1 fun y H2 => H2 p = some (.dT []) ∧ ∃ (ks : List Key) (b : Addr), x = .ref b ∧ H2 b = some (.tup (ks.map kV)) ∧ Q (.ref p) (upd H2 p (.dT [(ks, y)]))
theorem pe_dispT {X : Cx} {pos : Pos} {k v : Expr} {tk tv : TE} (hu : X.A.units + 64 < cLine) (hk : PE X k tk) (hv : PE X v tv) : PE X (.Dict [some k] [v] pos) (tDispT tk tv) := by
  refine ⟨fun pins s σ H Q I q => ?_⟩
  have hn := I.hok.fresh (Nat.le_refl s.heap.objs.size)
  have I1 := I.laid (a := s.heap.objs.size) (o := .dT []) (h' := s.heap.push { cls := .type "dict", data := .dict #[] }) (t' := s.toks) (fun _ _ q => Heap.get?_push_of_some _ q) (Nat.le_refl _) (dt_empty s.heap I.big)
  refine wpAny_Dict_any rfl rfl (by simp) (by simp) (pairTrees_cons_walk (thn (hk.run pins _ σ _ _ I1 (q _ hn)) fun u s1 ⟨x, H1, I1, rx, q1⟩ => thn (hv.run pins s1 σ H1 _ I1 q1) fun w2 s2 ⟨y, H2, I2, ry, q2⟩ => pairTrees_nil_walk ?_))
  obtain ⟨e, ks, b, rfl, eb, q2⟩ := q2
  obtain rfl : u = Value.ref b := rx
  obtain ⟨z, hd, xs, rel, dd⟩ := dt_of I2.hok e
  have ex : xs = [] := by
    cases xs with
    | nil => rfl
    | cons y ys => cases rel
  subst ex
  unfold storeAll
  rw [List.forIn_cons]
  refine wpAny_bind (wpAny_bind (wpAny_dictSet_heap (hsz := by simp) (knd := tupleKind (mixKind X.prog X.w)) (show X.A.units < cLine by omega) (key_of I2.hok eb) dd fun h' dd' hs => wpAny_pure ?_))
  dsimp only
  rw [List.forIn_nil]
  obtain ⟨o, es, ep, hq, h2, h3, h4, _, h5⟩ := dd'
  refine wpAny_pure ⟨.ref s.heap.objs.size, _, d_write (ob := .dT [(ks, y)]) I2 (by rw [e]; exact True.intro) hs ⟨o, hq⟩ ⟨(by rw [sizeLine_eq]; show 1 ≤ _; omega), hd, _, ((KT.put (kvs := []) rel ks eb ry)).keeps fun c ys ec => ?_, o, es, ep, hq, h2, h3, h4, h5⟩, rfl, q2⟩
  rw [upd_ne (ne_of ec e (fun z => nomatch z))]
  exact ec
namespace Sy
open PySem PySem.Spec PyProof.Rows L2
open SX (S S_len S_cat S_inj)
section
variable {K : PySem.W.Frag} {L : LL} {O : OO} {k : As → OO → Prop} {te tv : TE} {ta : TA}
/-- a tuple that was just made -/
def tupH (xs : List As) : As := ⟨fun G v => ∃ a vs, v = .ref a ∧ G a = some (.tup vs) ∧ All2 G xs vs, fun e h => by
  obtain ⟨a, vs, h1, h2, h3⟩ := h
  exact ⟨a, vs, h1, e _ _ h2, h3.m e⟩⟩
theorem Go.tupH (h : GoA L O ta fun l O1 => l.length ≤ 100000 ∧ k (Sy.tupH l) O1) : Go L O (tTup ta) k := fun E G0 H0 σ G H Q f s z =>
  h _ _ _ _ _ _ _ f s fun l O1 G1 H1 vs hk f1 s1 a => ⟨a.sz hk.1, fun p np => by
    have e := Ext.new (o := .tup vs) f1.gh np
    exact z _ _ _ _ _ hk.2 (f1.ext e) (s1.trans e.g) ⟨p, vs, rfl, upd_same, a.m e.g⟩⟩
theorem Go.varH {i : Nat} {xs : List As} (h : L[i]? = some (some (Sy.tupH xs))) (q : k (Sy.tup K xs) O) : Go L O (tVar i) k := fun E G0 H0 σ G H Q f s z => by
  obtain ⟨v, h1, a, vs, e, h2, h3⟩ := s.get h
  exact ⟨v, h1, z _ _ _ _ _ q f (Same.refl _) ⟨a, vs, e, .inl (.inl h2), h3⟩⟩
/-- a dict with tuples as keys -/
def dctT : As := ⟨fun G v => ∃ a kvs, v = .ref a ∧ G a = some (.dT kvs), fun e h => by
  obtain ⟨a, kvs, h1, h2⟩ := h
  exact ⟨a, kvs, h1, e _ _ h2⟩⟩
theorem tx_dT : TyXA K dctT O (.type "dict") := fun E G0 H0 G H x f a => by
  obtain ⟨d, kvs, rfl, h1⟩ := a
  exact .base (.dT (f.gh _ _ h1))
theorem Go.dispT {v : V} {i : Nat} {ls : List (List Nat)} (h : L[i]? = some (some (Sy.tupH (ls.map tx)))) (q : k dctT O) : Go L O (tDispT (tVar i) (tC v)) k := fun E G0 H0 σ G H Q f s z p np => by
  obtain ⟨u, h1, a, vs, rfl, h2, h3⟩ := s.get h
  have e1 := Ext.new (o := .dT []) f.gh np
  have ne : a ≠ p := fun z => by rw [z, f.gh.free np] at h2; cases h2
  refine ⟨_, h1, upd_same, ls.map fun l => .inr (S l), a, rfl, ?_, ?_⟩
  · rw [upd_ne ne]
    rw [show vs = (ls.map vS) from All2.map.mp h3] at h2
    rw [f.gh _ _ h2, List.map_map]
    rfl
  · have e2 : upd (upd H p (.dT [])) p (.dT [(ls.map fun l => .inr (S l), v)]) = upd H p (.dT [(ls.map fun l => .inr (S l), v)]) := by
      funext b
      by_cases hb : b = p
      · rw [hb, upd_same, upd_same]
      · rw [upd_ne hb, upd_ne hb, upd_ne hb]
    rw [e2]
    have e3 := Ext.new (o := .dT [(ls.map fun l => .inr (S l), v)]) f.gh np
    exact z _ _ _ _ _ q (f.ext e3) e3.g ⟨p, _, rfl, upd_same⟩
theorem ShDs.le {K : PySem.W.Frag} {xs : List As} {ds : List PyData} {e b e' b' : Nat} (h : ShDs K xs ds e b) (h1 : e ≤ e') (h2 : b ≤ b') : ShDs K xs ds e' b' := ⟨h.is, h.nd, h.sh, h.lf, h.sp, Nat.le_trans h.dp h1, Nat.le_trans h.bk h2⟩
/-! repr of values without lists, with dicts -/
def IsY (K : PySem.W.Frag) (A : As) (d : PyData) : Prop := ∀ G H v, Same G H → A.p G v → Dx K H v d
theorem IsY.x {A : As} {d : PyData} (h : IsY K A d) : IsX K A d := fun G H v e a => .inr (h G H v e a)
inductive IsYs (K : PySem.W.Frag) : List As → List PyData → Prop
  | nil : IsYs K [] []
  | cons {A : As} {l : List As} {d : PyData} {ds : List PyData} : IsY K A d → IsYs K l ds → IsYs K (A :: l) (d :: ds)
theorem IsYs.all {G H : Hp} (e : Same G H) : ∀ {xs : List As} {ds : List PyData} {vs : List V}, IsYs K xs ds → All2 G xs vs → DxAll K H vs ds
  | _, _, _, .nil, .nil => .nil
  | _, _, _, .cons h t, .cons a r => .cons (h _ _ _ e a) (IsYs.all e t r)
inductive IsYk (K : PySem.W.Frag) : List (Key × As) → List (PyData × PyData) → Prop
  | nil : IsYk K [] []
  | cons {ky : Key} {A : As} {l : List (Key × As)} {d : PyData} {ds : List (PyData × PyData)} : IsY K A d → IsYk K l ds → IsYk K ((ky, A) :: l) ((keyD ky, d) :: ds)
theorem IsYk.all {G H : Hp} (e : Same G H) : ∀ {xs : List (Key × As)} {ds : List (PyData × PyData)} {vs : List (Key × V)}, IsYk K xs ds → AllK G xs vs → DxKV K H vs ds
  | _, _, _, .nil, .nil => .nil
  | _, _, _, .cons h t, .cons a r => .cons (h _ _ _ e a) (IsYk.all e t r)
structure ShY (K : PySem.W.Frag) (A : As) (d : PyData) (e b : Nat) : Prop where
  is : IsY K A d
  sh : d.showable = true
  lf : d.leavesShort 13 = true
  dp : d.depth ≤ e
  bk : d.bulk ≤ b
structure ShYs (K : PySem.W.Frag) (xs : List As) (ds : List PyData) (e b : Nat) : Prop where
  is : IsYs K xs ds
  sh : PyData.showableAll ds = true
  lf : PyData.leavesShortAll 13 ds = true
  dp : PyData.depthAll ds ≤ e
  bk : PyData.bulkAll ds ≤ b
structure ShYk (K : PySem.W.Frag) (xs : List (Key × As)) (ds : List (PyData × PyData)) (e b : Nat) : Prop where
  is : IsYk K xs ds
  sh : PyData.showableKv ds = true
  lf : PyData.leavesShortKv 13 ds = true
  dp : PyData.depthKv ds ≤ e
  bk : PyData.bulkKv ds ≤ b
variable {A : As} {xs : List As} {d : PyData} {ds : List PyData} {e b e' b' : Nat}
theorem ShY.le (h : ShY K A d e b) (h1 : e ≤ e') (h2 : b ≤ b') : ShY K A d e' b' := ⟨h.is, h.sh, h.lf, Nat.le_trans h.dp h1, Nat.le_trans h.bk h2⟩
theorem ShYs.le (h : ShYs K xs ds e b) (h1 : e ≤ e') (h2 : b ≤ b') : ShYs K xs ds e' b' := ⟨h.is, h.sh, h.lf, Nat.le_trans h.dp h1, Nat.le_trans h.bk h2⟩
theorem ShY.no : ShY K no .none 0 0 := ⟨fun G H v _ h => by rw [show v = V.non from h]; exact .non, ShD.no.sh (K := K), ShD.no.lf (K := K), ShD.no.dp (K := K), ShD.no.bk (K := K)⟩
theorem ShY.bo {x : Bool} : ShY K (bo x) (.bool x) 0 0 := ⟨fun G H v _ h => by rw [show v = V.bl x from h]; exact .bl _, ShD.bo.sh (K := K), ShD.bo.lf (K := K), ShD.bo.dp (K := K), ShD.bo.bk (K := K)⟩
theorem ShY.tx {l : List Nat} (h : ∀ c ∈ l, c < 128) : ShY K (tx l) (.str (S l)) 0 l.length := ⟨fun G H v _ h => by rw [show v = V.str (S l) from h]; exact .str _, (ShD.tx (K := K) h).sh, (ShD.tx (K := K) h).lf, (ShD.tx (K := K) h).dp, (ShD.tx (K := K) h).bk⟩
theorem ShY.it {i : Int} (h0 : 0 ≤ i) (h1 : i < 1000000000000) : ShY K (it i) (.int i) 0 0 := ⟨fun G H v _ h => by rw [show v = V.int i from h]; exact .int _, (ShD.it (K := K) h0 h1).sh, (ShD.it (K := K) h0 h1).lf, (ShD.it (K := K) h0 h1).dp, (ShD.it (K := K) h0 h1).bk⟩
theorem ShYs.nil : ShYs K [] [] 0 0 := ⟨.nil, by simp [PyData.showableAll], by simp [PyData.leavesShortAll], by simp [PyData.depthAll], by simp [PyData.bulkAll]⟩
theorem ShYs.cons (h : ShY K A d e b) (t : ShYs K xs ds e' b') : ShYs K (A :: xs) (d :: ds) (max e e') (b + 1 + b') :=
  ⟨.cons h.is t.is, by simp [PyData.showableAll, h.sh, t.sh], by simp [PyData.leavesShortAll, h.lf, t.lf], by
    have := h.dp
    have := t.dp
    simp only [PyData.depthAll]
    omega, by
    have := h.bk
    have := t.bk
    simp only [PyData.bulkAll]
    omega⟩
theorem ShYs.map {α : Type} {f : α → As} {g : α → PyData} : ∀ {l : List α}, (∀ x ∈ l, ShY K (f x) (g x) e b) → ShYs K (l.map f) (l.map g) e (l.length * (b + 1))
  | [], _ => ShYs.nil.le (Nat.zero_le _) (Nat.zero_le _)
  | x :: l, h => by
    have t := ShYs.cons (h x List.mem_cons_self) (ShYs.map fun y hy => h y (List.mem_cons_of_mem _ hy))
    rw [List.map_cons, List.map_cons]
    exact t.le (by omega) (by rw [List.length_cons, Nat.succ_mul]; omega)
theorem ShY.tup (h : ShYs K xs ds e b) : ShY K (Sy.tup K xs) (.tuple ds) (e + 1) b := ⟨fun G H v s ⟨a, vs, h1, h2, h3⟩ => by rw [h1]; exact .tup (SqT.mono s h2) (h.is.all s h3), by simp [PyData.showable, h.sh], by simp [PyData.leavesShort, h.lf], by simp [PyData.depth, h.dp], by simp [PyData.bulk, h.bk]⟩
theorem ShYk.nil : ShYk K [] [] 0 0 := ⟨.nil, by simp [PyData.showableKv], by simp [PyData.leavesShortKv], by simp [PyData.depthKv], by simp [PyData.bulkKv]⟩
theorem ShYk.cons {l : List Nat} {kvs : List (Key × As)} {kds : List (PyData × PyData)} (hl : ∀ c ∈ l, c < 128) (h : ShY K A d e b) (t : ShYk K kvs kds e' b') : ShYk K ((.inr (S l), A) :: kvs) ((.str (S l), d) :: kds) (max e e') (l.length + b + 2 + b') := by
  have hk := ShY.tx (K := K) hl
  refine ⟨.cons (ky := .inr (S l)) h.is t.is, by simp [PyData.showableKv, hk.sh, h.sh, t.sh], by simp [PyData.leavesShortKv, hk.lf, h.lf, t.lf], ?_, ?_⟩
  · have := h.dp
    have := t.dp
    have := hk.dp
    simp only [PyData.depthKv]
    omega
  · have := h.bk
    have := t.bk
    have := hk.bk
    simp only [PyData.bulkKv]
    omega
theorem ShY.dct {kvs : List (Key × As)} {kds : List (PyData × PyData)} (h : ShYk K kvs kds e b) : ShY K (Sy.dct kvs) (.dict kds) (e + 1) b := ⟨fun G H v s ⟨a, vs, h1, h2, h3⟩ => by rw [h1]; exact .dct (s _ _ h2) (h.is.all s h3), by simp [PyData.showable, h.sh], by simp [PyData.leavesShort, h.lf], by simp [PyData.depth, h.dp], by simp [PyData.bulk, h.bk]⟩
theorem v_reprY (h : ShY K A d e b) (he : e ≤ 60) (hb : b ≤ 1000000) (q : k (tx (shw d)) O) : Vn O (rReprX K) [A] k :=
  v_reprX h.is.x ⟨h.sh, Nat.le_trans h.dp he⟩ (PyData.shown_fits_bulk (B := 13) (by decide) (by decide) h.lf (Nat.le_trans h.bk (Nat.le_trans hb (by decide)))) q
end
end Sy
namespace Sy
open PySem PySem.Spec PyProof.Rows L2
/-- a draw from a list told by a map -/
theorem Go.pickM {K : PySem.W.Frag} {L : LL} {O : OO} {k : As → OO → Prop} {X : XK} {t : TA} {α : Type} (f : α → As) (ls : List α) (h : GoA L O t fun l O1 => ∃ D g n R, l = [pt D, Sy.lst K (ls.map f)] ∧ O1 = dgO D g n ++ R ∧ (0 < ls.length ∧ ls.length ≤ 1000 ∧ n ≤ 100000000) ∧ Keep (∀ x ∈ ls, k (f x) (dgO D g (n + 1) ++ R))) : Go L O (tCall (SpPickG K) [] X t) k := Go.pickG fun E G0 H0 σ G H Q f' s z => h _ _ _ _ _ _ _ f' s fun l O' G' H' vs q => z _ _ _ _ _ (by
  obtain ⟨D, g, n, R, e1, e2, h1, h2⟩ := q
  refine ⟨D, g, n, ls.map f, R, e1, e2, by rw [List.length_map]; exact h1, Keep.mk fun A hA => ?_⟩
  obtain ⟨x, hx, rfl⟩ := List.mem_map.mp hA
  exact h2.out x hx)
end Sy
theorem op_repTK {X : Cx} {K : PySem.W.Frag} (h : X.K = K) : OpR X (binaryOp .Mult) (rRepT K) := by subst h; exact op_repT
namespace Sy
open PySem PySem.Spec PyProof.Rows L2
section
variable {K : PySem.W.Frag} {L : LL} {O : OO} {k : As → OO → Prop}
/-- tuple * n -/
theorem v_repT {xs : List As} {n : Nat} (h : xs ≠ []) (h1 : 2 ≤ n) (h2 : n ≤ 1000) (h3 : xs.length ≤ 1000) (q : k (Sy.tup K (List.replicate n xs).flatten) O) : V2 O (rRepT K) (Sy.tup K xs) (cst (.int (n : Int))) k := fun E G0 H0 G H Q x y f a b zz => by
  obtain ⟨p, vs, rfl, g1, g2⟩ := a
  obtain rfl : y = .int (n : Int) := b
  have hl := g2.len
  refine ⟨p, (n : Int), vs, rfl, rfl, SqT.mono f.gh g1, fun z => ?_, by omega, by omega, by omega, fun r nr => ?_⟩
  · rw [z] at hl
    exact h (List.length_eq_zero_iff.mp hl.symm)
  have ex := Ext.new (o := .tup (List.replicate n vs).flatten) f.gh nr
  exact zz _ _ _ _ _ q (f.ext ex) ex.g ⟨r, _, rfl, .inl (.inl upd_same), (g2.reps n).m ex.g⟩
/-- a comprehension whose elements draw from the second source -/
theorem Go.lcG {α β : Type} {wi : TI} {g : TG} {te : TE} {vs : List Nat} (hg : HG g vs) (f : α → As) (B : β → As) (P : β → Prop) (c : Nat) (h : GoI L O wi fun xs O1 => ∃ (l : List α) (D g9 : Addr) (n : Nat) (R : OO), O1 = dgO D g9 n ++ R ∧ xs = l.map f ∧ l.length < 100000 ∧
      (∀ x ∈ l, ∀ m T, m ≤ n + c * l.length → GoG (wipeL L vs) (f x) g fun L2 => Go L2 (dgO D g9 m ++ (R ++ T)) te fun B' O3 => ∃ y m', B' = B y ∧ P y ∧ m' ≤ m + c ∧ O3 = dgO D g9 m' ++ (R ++ T)) ∧
      ∀ (ys : List β) (m : Nat), ys.length = l.length → (∀ y ∈ ys, P y) → m ≤ n + c * l.length → k (Sy.lst K (ys.map B)) (dgO D g9 m ++ R)) :
    Go L O (tLc wi g tYes te vs) k := Go.lc (K := K) hg fun E G0 H0 σ G H Q f s z => h _ _ _ _ _ _ _ f s fun xs O1 G1 H1 J e => z _ _ _ _ _ (by
    obtain ⟨l, D, g9, n, R, rfl, rfl, hl, he, hq⟩ := e
    refine ⟨fun i acc O' => ∃ ys m, acc = ys.map B ∧ ys.length = i ∧ (∀ y ∈ ys, P y) ∧ m ≤ n + c * i ∧ O' = dgO D g9 m ++ R, ⟨[], n, rfl, rfl, fun y hy => (by cases hy), by omega, rfl⟩, ?_, ?_⟩
    · rintro i A acc O' T hA ⟨ys, m, rfl, hw, hp, hm, rfl⟩
      rw [List.getElem?_map] at hA
      cases hx : l[i]? with
      | none => rw [hx] at hA; cases hA
      | some x =>
        rw [hx] at hA
        obtain rfl := Option.some.inj hA
        have hi := (List.getElem?_eq_some_iff.mp hx).1
        refine (he x (List.mem_of_getElem? hx) m T (Nat.le_trans hm (Nat.add_le_add_left (Nat.mul_le_mul_left c (by omega)) n))).imp fun L2 h2 => GoT.yes ?_
        rw [if_pos rfl]
        refine h2.imp fun B' O3 q => ?_
        obtain ⟨y, m', rfl, hpy, hm', rfl⟩ := q
        refine ⟨dgO D g9 m' ++ R, rfl, by rw [List.length_map]; omega, ys ++ [y], m', by rw [List.map_append]; rfl, by rw [List.length_append, hw]; rfl, fun z hz => ?_, by rw [Nat.mul_succ]; omega, rfl⟩
        rcases List.mem_append.mp hz with hz | hz
        · exact hp z hz
        · rw [List.mem_singleton.mp hz]; exact hpy
    · rintro acc O' ⟨ys, m, rfl, hw, hp, hm, rfl⟩
      rw [List.length_map] at hw hm
      exact hq ys m hw hp hm)
end
end Sy
namespace Sy
open PySem PySem.Spec PyProof.Rows L2
section
variable {K : PySem.W.Frag} {L : LL} {O : OO} {tt : TT} {t u : TS} {E : Es} {ta tb : TE} {k : As → OO → Prop}
theorem GoS.ifT (h : GoT L O tt fun b O1 => b = true ∧ O1 = O) (q : GoS L O t E) : GoS L O (tIfS tt t u) E := GoS.ite (GoT.join true h ⟨fun _ => q, fun z => (by cases z)⟩)
theorem GoS.ifF (h : GoT L O tt fun b O1 => b = false ∧ O1 = O) (q : GoS L O u E) : GoS L O (tIfS tt t u) E := GoS.ite (GoT.join false h ⟨fun z => (by cases z), fun _ => q⟩)
theorem Go.ifT (h : GoT L O tt fun b O1 => b = true ∧ O1 = O) (q : Go L O ta k) : Go L O (tIf tt ta tb) k := Go.ite (GoT.join true h ⟨fun _ => q, fun z => (by cases z)⟩)
theorem Go.ifF (h : GoT L O tt fun b O1 => b = false ∧ O1 = O) (q : Go L O tb k) : Go L O (tIf tt ta tb) k := Go.ite (GoT.join false h ⟨fun z => (by cases z), fun _ => q⟩)
theorem GoS.ifB {p : Bool} (h : GoT L O tt fun b O1 => b = p ∧ O1 = O) (q : p = true → GoS L O t E) (q2 : p = false → GoS L O u E) : GoS L O (tIfS tt t u) E := GoS.ite (GoT.join p h ⟨q, q2⟩)
end
end Sy
namespace Sy
open PySem PySem.Spec PyProof.Rows L2
/-- an owned dict that a slot holds is given up: the slot holds the dict -/
theorem GoS.frzSD {L : LL} {t : TS} {k : Es} {i : Nat} {D : Addr} {kvs : List (Key × As)} (pre post : OO) (hL : L[i]? = some (some (pt D))) (h : GoS (setL L i (dct kvs)) (pre ++ post) t k) : GoS L (pre ++ (D, .od false kvs) :: post) t k := fun E G0 H0 σ G H Q f s e => by
  obtain ⟨w1, w2, vs, hv, av⟩ := f.ow (D, .od false kvs) (by simp)
  obtain ⟨fz, sz⟩ := Fr.freeze f rfl hv
  exact h _ _ _ _ _ _ _ fz (Slots.re (A := Sy.dct kvs) ⟨D, vs, rfl, upd_same, av.m sz⟩ (s.m sz) hL) (e.m sz)
end Sy

/-! ### isinstance(e, (C1, C2)) of a caught exception; a call by a name that holds one of several defs; tuple(xs) of an owned list -/
namespace ExS
open PySem PySem.Spec PyProof.Rows L2 PySem.W
def rIsVT (K : Frag) : List V → Hp → VK → Prop := fun xs H Q => ∃ (a D dd tp : Addr) (fs : List (Str × V)) (cs : List V) (us : List Value) (b : Bool), xs = [.ref a, .ref tp] ∧ H tp = some (.tup cs) ∧ Paired ClsV cs us ∧ H a = some (ExcO a (.ref D) (some dd)) ∧ L2.ExcC K D ∧ kitAny K (.ref D) us = some b ∧ H dd = some (.xd fs) ∧ Q (.bl b) H
theorem kIsVT {X : Cx} {K : Frag} (hK : X.K = K) : CallR X (.builtin "isinstance") (rIsVT K) := by
  subst hK
  intro pins s σ H xs us Q I r h
  obtain ⟨a, D, dd, tp, fs, cs, ws, b, rfl, hT, hcs, eE, X1, e, ea, q⟩ := h
  cases r with
  | cons rx rr =>
    cases rr with
    | @cons _ u2 _ _ rt rr =>
      cases rr
      cases rx
      cases (show u2 = Value.ref tp from rt)
      obtain ⟨⟨oe, vs, ha, hz, hd⟩, _, _⟩ := I.hok a _ eE
      obtain ⟨mA, hns, hr⟩ := (I.hok dd _ ea : ObjOk X.prog X.w H s.heap dd (.xd fs))
      obtain ⟨od, ho, hl⟩ := lookIn_ns hns
      have J : PySem.W.InstAt s.heap a oe D (some od) := ⟨ha, hz.1, by unfold PySem.W.notCls; rw [hd] <;> rfl, by rw [hz.2]; exact ho⟩
      have hcl : (clsIn X.K D).isSome = true := by
        obtain ⟨cd, hc, _⟩ := any_some X1.hd
        rw [hc]
        rfl
      obtain ⟨_, its, rv, o, h1, h2, n, h3⟩ := (show ObjOk X.prog X.w H s.heap tp (.tup cs) from I.hok tp _ hT)
      have e3 := ClsV.all hcs rv
      subst e3
      obtain ⟨oc, od2, dt, sl⟩ := o
      simp only at h2 h3
      subst h2 h3
      exact PySem.W.kia_tup (PySem.W.kitx_exc hcl X1.hg X1.hk X1.hs X1.ha X1.hn X1.ht X1.hm) I.kIn J h1 e (fun z => nomatch z) fun tk => ⟨.bl b, H, I.kept (t' := tk) fun _ _ z => z, rfl, q⟩
theorem kitAny_two {K : Frag} {t c1 c2 : Value} {b1 b2 : Bool} (h1 : kitOne K t c1 = some b1) (h2 : kitOne K t c2 = some b2) : kitAny K t [c1, c2] = some (b1 || b2) := by
  unfold kitAny
  rw [h1]
  cases b1 with
  | true => rfl
  | false =>
    unfold kitAny
    rw [h2]
    cases b2 <;> rfl
end ExS
namespace Sy
open PySem PySem.Spec PyProof.Rows L2
/-- one of two ways -/
def tAlt (t u : TE) : TE := fun σ H Q => t σ H Q ∨ u σ H Q
theorem pe_alt {X : Cx} {e : Expr} {t u : TE} (h1 : PE X e t) (h2 : PE X e u) : PE X e (tAlt t u) := ⟨fun pins s σ H Q I h => h.elim (h1.run pins s σ H Q I) (h2.run pins s σ H Q I)⟩
def tCallWS (i : Nat) (f : Addr) (sp : Sp) (E : L2.St → XK) (t : TA) : TE := fun σ H Q => σ[i]? = some (some (.ref f)) ∧ L2.tCallS sp E t σ H Q
section
variable {X : Cx} {CX : CXT} {k i : Nat} {f : Addr} {fd : FuncData} {ps : List Str} {sp : Sp} {E : L2.St → XK} {x : Str} {e : Expr} {es : List Expr} {t : TA} {p pos : Pos}
theorem pe_callWS (F : FnOk X.prog X.w X.K X.mg X.base CX k f fd ps sp) (hr : Room k X.A) (hk : PySem.W.keepIn X.K (.ref f) = true) (hb : Binds X.K fd ps []) (hx : ∀ σ, PassesAt CX X σ (E σ)) (hN : X.N[i]? = some x) (hv : Vis X.env.scope x) (ha : PA X (e :: es) t)
    (hd : (x == ("__debug__" : Str)) = false := by decide) (hcd : (x == ("__classdict__" : Str)) = false := by decide)
    (he : starEach (e :: es) X.env = (false, eval e X.env) :: starEach es X.env := by rfl) (hpl : (backTo pos (starEach es X.env)).any (·.1) = false := by rfl) : PE X (.Call (.Name x p) (e :: es) [] pos) (tCallWS i f sp E t) := by
  refine ⟨fun pins s σ H Q I h => wpAny_Call_Name_kw (thn ((pe_var (pos := p) (i := i) hN hv hd hcd).run pins s σ H (fun v H1 => v = .ref f ∧ H1 = H) I ⟨.ref f, h.1, rfl, rfl⟩) fun u s1 ⟨v, H1, I1, r1, ev, eH⟩ => ?_)⟩
  subst ev
  rw [eH] at I1
  cases r1
  exact PySem.W.callWith_K (h₀ := X.base) I.ok.mod.kin hk (thn (ha.run pos pins s1 σ H _ I1 h.2) fun us s2 ⟨vs, H2, I2, r, q⟩ => ⟨I2.kIn, run_fnS F hr hb (hx σ) I2 r q⟩) he hpl
end
section
variable {K : PySem.W.Frag} {W : WX} {x : XP} {L : LL} {O : OO} {k : As → OO → Prop} {t u : TE}
theorem GoW.altL (h : GoW W x L O t k) : GoW W x L O (tAlt t u) k := fun E G0 H0 σ G H Q f s z c => .inl (h E G0 H0 σ G H Q f s z c)
theorem GoW.altR (h : GoW W x L O u k) : GoW W x L O (tAlt t u) k := fun E G0 H0 σ G H Q f s z c => .inr (h E G0 H0 σ G H Q f s z c)
theorem GoW.callWS {i : Nat} {f : Addr} {sp : Sp} {E : L2.St → XK} {ta : TA} (h : L[i]? = some (some (pt f))) (q : GoW W x L O (L2.tCallS sp E ta) k) : GoW W x L O (tCallWS i f sp E ta) k := fun E0 G0 H0 σ G H Q fr s z c => by
  obtain ⟨v, h1, h2⟩ := s.get h
  obtain rfl : v = V.ref f := h2
  exact ⟨h1, q _ _ _ _ _ _ _ fr s z c⟩
theorem v_isVT {C1 C2 D : Addr} {fs : List (Str × As)} {b1 b2 : Bool} (X : L2.ExcC K D) (h1 : PySem.W.kitOne K (.ref D) (.ref C1) = some b1) (h2 : PySem.W.kitOne K (.ref D) (.ref C2) = some b2) (q : k (bo (b1 || b2)) O) : Vn O (ExS.rIsVT K) [exV (.ref D) fs, Sy.tupH [pt C1, pt C2]] k := fun E G0 H0 G H Q vs f z zz => by
  cases z with
  | cons z1 z =>
    cases z with
    | cons z2 z =>
      cases z
      obtain ⟨a, dx, ds, rfl, g1, g2, g3⟩ := z1
      obtain ⟨tp, ws, rfl, g4, g5⟩ := z2
      cases g5 with
      | cons a1 g5 => cases g5 with
        | cons a2 g5 =>
          cases g5
          obtain rfl : _ = V.ref C1 := a1
          obtain rfl : _ = V.ref C2 := a2
          exact ⟨a, D, dx, tp, ds, _, [.ref C1, .ref C2], _, rfl, f.gh _ _ g4, .cons (.own C1) (.cons (.own C2) .nil), f.gh _ _ g1, X, ExS.kitAny_two h1 h2, f.gh _ _ g2, zz _ _ _ _ _ q f (Same.refl _) rfl⟩
theorem v_tupO {pre post : OO} {D : Addr} {xs : List As} (q : k (Sy.tup K xs) (pre ++ (D, .ol xs) :: post)) : Vn (pre ++ (D, .ol xs) :: post) (rTupQ K) [pt D] k := fun E G0 H0 G H Q vs f a zz => by
  cases a with
  | cons a r =>
    cases r
    obtain rfl : _ = V.ref D := a
    obtain ⟨us, u1, u2⟩ := own_at f
    refine ⟨D, us, rfl, .inl ⟨SqL.of u1, fun p np => ?_⟩⟩
    have ex := Ext.new (o := .tup us) f.gh np
    exact zz _ _ _ _ _ q (f.ext ex) ex.g ⟨p, us, rfl, .inl (.inl upd_same), u2.m ex.g⟩
end
end Sy
namespace Sy
open PySem PySem.Spec PyProof.Rows L2
/-- xs + ys, that will be changed -/
theorem v_catO {K : PySem.W.Frag} {O : OO} {k : As → OO → Prop} {xs ys : List As} (hl : xs.length + ys.length ≤ 100000) (q : ∀ D, k (pt D) (O ++ [(D, .ol (xs ++ ys))])) : V2 O rCat (Sy.lst K xs) (Sy.lst K ys) k := fun E G0 H0 G H Q x y f a b zz => by
  obtain ⟨p, vs, rfl, g1, g2⟩ := a
  obtain ⟨p2, ws, rfl, g3, g4⟩ := b
  have l1 := g2.len
  have l2 := g4.len
  refine ⟨p, p2, vs, ws, rfl, rfl, f.gh _ _ g1, f.gh _ _ g3, ?_, fun D nD => zz _ _ _ _ _ (q D) (f.own (c := .ol (xs ++ ys)) nD ⟨vs ++ ws, upd_same, g2.app g4⟩) (Same.refl _) rfl⟩
  exact Nat.le_trans (show vs.length + ws.length ≤ 100000 by omega) (by decide)
end Sy
namespace Sy
open PySem PySem.Spec PyProof.Rows L2
theorem v_isB9 {O : OO} {k : As → OO → Prop} {a b : Bool} (q : k (bo (decide (a = b))) O) : V2 O rIsB (bo a) (bo b) k := V2.sc (z := .bl (decide (a = b))) (fun _ _ q => ⟨_, _, rfl, rfl, q⟩) q
theorem rngA_at {lo : Int} {n i : Nat} {A : As} (h : (rngA lo n)[i]? = some A) : i < n ∧ A = it (lo + (i : Int)) := by
  unfold rngA at h
  rw [List.getElem?_map] at h
  obtain ⟨j, hj, rfl⟩ := Option.map_eq_some_iff.mp h
  obtain ⟨hi, hj⟩ := List.getElem?_eq_some_iff.mp hj
  rw [List.getElem_range] at hj
  subst hj
  rw [List.length_range] at hi
  exact ⟨hi, rfl⟩
end Sy

/-! C(..) with defaults, by an __init__ that may raise, where it is handed on -/
section
open L2 PySem PySem.Spec PyProof.Rows
def tMakeS (C : Addr) (sp : Sp) (dvs : List V) (E : L2.St → XK) (t : TA) : TE := fun σ H Q => L2.tMake C sp dvs (E σ) t σ H Q
variable {X : Cx} {CX : CXT} {k : Nat} {f C : Addr} {fd : FuncData} {ps : List Str} {sp : Sp} {dvs : List V} {ds : List Value} {E : L2.St → XK} {x : Str} {p pos : Pos} {e : Expr} {es : List Expr} {t : TA}
/-- the making, where what is let out is told at the slots -/
theorem runMakeS {pins : List (Addr × Obj)} {σ : L2.St} {H : Hp} {s : Shared} {Q : VK} {us : List Value} {vs : List V} (M : Mk X.K C f) (F : FnOk X.prog X.w X.K X.mg X.base CX k f fd ps sp) (hr : Room (k + 1) X.A) (hb : Binds X.K fd ps ds) (hd : Vals dvs ds) (hx : PassesAt CX X σ (E σ)) (I : Inv X pins σ H s) (r : Vals vs us)
    (h : ∀ x dx, H x = none → H dx = none → dx ≠ x → sp (.ref x :: (vs ++ dvs)) (upd (upd H dx (.own x)) x (.ins C dx [])) (fun v H2 => v = .non ∧ Q (.ref x) H2) (E σ)) : wpAny (model X.prog X.w) X.A (call (.ref C) us) (EP X pins σ Q) X.xe s := by
  have n0 : H s.heap.objs.size = none := I.hok.fresh (Nat.le_refl _)
  have n1 : H (s.heap.objs.size + 1) = none := I.hok.fresh (Nat.le_succ _)
  have J := Inv.made (C := C) I
  have q := h _ _ n1 n0 (Nat.ne_of_lt (Nat.lt_succ_self _))
  have rv : Vals (V.ref (s.heap.objs.size + 1) :: (vs ++ dvs)) (Value.ref (s.heap.objs.size + 1) :: (us ++ ds)) := .cons rfl (r.append hd)
  have hn : (Value.ref (s.heap.objs.size + 1) :: us ++ ds).length = ps.length := rv.length.symm.trans (F.len _ _ _ _ q)
  have b := hb _ (Value.ref (s.heap.objs.size + 1) :: us) J.kIn hn
  have run := F.run _ X.stack _ _ ⟨Value.ref (s.heap.objs.size + 1) :: us, []⟩ _ _ _ (E σ) (hr.make C us []) (J.env0.make C us []) b rv q
  refine wpAny_call (make_map (f := f) I.kIn M.makes M.init (beq_iff_eq.mp M.fn) (codeAny_mono run fun r s' z => ?_))
  match r, z with
  | .error e, z => exact hx pins _ _ e s' J z
  | .ok (.ret u), z =>
    obtain ⟨v, H', J2, r2, ev, q2⟩ := J.after z
    cases ev
    exact ⟨r2, ⟨V.ref (s.heap.objs.size + 1), H', J2, rfl, q2⟩⟩
theorem pe_makeS (M : Mk X.K C f) (F : FnOk X.prog X.w X.K X.mg X.base CX k f fd ps sp) (hr : Room (k + 1) X.A) (hg : Gl X x) (hm : X.mg x = some (.ref C)) (hb : Binds X.K fd ps ds) (hd : Vals dvs ds) (hx : ∀ σ, PassesAt CX X σ (E σ)) (ha : PA X (e :: es) t) (hdb : (x == ("__debug__" : Str)) = false := by decide)
    (he : starEach (e :: es) X.env = (false, eval e X.env) :: starEach es X.env := by rfl) (hpl : (backTo pos (starEach es X.env)).any (·.1) = false := by rfl) : PE X (.Call (.Name x p) (e :: es) [] pos) (tMakeS C sp dvs E t) :=
  ⟨fun pins s σ H Q I h => wpAny_Call_Name_kw (ld_glob I hg hm (PySem.W.callWith_K (h₀ := X.base) I.ok.mod.kin M.kp (thn (ha.run pos pins s σ H _ I h) fun us s1 ⟨vs, H1, I1, r, q⟩ => ⟨I1.kIn, runMakeS M F hr hb hd (hx σ) I1 r q⟩) he hpl) hdb)⟩
end
namespace Sy
open PySem PySem.Spec PyProof.Rows L2
section
variable {K : PySem.W.Frag} {L : LL} {O : OO} {k : As → OO → Prop} {x : XP} {W : WX} {t : TA}
/-- .. where the slots tell what is let out -/
theorem GoW.makeDX {C : Addr} {α : Type} {dvs : List V} {pre : α → Prop} {as : α → List As} {fs : α → List (Str × As)} {ok : α → Prop} {rp : α → Value → List (Str × As) → OO → Prop} (dA : List As) (hd : ∀ G, All2 G dA dvs)
    (h : GoA L O t fun l O1 => ∃ a, l ++ dA = as a ∧ pre a ∧ (∀ cls fs O', rp a cls fs O' → ∃ D, O' = [D] ∧ x cls fs L O1) ∧ (ok a → k (ins C (fs a)) O1)) : GoW W x L O (tMakeS C (SpIX C pre as fs ok rp) dvs (WE W) t) k := fun E' G0 H0 σ G H Q f s z ac =>
  h _ _ _ _ _ _ _ f s fun l O1 G1 H1 vs hk f1 s1 b y dx nx ndx ne => by
    obtain ⟨a, ha, hp, hn, hk⟩ := hk
    have f4 := made_fr (C := C) f1 nx ndx ne
    refine ⟨(y, a), G1, hp, ?_, f4.part oi1, fun A O' G' H' v q g c => ?_, fun cls fs O' G' H' dx ds q g e1 e2 => ?_⟩
    · show All2 G1 (pt y :: as a) (.ref y :: (vs ++ dvs))
      rw [← ha]
      exact .cons rfl (b.app (hd _))
    · obtain ⟨ho, rfl, rfl⟩ := q
      exact ⟨c, made_end (f1.hn _ nx) (f4.frame g) (hk ho) fun A O G H v q f s => z A O G H v q f ((s1.trans g.gg).trans s)⟩
    · obtain ⟨D, rfl, hx⟩ := hn _ _ _ q
      exact ac _ _ _ _ _ _ _ _ _ hx (FrLe.drop (x := D) O1 _ _ _ _ _ (f4.frame g)) (s1.trans g.gg) (s.m (s1.trans g.gg)) e1 e2
/-- .. that does not raise -/
theorem Go.makeDA {α : Type} {C : Addr} {dvs : List V} {pre : α → Prop} {as : α → List As} {fs : α → List (Str × As)} {ok : α → Prop} {rp : α → Value → List (Str × As) → OO → Prop} {X : XK} (dA : List As) (hd : ∀ G, All2 G dA dvs) (h : GoA L O t fun l O1 => ∃ a, l ++ dA = as a ∧ pre a ∧ (∀ cls fs O', ¬ rp a cls fs O') ∧ (ok a → k (ins C (fs a)) O1)) : Go L O (tMake C (SpIX C pre as fs ok rp) dvs X t) k := fun E G0 H0 σ G H Q f s z =>
  h _ _ _ _ _ _ _ f s fun l O1 G1 H1 vs hk f1 s1 b x dx nx ndx ne => by
    obtain ⟨a, ha, hp, hn, hk⟩ := hk
    have f4 := made_fr (C := C) f1 nx ndx ne
    refine ⟨(x, a), G1, hp, ?_, f4.part oi1, fun A O' G' H' v q g c => ?_, fun cls fs O' G' H' dx ds q => absurd q (hn _ _ _)⟩
    · show All2 G1 (pt x :: as a) (.ref x :: (vs ++ dvs))
      rw [← ha]
      exact .cons rfl (b.app (hd _))
    obtain ⟨ho, rfl, rfl⟩ := q
    exact ⟨c, made_end (f1.hn _ nx) (f4.frame g) (hk ho) fun A O G H v q f s => z A O G H v q f ((s1.trans g.gg).trans s)⟩
end
end Sy

/-! ### min of three numbers -/
namespace Sy
section
variable {X : Cx}
def min3 (i j l : Int) : Int := if l < (if j < i then j else i) then l else (if j < i then j else i)
def rMin3 : List L2.V → Hp → VK → Prop := fun xs H Q => ∃ i j l : Int, xs = [.int i, .int j, .int l] ∧ Q (.int (min3 i j l)) H
theorem call_min3 (hc : X.calm = true) : CallR X (.builtin "min") rMin3 := fun pins s σ H xs us Q I r h => L2.call_min3Nu hc pins s σ H xs us Q I r (by
  obtain ⟨i, j, l, rfl, q⟩ := h
  refine ⟨_, _, _, _, rfl, ?_, q⟩
  unfold min3
  by_cases h1 : j < i
  · rw [if_pos h1]
    by_cases h2 : l < j
    · rw [if_pos h2]
      simp [nuMin3, nuMin2, nuLt, nuCB, h1, h2]
    · rw [if_neg h2]
      simp [nuMin3, nuMin2, nuLt, nuCB, h1, h2]
  · rw [if_neg h1]
    by_cases h2 : l < i
    · rw [if_pos h2]
      simp [nuMin3, nuMin2, nuLt, nuCB, h1, h2]
    · rw [if_neg h2]
      simp [nuMin3, nuMin2, nuLt, nuCB, h1, h2])
end
theorem v_min3 {O : OO} {k : As → OO → Prop} {i j l : Int} (q : k (it (min3 i j l)) O) : Vn O rMin3 [it i, it j, it l] k := fun E G0 H0 G H Q vs f a zz => by
  cases a with
  | cons a1 r1 =>
    cases r1 with
    | cons a2 r2 =>
      cases r2 with
      | cons a3 r3 =>
        cases r3
        obtain rfl := (show _ = V.int i from a1)
        obtain rfl := (show _ = V.int j from a2)
        obtain rfl := (show _ = V.int l from a3)
        exact ⟨i, j, l, rfl, zz _ _ _ _ _ q f (Same.refl _) rfl⟩
end Sy

/-! ### x in an owned list of data; list(..) that does not stand where sys.modules does -/
namespace Sy
open PySem PySem.Spec PyProof.Rows L2
section
variable {X : Cx} {K : PySem.W.Frag}
theorem kInD (h : X.K = K) (hu : X.A.units + 65 < cLine) : OpR X (compareOp .In) (rInD K) := by subst h; exact op_inD hu
def rLstB (K : PySem.W.Frag) : List V → Hp → VK → Prop := fun xs H Q => ∃ p ys, xs = [.ref p] ∧ (SqL K H p ys ∨ SqT K H p ys) ∧ ∀ l, H l = none → l ≠ sysModules → Q (.ref l) (upd H l (.lst ys))
theorem kLstB (h : X.K = K) : CallR X (.type "list") (rLstB K) := by
  subst h
  intro pins s σ H xs us Q I r h
  obtain ⟨p, ys, rfl, hq, q⟩ := h
  obtain ⟨u, rfl, rx⟩ := vals1 r
  cases rx
  have ns : s.heap.objs.size ≠ sysModules := fun e => Nat.lt_irrefl _ (e ▸ I.big)
  have laid : ∀ (its : List Value), Vals ys its → ys.length ≤ sizeLine → ∀ (h' : Heap) (c : Nat), (∀ b o, s.heap.get? b = some o → h'.get? b = some o) →
      h'.get? s.heap.objs.size = some { cls := .type "list", dict := none, data := .seq its.toArray c, slots := #[] } → EP X pins σ Q (.ref s.heap.objs.size) { s with heap := h' } := fun its rv hz h' c keep e =>
    ⟨.ref s.heap.objs.size, _, I.laid (t' := s.toks) keep (Nat.le_refl _) (show ObjOk X.prog X.w _ h' _ (.lst ys) from ⟨hz, its, c, rv, e⟩), rfl, q _ (I.hok.fresh (Nat.le_refl _)) ns⟩
  rcases hq with hl | ht
  · obtain ⟨its, rv, pl, hz⟩ := I.list hl
    have hn := rv.length
    obtain ⟨o, ho, hc, c, hd⟩ := pl.isList
    exact call_list_seq p (.inl rfl) ho hc hd (fun h' c' keep e => laid its rv hz h' c' keep e) (by simp only [List.size_toArray] <;> omega)
  · obtain ⟨its, rv, pl, hz⟩ := I.tuple ht
    have hn := rv.length
    obtain ⟨o, ho, hc, c, hd⟩ := pl
    exact call_list_seq p (.inr rfl) ho hc hd (fun h' c' keep e => laid its rv hz h' c' keep e) (by simp only [List.size_toArray] <;> omega)
variable {O : OO} {k : As → OO → Prop} {A : As} {xs : List As} {d : PyData} {ds : List PyData} {e b : Nat}
theorem v_lstTB (q : k (lstB K xs) O) : Vn O (rLstB K) [tup K xs] k := fun E G0 H0 G H Q vs f a zz => by
  cases a with
  | cons a r =>
    cases r
    obtain ⟨p, ws, rfl, h1, h2⟩ := a
    refine ⟨p, ws, rfl, .inr (SqT.mono f.gh h1), fun D nD ns => ?_⟩
    have ex := Ext.new (o := .lst ws) f.gh nD
    exact zz _ _ _ _ _ q (f.ext ex) ex.g ⟨D, ws, rfl, ns, upd_same, h2.m ex.g⟩
theorem dpAll_mono {H H' : Hp} (e : Same H H') : ∀ {ds : List PyData} {vs : List V}, DpAll K H vs ds → DpAll K H' vs ds
  | _, _, .nil => .nil
  | _, _, .cons h t => .cons (Dp.mono e _ _ h) (dpAll_mono e t)
theorem v_inO {pre post : OO} {D : Addr} (h : IsD K A d) (hs : IsDs K xs ds) (s1 : SeqAt.shaped d = true) (s2 : SeqAt.shaped (.list ds) = true) (q : k (bo (ds.any fun z => PyData.eqv z d)) (pre ++ (D, .ol xs) :: post)) : V2 (pre ++ (D, .ol xs) :: post) (rInD K) A (pt D) k := fun E G0 H0 G H Q x y f a z zz => by
  obtain rfl : y = V.ref D := z
  obtain ⟨ws, h1, h2⟩ := own_at f
  exact ⟨d, ds, Dp.mono f.gh _ _ (h _ _ a), .lst (SqL.of h1) (dpAll_mono f.gh (hs.all h2)), s1, s2, zz _ _ _ _ _ q f (Same.refl _) rfl⟩
theorem ShY.lstB (h : ShYs K xs ds e b) : ShY K (Sy.lstB K xs) (.list ds) (e + 1) b := ⟨fun G H v s ⟨a, vs, h1, h0, h2, h3⟩ => by rw [h1]; exact .lst (SqL.of (s _ _ h2)) h0 (h.is.all s h3), by simp [PyData.showable, h.sh], by simp [PyData.leavesShort, h.lf], by
  have := h.dp
  simp only [PyData.depth]
  omega, by
  have := h.bk
  simp only [PyData.bulk]
  omega⟩
theorem ty_lB : TyXA K (Sy.lstB K xs) O (.type "list") := fun _ _ _ _ _ x f a => by
  obtain ⟨p, ws, rfl, h0, h1, h2⟩ := a
  exact (tx_l (K := K) (xs := xs) (O := O)) _ _ _ _ _ _ f ⟨p, ws, rfl, h1, h2⟩
end
end Sy

end Cj
namespace LawK66
open PySem PySem.Spec PyProof.Rows L2 Cj Cj.Sy
open SX (S S_len S_cat S_inj)
def topS (i : Nat) : Stmt := PySem.Challenge.pw_crumbjar_k66_tables_checked.main.body.getD i (.Pass ⟨0, 0, 0, 0⟩)
abbrev PW : Program := PySem.Challenge.pw_crumbjar_k66_tables_checked
/-- the program is this one -/
class IsP (P : Program) : Prop where
  eq : P = PW
instance : IsP PySem.Challenge.rw_crumbjar_k66_tables_checked.prog := ⟨rfl⟩
abbrev SI_BadTable : Stmt := ExS.inCls (topS 2) 0
theorem sci_BadTable : NdefX.NScope ["self", "index", "__class__"] ["self", "index"] ["__class__"] (defScope SI_BadTable) := NdefX.nscope_by (by decide +kernel)
abbrev S_s1_is_number_word : Stmt := topS 11
abbrev N_s1_is_number_word : List Str := ["text", "sign"]
theorem sc_s1_is_number_word : FnScope N_s1_is_number_word ["text"] (defScope S_s1_is_number_word) := ⟨rfl, rfl, rfl, by decide +kernel, rfl, by decide +kernel, by decide +kernel⟩
abbrev S_s1_is_small : Stmt := topS 12
abbrev N_s1_is_small : List Str := ["word"]
theorem sc_s1_is_small : FnScope N_s1_is_small ["word"] (defScope S_s1_is_small) := ⟨rfl, rfl, rfl, by decide +kernel, rfl, by decide +kernel, by decide +kernel⟩
abbrev S_s1_is_label : Stmt := topS 13
abbrev N_s1_is_label : List Str := ["text", "sign"]
theorem sc_s1_is_label : FnScope N_s1_is_label ["text"] (defScope S_s1_is_label) := ⟨rfl, rfl, rfl, by decide +kernel, rfl, by decide +kernel, by decide +kernel⟩
abbrev S_is_address_host : Stmt := topS 14
abbrev N_is_address_host : List Str := ["value", "words", "word"]
theorem sc_is_address_host : FnScope N_is_address_host ["value"] (defScope S_is_address_host) := ⟨rfl, rfl, rfl, by decide +kernel, rfl, by decide +kernel, by decide +kernel⟩
abbrev S_is_host : Stmt := topS 15
abbrev N_is_host : List Str := ["value", "words", "word"]
theorem sc_is_host : FnScope N_is_host ["value"] (defScope S_is_host) := ⟨rfl, rfl, rfl, by decide +kernel, rfl, by decide +kernel, by decide +kernel⟩
abbrev S_s1_is_path_sign : Stmt := topS 20
abbrev N_s1_is_path_sign : List Str := ["sign"]
theorem sc_s1_is_path_sign : FnScope N_s1_is_path_sign ["sign"] (defScope S_s1_is_path_sign) := ⟨rfl, rfl, rfl, by decide +kernel, rfl, by decide +kernel, by decide +kernel⟩
abbrev S_is_path : Stmt := topS 21
abbrev N_is_path : List Str := ["value", "sign"]
theorem sc_is_path : FnScope N_is_path ["value"] (defScope S_is_path) := ⟨rfl, rfl, rfl, by decide +kernel, rfl, by decide +kernel, by decide +kernel⟩
abbrev S_is_origin : Stmt := topS 22
abbrev N_is_origin : List Str := ["value"]
theorem sc_is_origin : FnScope N_is_origin ["value"] (defScope S_is_origin) := ⟨rfl, rfl, rfl, by decide +kernel, rfl, by decide +kernel, by decide +kernel⟩
abbrev S_is_address : Stmt := topS 23
abbrev N_is_address : List Str := ["value"]
theorem sc_is_address : FnScope N_is_address ["value"] (defScope S_is_address) := ⟨rfl, rfl, rfl, by decide +kernel, rfl, by decide +kernel, by decide +kernel⟩
abbrev S_s6_is_text : Stmt := topS 29
abbrev N_s6_is_text : List Str := ["value"]
theorem sc_s6_is_text : FnScope N_s6_is_text ["value"] (defScope S_s6_is_text) := ⟨rfl, rfl, rfl, by decide +kernel, rfl, by decide +kernel, by decide +kernel⟩
abbrev S_s6_is_pair : Stmt := topS 30
abbrev N_s6_is_pair : List Str := ["value", "words"]
theorem sc_s6_is_pair : FnScope N_s6_is_pair ["value", "words"] (defScope S_s6_is_pair) := ⟨rfl, rfl, rfl, by decide +kernel, rfl, by decide +kernel, by decide +kernel⟩
abbrev S_s6_is_line : Stmt := topS 31
abbrev N_s6_is_line : List Str := ["value"]
theorem sc_s6_is_line : FnScope N_s6_is_line ["value"] (defScope S_s6_is_line) := ⟨rfl, rfl, rfl, by decide +kernel, rfl, by decide +kernel, by decide +kernel⟩
abbrev S_s6_is_part : Stmt := topS 32
abbrev N_s6_is_part : List Str := ["value"]
theorem sc_s6_is_part : FnScope N_s6_is_part ["value"] (defScope S_s6_is_part) := ⟨rfl, rfl, rfl, by decide +kernel, rfl, by decide +kernel, by decide +kernel⟩
abbrev S_is_answer : Stmt := topS 33
abbrev N_is_answer : List Str := ["value", "lines", "goal", "parts", "one"]
theorem sc_is_answer : FnScope N_is_answer ["value"] (defScope S_is_answer) := ⟨rfl, rfl, rfl, by decide +kernel, rfl, by decide +kernel, by decide +kernel⟩
abbrev S_s6_is_item : Stmt := topS 34
abbrev N_s6_is_item : List Str := ["value"]
theorem sc_s6_is_item : FnScope N_s6_is_item ["value"] (defScope S_s6_is_item) := ⟨rfl, rfl, rfl, by decide +kernel, rfl, by decide +kernel, by decide +kernel⟩
abbrev S_check_table : Stmt := topS 35
abbrev N_check_table : List Str := ["value", "known", "index", "item"]
theorem sc_check_table : FnScope N_check_table ["value"] (defScope S_check_table) := ⟨rfl, rfl, rfl, by decide +kernel, rfl, by decide +kernel, by decide +kernel⟩
abbrev S__law_mixed : Stmt := topS 37
abbrev N__law_mixed : List Str := ["_law_cell", "_law_k", "_law_base", "_law_number"]
theorem sc__law_mixed : FnScope N__law_mixed ["_law_cell", "_law_k"] (defScope S__law_mixed) := ⟨rfl, rfl, rfl, by decide +kernel, rfl, by decide +kernel, by decide +kernel⟩
abbrev S__law_draw : Stmt := topS 38
abbrev N__law_draw : List Str := ["_law_cell", "_law_k"]
theorem sc__law_draw : FnScope N__law_draw ["_law_cell", "_law_k"] (defScope S__law_draw) := ⟨rfl, rfl, rfl, by decide +kernel, rfl, by decide +kernel, by decide +kernel⟩
abbrev S__law_digit : Stmt := topS 39
abbrev N__law_digit : List Str := ["_law_state", "_law_size", "_law_j", "_law_found"]
theorem sc__law_digit : FnScope N__law_digit ["_law_state", "_law_size"] (defScope S__law_digit) := ⟨rfl, rfl, rfl, by decide +kernel, rfl, by decide +kernel, by decide +kernel⟩
abbrev S__law_pick : Stmt := topS 40
abbrev N__law_pick : List Str := ["_law_state", "_law_items"]
theorem sc__law_pick : FnScope N__law_pick ["_law_state", "_law_items"] (defScope S__law_pick) := ⟨rfl, rfl, rfl, by decide +kernel, rfl, by decide +kernel, by decide +kernel⟩
abbrev S__law_place : Stmt := topS 41
abbrev N__law_place : List Str := ["_law_state", "_law_is_right", "_law_good", "_law_odd"]
theorem sc__law_place : FnScope N__law_place ["_law_state", "_law_is_right"] (defScope S__law_place) := ⟨rfl, rfl, rfl, by decide +kernel, rfl, by decide +kernel, by decide +kernel⟩
abbrev S__law_one_line : Stmt := topS 42
abbrev N__law_one_line : List Str := ["_law_state", "_law_is_right", "_law_good", "_law_odd"]
theorem sc__law_one_line : FnScope N__law_one_line ["_law_state", "_law_is_right"] (defScope S__law_one_line) := ⟨rfl, rfl, rfl, by decide +kernel, rfl, by decide +kernel, by decide +kernel⟩
abbrev S__law_one_part : Stmt := topS 43
abbrev N__law_one_part : List Str := ["_law_state", "_law_is_right", "_law_way", "_law_odd"]
theorem sc__law_one_part : FnScope N__law_one_part ["_law_state", "_law_is_right"] (defScope S__law_one_part) := ⟨rfl, rfl, rfl, by decide +kernel, rfl, by decide +kernel, by decide +kernel⟩
abbrev S__law_some : Stmt := topS 44
abbrev N__law_some : List Str := ["_law_state", "_law_many", "_law_is_wrong", "_law_made", "_law_spot", "_law_at"]
theorem sc__law_some : FnScope N__law_some ["_law_state", "_law_many", "_law_is_wrong", "_law_made"] (defScope S__law_some) := ⟨rfl, rfl, rfl, by decide +kernel, rfl, by decide +kernel, by decide +kernel⟩
abbrev S__law_response : Stmt := topS 45
abbrev N__law_response : List Str := ["_law_state", "_law_way", "_law_high", "_law_some_here", "_law_are_lines", "_law_deep", "_law_others", "_law_are_parts", "_law_goal", "_law_is_goal", "_law_forms", "_law_found"]
theorem sc__law_response : FnScope N__law_response ["_law_state"] (defScope S__law_response) := ⟨rfl, rfl, rfl, by decide +kernel, rfl, by decide +kernel, by decide +kernel⟩
abbrev S__law_error : Stmt := topS 46
abbrev N__law_error : List Str := ["_law_value", "_law_caught", "e"]
theorem sc__law_error : FnScope N__law_error ["_law_value"] (defScope S__law_error) := ⟨rfl, rfl, rfl, by decide +kernel, rfl, by decide +kernel, by decide +kernel⟩
abbrev S__law_item : Stmt := topS 47
abbrev N__law_item : List Str := ["_law_state", "_law_at", "_law_response_here", "_law_is_right", "_law_place_here", "_law_way", "_law_odd"]
theorem sc__law_item : FnScope N__law_item ["_law_state", "_law_at"] (defScope S__law_item) := ⟨rfl, rfl, rfl, by decide +kernel, rfl, by decide +kernel, by decide +kernel⟩
abbrev S__law_table_right : Stmt := topS 48
abbrev N__law_table_right : List Str := ["_law_state", "_law_some_here", "_law_first", "_law_told", "_law_wrong", "_law_kept", "_law_at", "_law_item_here", "_law_is_right", "_law_pair"]
theorem sc__law_table_right : FnScope N__law_table_right ["_law_state"] (defScope S__law_table_right) := ⟨rfl, rfl, rfl, by decide +kernel, rfl, by decide +kernel, by decide +kernel⟩
abbrev S_law : Stmt := topS 49
abbrev N_law : List Str := ["_law_script", "_law_k", "_law_cell", "_law_state", "_law_response_here", "_law_is_right", "_law_many", "_law_wide", "_law_odd", "_law_at"]
theorem sc_law : FnScope N_law ["_law_script"] (defScope S_law) := ⟨rfl, rfl, rfl, by decide +kernel, rfl, by decide +kernel, by decide +kernel⟩
def cs_DIGITS : Str := ⟨#[48, 49, 50, 51, 52, 53, 54, 55, 56, 57]⟩
def lc_DIGITS : List Nat := [48, 49, 50, 51, 52, 53, 54, 55, 56, 57]
theorem cS_DIGITS : cs_DIGITS = S lc_DIGITS := rfl
instance : LitS cs_DIGITS lc_DIGITS := ⟨rfl⟩
def cs_LABEL_SIGNS : Str := ⟨#[97, 98, 99, 100, 101, 102, 103, 104, 105, 106, 107, 108, 109, 110, 111, 112, 113, 114, 115, 116, 117, 118, 119, 120, 121, 122, 48, 49, 50, 51, 52, 53, 54, 55, 56, 57, 45]⟩
def lc_LABEL_SIGNS : List Nat := [97, 98, 99, 100, 101, 102, 103, 104, 105, 106, 107, 108, 109, 110, 111, 112, 113, 114, 115, 116, 117, 118, 119, 120, 121, 122, 48, 49, 50, 51, 52, 53, 54, 55, 56, 57, 45]
theorem cS_LABEL_SIGNS : cs_LABEL_SIGNS = S lc_LABEL_SIGNS := rfl
instance : LitS cs_LABEL_SIGNS lc_LABEL_SIGNS := ⟨rfl⟩
def cs_PATH_SIGNS : Str := ⟨#[97, 98, 99, 100, 101, 102, 103, 104, 105, 106, 107, 108, 109, 110, 111, 112, 113, 114, 115, 116, 117, 118, 119, 120, 121, 122, 65, 66, 67, 68, 69, 70, 71, 72, 73, 74, 75, 76, 77, 78, 79, 80, 81, 82, 83, 84, 85, 86, 87, 88, 89, 90, 48, 49, 50, 51, 52, 53, 54, 55, 56, 57, 33, 34, 36, 38, 39, 40, 41, 42, 43, 44, 45, 46, 47, 58, 60, 61, 62, 64, 91, 92, 93, 94, 95, 96, 123, 124, 125, 126]⟩
def lc_PATH_SIGNS : List Nat := [97, 98, 99, 100, 101, 102, 103, 104, 105, 106, 107, 108, 109, 110, 111, 112, 113, 114, 115, 116, 117, 118, 119, 120, 121, 122, 65, 66, 67, 68, 69, 70, 71, 72, 73, 74, 75, 76, 77, 78, 79, 80, 81, 82, 83, 84, 85, 86, 87, 88, 89, 90, 48, 49, 50, 51, 52, 53, 54, 55, 56, 57, 33, 34, 36, 38, 39, 40, 41, 42, 43, 44, 45, 46, 47, 58, 60, 61, 62, 64, 91, 92, 93, 94, 95, 96, 123, 124, 125, 126]
theorem cS_PATH_SIGNS : cs_PATH_SIGNS = S lc_PATH_SIGNS := rfl
instance : LitS cs_PATH_SIGNS lc_PATH_SIGNS := ⟨rfl⟩
theorem lith_ : ("" : Str) = S [] := by decide +kernel
instance : LitS "" [] := ⟨lith_⟩
theorem lit_0 : ("0" : Str) = S [48] := by decide +kernel
instance : LitS "0" [48] := ⟨lit_0⟩
theorem lith_2d : ("-" : Str) = S [45] := by decide +kernel
instance : LitS "-" [45] := ⟨lith_2d⟩
theorem lith_2e : ("." : Str) = S [46] := by decide +kernel
instance : LitS "." [46] := ⟨lith_2e⟩
theorem lith_2f : ("/" : Str) = S [47] := by decide +kernel
instance : LitS "/" [47] := ⟨lith_2f⟩
theorem lit_always : ("always" : Str) = S [97, 108, 119, 97, 121, 115] := by decide +kernel
instance : LitS "always" [97, 108, 119, 97, 121, 115] := ⟨lit_always⟩
theorem lit_new : ("new" : Str) = S [110, 101, 119] := by decide +kernel
instance : LitS "new" [110, 101, 119] := ⟨lit_new⟩
theorem lit_frame : ("frame" : Str) = S [102, 114, 97, 109, 101] := by decide +kernel
instance : LitS "frame" [102, 114, 97, 109, 101] := ⟨lit_frame⟩
theorem lit_picture : ("picture" : Str) = S [112, 105, 99, 116, 117, 114, 101] := by decide +kernel
instance : LitS "picture" [112, 105, 99, 116, 117, 114, 101] := ⟨lit_picture⟩
theorem lit_write : ("write" : Str) = S [119, 114, 105, 116, 101] := by decide +kernel
instance : LitS "write" [119, 114, 105, 116, 101] := ⟨lit_write⟩
theorem lit_left : ("left" : Str) = S [108, 101, 102, 116] := by decide +kernel
instance : LitS "left" [108, 101, 102, 116] := ⟨lit_left⟩
theorem lit_cell : ("cell" : Str) = S [99, 101, 108, 108] := by decide +kernel
instance : LitS "cell" [99, 101, 108, 108] := ⟨lit_cell⟩
theorem lit_turns : ("turns" : Str) = S [116, 117, 114, 110, 115] := by decide +kernel
instance : LitS "turns" [116, 117, 114, 110, 115] := ⟨lit_turns⟩
theorem lit_https : ("https" : Str) = S [104, 116, 116, 112, 115] := by decide +kernel
instance : LitS "https" [104, 116, 116, 112, 115] := ⟨lit_https⟩
theorem lith_612e636f6d : ("a.com" : Str) = S [97, 46, 99, 111, 109] := by decide +kernel
instance : LitS "a.com" [97, 46, 99, 111, 109] := ⟨lith_612e636f6d⟩
theorem lit_http : ("http" : Str) = S [104, 116, 116, 112] := by decide +kernel
instance : LitS "http" [104, 116, 116, 112] := ⟨lit_http⟩
theorem lith_622e632e6e6574 : ("b.c.net" : Str) = S [98, 46, 99, 46, 110, 101, 116] := by decide +kernel
instance : LitS "b.c.net" [98, 46, 99, 46, 110, 101, 116] := ⟨lith_622e632e6e6574⟩
theorem lith_2f702f71 : ("/p/q" : Str) = S [47, 112, 47, 113] := by decide +kernel
instance : LitS "/p/q" [47, 112, 47, 113] := ⟨lith_2f702f71⟩
theorem lith_312e322e332e34 : ("1.2.3.4" : Str) = S [49, 46, 50, 46, 51, 46, 52] := by decide +kernel
instance : LitS "1.2.3.4" [49, 46, 50, 46, 51, 46, 52] := ⟨lith_312e322e332e34⟩
theorem lith_2f7e : ("/~" : Str) = S [47, 126] := by decide +kernel
instance : LitS "/~" [47, 126] := ⟨lith_2f7e⟩
theorem lit_ftp : ("ftp" : Str) = S [102, 116, 112] := by decide +kernel
instance : LitS "ftp" [102, 116, 112] := ⟨lit_ftp⟩
theorem lith_412e636f6d : ("A.com" : Str) = S [65, 46, 99, 111, 109] := by decide +kernel
instance : LitS "A.com" [65, 46, 99, 111, 109] := ⟨lith_412e636f6d⟩
theorem lit_p : ("p" : Str) = S [112] := by decide +kernel
instance : LitS "p" [112] := ⟨lit_p⟩
theorem litm_b38909ebf4 : ("https://a.com/" : Str) = S [104, 116, 116, 112, 115, 58, 47, 47, 97, 46, 99, 111, 109, 47] := by decide +kernel
instance : LitS "https://a.com/" [104, 116, 116, 112, 115, 58, 47, 47, 97, 46, 99, 111, 109, 47] := ⟨litm_b38909ebf4⟩
theorem lit_localhost : ("localhost" : Str) = S [108, 111, 99, 97, 108, 104, 111, 115, 116] := by decide +kernel
instance : LitS "localhost" [108, 111, 99, 97, 108, 104, 111, 115, 116] := ⟨lit_localhost⟩
theorem lith_2f3b : ("/;" : Str) = S [47, 59] := by decide +kernel
instance : LitS "/;" [47, 59] := ⟨lith_2f3b⟩
theorem lith_612e2e636f6d : ("a..com" : Str) = S [97, 46, 46, 99, 111, 109] := by decide +kernel
instance : LitS "a..com" [97, 46, 46, 99, 111, 109] := ⟨lith_612e2e636f6d⟩
theorem lith_2f612062 : ("/a b" : Str) = S [47, 97, 32, 98] := by decide +kernel
instance : LitS "/a b" [47, 97, 32, 98] := ⟨lith_2f612062⟩
theorem lit_x : ("x" : Str) = S [120] := by decide +kernel
instance : LitS "x" [120] := ⟨lit_x⟩
theorem lith_613d31 : ("a=1" : Str) = S [97, 61, 49] := by decide +kernel
instance : LitS "a=1" [97, 61, 49] := ⟨lith_613d31⟩
theorem litm_bc9aca0b63 : ("a=*; Path=/" : Str) = S [97, 61, 42, 59, 32, 80, 97, 116, 104, 61, 47] := by decide +kernel
instance : LitS "a=*; Path=/" [97, 61, 42, 59, 32, 80, 97, 116, 104, 61, 47] := ⟨litm_bc9aca0b63⟩
theorem lith_3b3b0a : (";;\n" : Str) = S [59, 59, 10] := by decide +kernel
instance : LitS ";;\n" [59, 59, 10] := ⟨lith_3b3b0a⟩
theorem lit_never : ("never" : Str) = S [110, 101, 118, 101, 114] := by decide +kernel
instance : LitS "never" [110, 101, 118, 101, 114] := ⟨lit_never⟩
theorem lit_a : ("a" : Str) = S [97] := by decide +kernel
instance : LitS "a" [97] := ⟨lit_a⟩
theorem lit_b : ("b" : Str) = S [98] := by decide +kernel
instance : LitS "b" [98] := ⟨lit_b⟩
theorem lit_ab : ("ab" : Str) = S [97, 98] := by decide +kernel
instance : LitS "ab" [97, 98] := ⟨lit_ab⟩
theorem lit_Always : ("Always" : Str) = S [65, 108, 119, 97, 121, 115] := by decide +kernel
instance : LitS "Always" [65, 108, 119, 97, 121, 115] := ⟨lit_Always⟩
theorem lit_script : ("script" : Str) = S [115, 99, 114, 105, 112, 116] := by decide +kernel
instance : LitS "script" [115, 99, 114, 105, 112, 116] := ⟨lit_script⟩
theorem lith_613d2a : ("a=*" : Str) = S [97, 61, 42] := by decide +kernel
instance : LitS "a=*" [97, 61, 42] := ⟨lith_613d2a⟩
theorem lit_goal : ("goal" : Str) = S [103, 111, 97, 108] := by decide +kernel
instance : LitS "goal" [103, 111, 97, 108] := ⟨lit_goal⟩
theorem lit_other : ("other" : Str) = S [111, 116, 104, 101, 114] := by decide +kernel
instance : LitS "other" [111, 116, 104, 101, 114] := ⟨lit_other⟩
theorem lit_told : ("told" : Str) = S [116, 111, 108, 100] := by decide +kernel
instance : LitS "told" [116, 111, 108, 100] := ⟨lit_told⟩
theorem lith_2e636f6d : (".com" : Str) = S [46, 99, 111, 109] := by decide +kernel
instance : LitS ".com" [46, 99, 111, 109] := ⟨lith_2e636f6d⟩
theorem lit_h : ("h" : Str) = S [104] := by decide +kernel
instance : LitS "h" [104] := ⟨lit_h⟩
theorem lit_table : ("table" : Str) = S [116, 97, 98, 108, 101] := by decide +kernel
instance : LitS "table" [116, 97, 98, 108, 101] := ⟨lit_table⟩
def cv_SCHEMES : List V := [.str ⟨#[104, 116, 116, 112]⟩, .str ⟨#[104, 116, 116, 112, 115]⟩]
def lcv_SCHEMES : List (List Nat) := [[104, 116, 116, 112], [104, 116, 116, 112, 115]]
structure Txt (K : PySem.W.Frag) (mg : Str → Option Value) (w : World) where
  f_s1_is_number_word : Addr
  d_s1_is_number_word : FuncData
  F_s1_is_number_word : Fun K "s1_is_number_word" "s1_is_number_word" S_s1_is_number_word f_s1_is_number_word d_s1_is_number_word
  g_s1_is_number_word : mg "s1_is_number_word" = some (.ref f_s1_is_number_word)
  f_s1_is_small : Addr
  d_s1_is_small : FuncData
  F_s1_is_small : Fun K "s1_is_small" "s1_is_small" S_s1_is_small f_s1_is_small d_s1_is_small
  g_s1_is_small : mg "s1_is_small" = some (.ref f_s1_is_small)
  f_s1_is_label : Addr
  d_s1_is_label : FuncData
  F_s1_is_label : Fun K "s1_is_label" "s1_is_label" S_s1_is_label f_s1_is_label d_s1_is_label
  g_s1_is_label : mg "s1_is_label" = some (.ref f_s1_is_label)
  f_is_address_host : Addr
  d_is_address_host : FuncData
  F_is_address_host : Fun K "is_address_host" "is_address_host" S_is_address_host f_is_address_host d_is_address_host
  g_is_address_host : mg "is_address_host" = some (.ref f_is_address_host)
  f_is_host : Addr
  d_is_host : FuncData
  F_is_host : Fun K "is_host" "is_host" S_is_host f_is_host d_is_host
  g_is_host : mg "is_host" = some (.ref f_is_host)
  f_s1_is_path_sign : Addr
  d_s1_is_path_sign : FuncData
  F_s1_is_path_sign : Fun K "s1_is_path_sign" "s1_is_path_sign" S_s1_is_path_sign f_s1_is_path_sign d_s1_is_path_sign
  g_s1_is_path_sign : mg "s1_is_path_sign" = some (.ref f_s1_is_path_sign)
  f_is_path : Addr
  d_is_path : FuncData
  F_is_path : Fun K "is_path" "is_path" S_is_path f_is_path d_is_path
  g_is_path : mg "is_path" = some (.ref f_is_path)
  f_is_origin : Addr
  d_is_origin : FuncData
  F_is_origin : Fun K "is_origin" "is_origin" S_is_origin f_is_origin d_is_origin
  g_is_origin : mg "is_origin" = some (.ref f_is_origin)
  f_is_address : Addr
  d_is_address : FuncData
  F_is_address : Fun K "is_address" "is_address" S_is_address f_is_address d_is_address
  g_is_address : mg "is_address" = some (.ref f_is_address)
  f_s6_is_text : Addr
  d_s6_is_text : FuncData
  F_s6_is_text : Fun K "s6_is_text" "s6_is_text" S_s6_is_text f_s6_is_text d_s6_is_text
  g_s6_is_text : mg "s6_is_text" = some (.ref f_s6_is_text)
  f_s6_is_pair : Addr
  d_s6_is_pair : FuncData
  F_s6_is_pair : Fun K "s6_is_pair" "s6_is_pair" S_s6_is_pair f_s6_is_pair d_s6_is_pair
  g_s6_is_pair : mg "s6_is_pair" = some (.ref f_s6_is_pair)
  f_s6_is_line : Addr
  d_s6_is_line : FuncData
  F_s6_is_line : Fun K "s6_is_line" "s6_is_line" S_s6_is_line f_s6_is_line d_s6_is_line
  g_s6_is_line : mg "s6_is_line" = some (.ref f_s6_is_line)
  f_s6_is_part : Addr
  d_s6_is_part : FuncData
  F_s6_is_part : Fun K "s6_is_part" "s6_is_part" S_s6_is_part f_s6_is_part d_s6_is_part
  g_s6_is_part : mg "s6_is_part" = some (.ref f_s6_is_part)
  f_is_answer : Addr
  d_is_answer : FuncData
  F_is_answer : Fun K "is_answer" "is_answer" S_is_answer f_is_answer d_is_answer
  g_is_answer : mg "is_answer" = some (.ref f_is_answer)
  f_s6_is_item : Addr
  d_s6_is_item : FuncData
  F_s6_is_item : Fun K "s6_is_item" "s6_is_item" S_s6_is_item f_s6_is_item d_s6_is_item
  g_s6_is_item : mg "s6_is_item" = some (.ref f_s6_is_item)
  f_check_table : Addr
  d_check_table : FuncData
  F_check_table : Fun K "check_table" "check_table" S_check_table f_check_table d_check_table
  g_check_table : mg "check_table" = some (.ref f_check_table)
  f__law_mixed : Addr
  d__law_mixed : FuncData
  F__law_mixed : Fun K "_law_mixed" "_law_mixed" S__law_mixed f__law_mixed d__law_mixed
  g__law_mixed : mg "_law_mixed" = some (.ref f__law_mixed)
  f__law_draw : Addr
  d__law_draw : FuncData
  F__law_draw : Fun K "_law_draw" "_law_draw" S__law_draw f__law_draw d__law_draw
  g__law_draw : mg "_law_draw" = some (.ref f__law_draw)
  f__law_digit : Addr
  d__law_digit : FuncData
  F__law_digit : Fun K "_law_digit" "_law_digit" S__law_digit f__law_digit d__law_digit
  g__law_digit : mg "_law_digit" = some (.ref f__law_digit)
  f__law_pick : Addr
  d__law_pick : FuncData
  F__law_pick : Fun K "_law_pick" "_law_pick" S__law_pick f__law_pick d__law_pick
  g__law_pick : mg "_law_pick" = some (.ref f__law_pick)
  f__law_place : Addr
  d__law_place : FuncData
  F__law_place : Fun K "_law_place" "_law_place" S__law_place f__law_place d__law_place
  g__law_place : mg "_law_place" = some (.ref f__law_place)
  f__law_one_line : Addr
  d__law_one_line : FuncData
  F__law_one_line : Fun K "_law_one_line" "_law_one_line" S__law_one_line f__law_one_line d__law_one_line
  g__law_one_line : mg "_law_one_line" = some (.ref f__law_one_line)
  f__law_one_part : Addr
  d__law_one_part : FuncData
  F__law_one_part : Fun K "_law_one_part" "_law_one_part" S__law_one_part f__law_one_part d__law_one_part
  g__law_one_part : mg "_law_one_part" = some (.ref f__law_one_part)
  f__law_some : Addr
  d__law_some : FuncData
  F__law_some : Fun K "_law_some" "_law_some" S__law_some f__law_some d__law_some
  g__law_some : mg "_law_some" = some (.ref f__law_some)
  f__law_response : Addr
  d__law_response : FuncData
  F__law_response : Fun K "_law_response" "_law_response" S__law_response f__law_response d__law_response
  g__law_response : mg "_law_response" = some (.ref f__law_response)
  f__law_error : Addr
  d__law_error : FuncData
  F__law_error : Fun K "_law_error" "_law_error" S__law_error f__law_error d__law_error
  g__law_error : mg "_law_error" = some (.ref f__law_error)
  f__law_item : Addr
  d__law_item : FuncData
  F__law_item : Fun K "_law_item" "_law_item" S__law_item f__law_item d__law_item
  g__law_item : mg "_law_item" = some (.ref f__law_item)
  f__law_table_right : Addr
  d__law_table_right : FuncData
  F__law_table_right : Fun K "_law_table_right" "_law_table_right" S__law_table_right f__law_table_right d__law_table_right
  g__law_table_right : mg "_law_table_right" = some (.ref f__law_table_right)
  f_law : Addr
  d_law : FuncData
  F_law : Fun K "law" "law" S_law f_law d_law
  g_law : mg "law" = some (.ref f_law)
  c_DIGITS : ∃ t, mg "DIGITS" = some (.str cs_DIGITS t)
  c_MOST_SIGNS : ∃ t, mg "MOST_SIGNS" = some (.int (100) t)
  c_MOST_LABELS : ∃ t, mg "MOST_LABELS" = some (.int (10) t)
  c_MOST_LABEL : ∃ t, mg "MOST_LABEL" = some (.int (20) t)
  c_LABEL_SIGNS : ∃ t, mg "LABEL_SIGNS" = some (.str cs_LABEL_SIGNS t)
  c_MOST_PATH : ∃ t, mg "MOST_PATH" = some (.int (200) t)
  c_PATH_SIGNS : ∃ t, mg "PATH_SIGNS" = some (.str cs_PATH_SIGNS t)
  c_S6_MOST_ITEMS : ∃ t, mg "S6_MOST_ITEMS" = some (.int (30) t)
  c_S6_MOST_LINES : ∃ t, mg "S6_MOST_LINES" = some (.int (5) t)
  c_S6_MOST_PARTS : ∃ t, mg "S6_MOST_PARTS" = some (.int (4) t)
  c_S6_MOST_SIGNS : ∃ t, mg "S6_MOST_SIGNS" = some (.int (400) t)
  a_SCHEMES : Addr
  q_SCHEMES : mg "SCHEMES" = some (.ref a_SCHEMES)
  s_SCHEMES : ∀ H, SqT K H a_SCHEMES cv_SCHEMES
  t_SCHEMES : ∀ H, tyV K "tuple" (.ref a_SCHEMES) H
  C_BadTable : Addr
  I_BadTable : Addr
  E_BadTable : ExS.ExcT PW K mg "BadTable" "BadTable.__init__" SI_BadTable C_BadTable I_BadTable "index"
  C_CrumbError : Addr
  B_CrumbError : ExS.ExcB K mg "CrumbError" C_CrumbError
  X_BadTable : L2.ExcC K C_BadTable
  y_BadTable_CrumbError : PySem.W.subIn K (.ref C_BadTable) (.ref C_CrumbError) = some true
  n_all : mg "all" = none
  n_enumerate : mg "enumerate" = none
  n_int : mg "int" = none
  n_isinstance : mg "isinstance" = none
  n_len : mg "len" = none
  n_list : mg "list" = none
  n_range : mg "range" = none
  n_repr : mg "repr" = none
  n_str : mg "str" = none
  n_sum : mg "sum" = none
  n_super : mg "super" = none
  n_tuple : mg "tuple" = none
section
variable {K : PySem.W.Frag} {mg : Str → Option Value} {w : World}
theorem Txt.b_s1_is_number_word (T : Txt K mg w) : Binds K T.d_s1_is_number_word ["text"] [] := T.F_s1_is_number_word.binds fun _ _ _ _ _ _ us hl => match us, hl with | [_], _ => rfl
theorem Txt.b_s1_is_small (T : Txt K mg w) : Binds K T.d_s1_is_small ["word"] [] := T.F_s1_is_small.binds fun _ _ _ _ _ _ us hl => match us, hl with | [_], _ => rfl
theorem Txt.b_s1_is_label (T : Txt K mg w) : Binds K T.d_s1_is_label ["text"] [] := T.F_s1_is_label.binds fun _ _ _ _ _ _ us hl => match us, hl with | [_], _ => rfl
theorem Txt.b_is_address_host (T : Txt K mg w) : Binds K T.d_is_address_host ["value"] [] := T.F_is_address_host.binds fun _ _ _ _ _ _ us hl => match us, hl with | [_], _ => rfl
theorem Txt.b_is_host (T : Txt K mg w) : Binds K T.d_is_host ["value"] [] := T.F_is_host.binds fun _ _ _ _ _ _ us hl => match us, hl with | [_], _ => rfl
theorem Txt.b_s1_is_path_sign (T : Txt K mg w) : Binds K T.d_s1_is_path_sign ["sign"] [] := T.F_s1_is_path_sign.binds fun _ _ _ _ _ _ us hl => match us, hl with | [_], _ => rfl
theorem Txt.b_is_path (T : Txt K mg w) : Binds K T.d_is_path ["value"] [] := T.F_is_path.binds fun _ _ _ _ _ _ us hl => match us, hl with | [_], _ => rfl
theorem Txt.b_is_origin (T : Txt K mg w) : Binds K T.d_is_origin ["value"] [] := T.F_is_origin.binds fun _ _ _ _ _ _ us hl => match us, hl with | [_], _ => rfl
theorem Txt.b_is_address (T : Txt K mg w) : Binds K T.d_is_address ["value"] [] := T.F_is_address.binds fun _ _ _ _ _ _ us hl => match us, hl with | [_], _ => rfl
theorem Txt.b_s6_is_text (T : Txt K mg w) : Binds K T.d_s6_is_text ["value"] [] := T.F_s6_is_text.binds fun _ _ _ _ _ _ us hl => match us, hl with | [_], _ => rfl
theorem Txt.b_s6_is_pair (T : Txt K mg w) : Binds K T.d_s6_is_pair ["value", "words"] [] := T.F_s6_is_pair.binds fun _ _ _ _ _ _ us hl => match us, hl with | [_, _], _ => rfl
theorem Txt.b_s6_is_line (T : Txt K mg w) : Binds K T.d_s6_is_line ["value"] [] := T.F_s6_is_line.binds fun _ _ _ _ _ _ us hl => match us, hl with | [_], _ => rfl
theorem Txt.b_s6_is_part (T : Txt K mg w) : Binds K T.d_s6_is_part ["value"] [] := T.F_s6_is_part.binds fun _ _ _ _ _ _ us hl => match us, hl with | [_], _ => rfl
theorem Txt.b_is_answer (T : Txt K mg w) : Binds K T.d_is_answer ["value"] [] := T.F_is_answer.binds fun _ _ _ _ _ _ us hl => match us, hl with | [_], _ => rfl
theorem Txt.b_s6_is_item (T : Txt K mg w) : Binds K T.d_s6_is_item ["value"] [] := T.F_s6_is_item.binds fun _ _ _ _ _ _ us hl => match us, hl with | [_], _ => rfl
theorem Txt.b_check_table (T : Txt K mg w) : Binds K T.d_check_table ["value"] [] := T.F_check_table.binds fun _ _ _ _ _ _ us hl => match us, hl with | [_], _ => rfl
theorem Txt.b__law_mixed (T : Txt K mg w) : Binds K T.d__law_mixed ["_law_cell", "_law_k"] [] := T.F__law_mixed.binds fun _ _ _ _ _ _ us hl => match us, hl with | [_, _], _ => rfl
theorem Txt.b__law_draw (T : Txt K mg w) : Binds K T.d__law_draw ["_law_cell", "_law_k"] [] := T.F__law_draw.binds fun _ _ _ _ _ _ us hl => match us, hl with | [_, _], _ => rfl
theorem Txt.b__law_digit (T : Txt K mg w) : Binds K T.d__law_digit ["_law_state", "_law_size"] [] := T.F__law_digit.binds fun _ _ _ _ _ _ us hl => match us, hl with | [_, _], _ => rfl
theorem Txt.b__law_pick (T : Txt K mg w) : Binds K T.d__law_pick ["_law_state", "_law_items"] [] := T.F__law_pick.binds fun _ _ _ _ _ _ us hl => match us, hl with | [_, _], _ => rfl
theorem Txt.b__law_place (T : Txt K mg w) : Binds K T.d__law_place ["_law_state", "_law_is_right"] [] := T.F__law_place.binds fun _ _ _ _ _ _ us hl => match us, hl with | [_, _], _ => rfl
theorem Txt.b__law_one_line (T : Txt K mg w) : Binds K T.d__law_one_line ["_law_state", "_law_is_right"] [] := T.F__law_one_line.binds fun _ _ _ _ _ _ us hl => match us, hl with | [_, _], _ => rfl
theorem Txt.b__law_one_part (T : Txt K mg w) : Binds K T.d__law_one_part ["_law_state", "_law_is_right"] [] := T.F__law_one_part.binds fun _ _ _ _ _ _ us hl => match us, hl with | [_, _], _ => rfl
theorem Txt.b__law_some (T : Txt K mg w) : Binds K T.d__law_some ["_law_state", "_law_many", "_law_is_wrong", "_law_made"] [] := T.F__law_some.binds fun _ _ _ _ _ _ us hl => match us, hl with | [_, _, _, _], _ => rfl
theorem Txt.b__law_response (T : Txt K mg w) : Binds K T.d__law_response ["_law_state"] [] := T.F__law_response.binds fun _ _ _ _ _ _ us hl => match us, hl with | [_], _ => rfl
theorem Txt.b__law_error (T : Txt K mg w) : Binds K T.d__law_error ["_law_value"] [] := T.F__law_error.binds fun _ _ _ _ _ _ us hl => match us, hl with | [_], _ => rfl
theorem Txt.b__law_item (T : Txt K mg w) : Binds K T.d__law_item ["_law_state", "_law_at"] [] := T.F__law_item.binds fun _ _ _ _ _ _ us hl => match us, hl with | [_, _], _ => rfl
theorem Txt.b__law_table_right (T : Txt K mg w) : Binds K T.d__law_table_right ["_law_state"] [] := T.F__law_table_right.binds fun _ _ _ _ _ _ us hl => match us, hl with | [_], _ => rfl
theorem Txt.b_law (T : Txt K mg w) : Binds K T.d_law ["_law_script"] [] := T.F_law.binds fun _ _ _ _ _ _ us hl => match us, hl with | [_], _ => rfl
theorem Txt.w_SCHEMES (T : Txt K mg w) : ∀ H, SqT K H T.a_SCHEMES (lcv_SCHEMES.map fun l => V.str (S l)) := T.s_SCHEMES
end
set_option hygiene false
local macro_rules | `(tactic| walk_at "cj1") => `(tactic| (repeat' first
      | with_reducible refine Go.callTx ?_
      | with_reducible refine Stp.go ?_
      | ((with_reducible apply Go.var); (focus exact rfl))
      | exact GoS.retN rfl
      | with_reducible refine GoS.ret ?_
      | with_reducible refine GoS.ite ?_
      | with_reducible refine Go.ite ?_
      | with_reducible refine Go.pick ?_
      | with_reducible refine Go.tup (K := K) ?_
      | with_reducible refine Go.lst (K := K) ?_
      | with_reducible refine GoI.enumS (K := K) ?_
      | with_reducible refine Go.bm ?_
      | with_reducible apply GoT.andJ
      | with_reducible apply GoT.orJ
      | with_reducible apply Go.andVJ
      | with_reducible apply Go.orVJ
      | with_reducible apply Go.chainJ
      | with_reducible refine Go.c ?_
      | with_reducible refine Go.dni ?_
      | with_reducible refine Go.dgetC ?_
      | with_reducible refine Go.dget ?_
      | with_reducible refine Go.din ?_
      | with_reducible refine GoS.dput ?_
      | with_reducible refine Go.callQ3 ?_
      | with_reducible refine Go.callQ2 ?_
      | with_reducible refine Go.callQ ?_
      | with_reducible refine Go.callP0 ?_
      | with_reducible apply Go.lcM1 (K := K)
      | with_reducible apply Go.lcF1 (K := K)
      | with_reducible apply Go.lcM2 (K := K) (by decide)
      | with_reducible apply Go.lcF2 (K := K) (by decide)
      | ((with_reducible apply v_ixT); (focus exact rfl))
      | ((with_reducible apply v_ixL); (focus exact rfl))
      | ((with_reducible apply v_ixL); (focus exact at0 _ _))
      | refine v_tidxS ?_ ?_
      | refine v_split (K := K) (by decide) ?_ ?_
      | ((with_reducible refine Sde.mk ?_); first | (right; decide) | (left; decide) | (left; constructor <;> omega))
      | with_reducible refine and_T (by assumption) ?_
      | with_reducible refine and_F (by assumption) ?_
      | with_reducible refine ⟨fun h => absurd h (by decide), fun _ => ?_⟩
      | with_reducible refine ⟨fun _ => ?_, fun h => absurd h (by decide)⟩
      | with_reducible refine And.intro (fun h => ?_) (fun h => ?_)
      | exact ⟨_, rfl⟩
      | exact ⟨rfl, rfl⟩
      | exact ⟨rfl, rfl, rfl⟩
      | refine ⟨_, rfl, ?_⟩
      | refine ⟨_, _, _, [], _, .inr _, rfl, rfl, rfl, ?_⟩
      | refine ⟨_, _, _, [_], _, .inr _, rfl, rfl, rfl, ?_⟩
      | refine ⟨_, _, _, [_, _], _, .inr _, rfl, rfl, rfl, ?_⟩
      | refine ⟨_, .inr _, rfl, rfl, ?_⟩
      | refine ⟨_, (by assumption), ?_⟩
      | refine ⟨_, _, _, _, rfl, rfl, ?_, fun (i9 : Int) l9 u9 => ?_⟩
      | refine ⟨_, _, _, _, rfl, rfl, ?_, fun (A9 : As) h9 => ?_⟩
      | refine ⟨_, _, rfl, ?_, ?_⟩
      | refine ⟨_, _, _, rfl, ?_, ?_⟩
      | refine ⟨_, _, rfl, ?_⟩
      | refine ⟨_, _, _, rfl, ?_⟩
      | with_reducible exact ff9
      | with_reducible exact tf9
      | with_reducible intro x hx R9
      | with_reducible intro A9 h9
      | with_reducible intro _
      | exact True.intro
      | (simp only [repL_len, List.length_cons, List.length_nil, List.length_append, List.length_replicate]; decide)
      | exact Nat.le_of_ble_eq_true rfl
      | exact rfl
      | assumption
      | omega
      | (simp only [List.length_map, List.length_append, List.length_cons, List.length_nil, List.length_range]; omega)
      | exact nl1 (by omega) (by omega) (by decide)
      | exact nl2 (by omega) (by omega) (by decide)
      | exact nl3 (by omega) (by omega) (by decide) (by decide)
      | refine And.intro trivial ?_
      | with_reducible refine And.intro ?_ ?_
      | (dsimp only; omega)
      | exact false
      | fail))
local macro_rules | `(tactic| walk_at "cj2") => `(tactic| (repeat' first
      | exact GoS.retN rfl
      | with_reducible refine Go.cS lit_0 ?_
      | with_reducible refine Go.callTx ?_
      | with_reducible refine fin_P ?_
      | with_reducible refine fin_Q ?_
      | with_reducible refine GoS.nil ?_
      | with_reducible refine GoS.seq ?_
      | with_reducible refine GoS.ret ?_
      | with_reducible refine GoS.set ?_
      | with_reducible refine GoS.ite ?_
      | with_reducible refine GoS.drop ?_
      | with_reducible refine GoS.cut ?_
      | with_reducible refine GoS.par ?_
      | with_reducible refine GoS.par3 ?_
      | with_reducible refine GoG.tup rfl ?_
      | with_reducible refine GoS.asg ?_
      | with_reducible apply GoT.andJ
      | with_reducible apply GoT.orJ
      | with_reducible apply Go.andVJ
      | with_reducible apply Go.orVJ
      | with_reducible apply Go.chainJ
      | with_reducible refine Go.notV ?_
      | with_reducible refine Go.ite ?_
      | with_reducible refine Go.tup (K := K) ?_
      | with_reducible refine Go.lst (K := K) ?_
      | with_reducible refine Go.cb ?_
      | with_reducible refine Go.bm ?_
      | with_reducible refine Go.bm0 ?_
      | with_reducible refine Go.m1 ?_
      | with_reducible refine Go.m0 ?_
      | with_reducible refine Go.sl ?_
      | with_reducible refine Go.un ?_
      | with_reducible refine Go.op ?_
      | with_reducible refine Go.dni ?_
      | with_reducible refine Go.dgetC ?_
      | with_reducible refine Go.dget ?_
      | with_reducible refine Go.din ?_
      | with_reducible refine GoS.dput ?_
      | with_reducible refine Go.callQ3 ?_
      | with_reducible refine Go.callQ2 ?_
      | with_reducible refine Go.callQ ?_
      | with_reducible refine Go.digit ?_
      | with_reducible refine Go.pick ?_
      | with_reducible refine Go.callP3 ?_
      | with_reducible refine Go.callP2 ?_
      | with_reducible refine Go.callP0 ?_
      | with_reducible refine Go.callP ?_
      | with_reducible refine GoA.nil ?_
      | with_reducible refine GoA.cons ?_
      | with_reducible refine GoO.none ?_
      | with_reducible refine GoO.part ?_
      | with_reducible refine GoT.test ?_
      | with_reducible refine GoT.b ?_
      | with_reducible refine GoT.tru ?_
      | with_reducible refine GoT.not ?_
      | with_reducible refine GoT.yes ?_
      | with_reducible refine GoG.name ?_
      | with_reducible refine GoGs.nil ?_
      | with_reducible refine GoGs.cons ?_
      | with_reducible refine GoI.ofL ?_
      | with_reducible refine GoI.ofT ?_
      | with_reducible refine GoI.str ?_
      | with_reducible refine GoI.rng1 ?_
      | with_reducible refine GoI.rng2 ?_
      | with_reducible refine GoI.enum ?_
      | with_reducible refine GoI.enumT ?_
      | with_reducible apply Go.lcM1 (K := K)
      | with_reducible apply Go.lcF1 (K := K)
      | with_reducible apply Go.lcM2 (K := K) (by decide)
      | with_reducible apply Go.lcF2 (K := K) (by decide)
      | refine Go.var rfl ?_
      | with_reducible refine Go.c ?_
      | refine GoS.retN ?_
      | refine v_mod (by first | decide | omega) ?_
      | refine v_fdiv (by first | decide | (constructor <;> omega)) ?_
      | refine v_fdivW (by omega) ?_
      | refine v_mul (by first | decide | (right; decide) | (left; decide) | (left; constructor <;> omega)) ?_
      | refine v_addI ?_
      | refine v_rU ?_
      | refine v_subI ?_
      | with_reducible refine v_is_s_str ?_
      | with_reducible refine v_is_s_int ?_
      | with_reducible refine v_is_s_bool ?_
      | with_reducible refine v_is_s_tuple ?_
      | with_reducible refine v_is_s_list ?_
      | with_reducible refine v_is_s_dict ?_
      | with_reducible refine v_is_i_str ?_
      | with_reducible refine v_is_i_int ?_
      | with_reducible refine v_is_i_bool ?_
      | with_reducible refine v_is_i_tuple ?_
      | with_reducible refine v_is_i_list ?_
      | with_reducible refine v_is_i_dict ?_
      | with_reducible refine v_is_b_str ?_
      | with_reducible refine v_is_b_int ?_
      | with_reducible refine v_is_b_bool ?_
      | with_reducible refine v_is_b_tuple ?_
      | with_reducible refine v_is_b_list ?_
      | with_reducible refine v_is_b_dict ?_
      | with_reducible refine v_is_n_str ?_
      | with_reducible refine v_is_n_int ?_
      | with_reducible refine v_is_n_bool ?_
      | with_reducible refine v_is_n_tuple ?_
      | with_reducible refine v_is_n_list ?_
      | with_reducible refine v_is_n_dict ?_
      | with_reducible refine v_is_l_str ?_
      | with_reducible refine v_is_l_int ?_
      | with_reducible refine v_is_l_bool ?_
      | with_reducible refine v_is_l_tuple ?_
      | with_reducible refine v_is_l_list ?_
      | with_reducible refine v_is_l_dict ?_
      | with_reducible refine v_is_t_str ?_
      | with_reducible refine v_is_t_int ?_
      | with_reducible refine v_is_t_bool ?_
      | with_reducible refine v_is_t_tuple ?_
      | with_reducible refine v_is_t_list ?_
      | with_reducible refine v_is_t_dict ?_
      | with_reducible refine v_is_d_str ?_
      | with_reducible refine v_is_d_int ?_
      | with_reducible refine v_is_d_bool ?_
      | with_reducible refine v_is_d_tuple ?_
      | with_reducible refine v_is_d_list ?_
      | with_reducible refine v_is_d_dict ?_
      | refine v_eqE ?_
      | refine v_neE ?_
      | refine v_eqI ?_
      | refine v_neI ?_
      | refine v_eqS ?_
      | refine v_neS ?_
      | refine v_eqB ?_
      | refine v_neB ?_
      | refine v_lt ?_
      | refine v_le ?_
      | refine v_gt ?_
      | refine v_ge ?_
      | refine v_isNO ?_
      | refine v_notNO ?_
      | refine v_notOp ?_ ?_
      | refine v_ixT rfl ?_
      | refine v_ixL rfl ?_
      | refine v_ixL (at0 _ _) ?_
      | refine v_inTS (ns := [_]) ?_
      | refine v_inTS (ns := [_, _]) ?_
      | refine v_inTS (ns := [_, _, _]) ?_
      | refine v_inTS (ns := [_, _, _, _]) ?_
      | refine v_niTS (ns := [_]) ?_
      | refine v_niTS (ns := [_, _]) ?_
      | refine v_niTS (ns := [_, _, _]) ?_
      | refine v_niTS (ns := [_, _, _, _]) ?_
      | refine v_inLS (ns := [_]) ?_
      | refine v_inLS (ns := [_, _]) ?_
      | refine v_inLS (ns := [_, _, _]) ?_
      | refine v_inLS (ns := [_, _, _, _]) ?_
      | refine v_niLS (ns := [_]) ?_
      | refine v_niLS (ns := [_, _]) ?_
      | refine v_niLS (ns := [_, _, _]) ?_
      | refine v_niLS (ns := [_, _, _, _]) ?_
      | refine v_inTI (ns := [_]) ?_
      | refine v_inTI (ns := [_, _]) ?_
      | refine v_inTI (ns := [_, _, _]) ?_
      | refine v_inTI (ns := [_, _, _, _]) ?_
      | refine v_niTI (ns := [_]) ?_
      | refine v_niTI (ns := [_, _]) ?_
      | refine v_niTI (ns := [_, _, _]) ?_
      | refine v_niTI (ns := [_, _, _, _]) ?_
      | refine v_inLI (ns := [_]) ?_
      | refine v_inLI (ns := [_, _]) ?_
      | refine v_inLI (ns := [_, _, _]) ?_
      | refine v_inLI (ns := [_, _, _, _]) ?_
      | refine v_niLI (ns := [_]) ?_
      | refine v_niLI (ns := [_, _]) ?_
      | refine v_niLI (ns := [_, _, _]) ?_
      | refine v_niLI (ns := [_, _, _, _]) ?_
      | refine v_inTI ?_
      | refine v_inLI ?_
      | refine v_inTS ?_
      | refine v_inLS ?_
      | refine v_niTI ?_
      | refine v_niLI ?_
      | refine v_niTS ?_
      | refine v_niLS ?_
      | refine v_noIn ?_
      | refine v_noNi ?_
      | refine v_isN ?_
      | refine v_notN ?_
      | refine v_inC ?_
      | refine v_niC ?_
      | refine v_catS ?_ ?_
      | refine v_lenS ?_ ?_
      | refine v_slS ?_ ?_
      | refine v_split (K := K) (by decide) ?_ ?_
      | refine v_joinE ?_ ?_
      | refine v_joinF ?_ ?_
      | refine v_startsw ?_
      | refine v_endsw ?_
      | refine v_count1 ?_
      | refine v_intI ?_
      | refine v_intS (by assumption) (by omega) ?_
      | refine v_strN (by omega) (by omega) ?_
      | refine v_intB ?_
      | refine v_max2 ?_
      | refine v_min2 ?_
      | refine v_lenL ?_
      | refine v_lenT ?_
      | refine v_slL ?_
      | refine v_slQ ?_
      | refine v_lenQ ?_
      | refine v_sumQ ?_
      | with_reducible refine Go.dnew ?_
      | refine v_sum ?_
      | refine v_tidxS ?_ ?_
      | refine v_tupL ?_
      | refine v_tupT ?_
      | refine v_lstL ?_
      | refine v_lstT ?_
      | refine v_append (pre := []) ?_ ?_
      | refine v_append (pre := [_]) ?_ ?_
      | refine v_append (pre := [_, _]) ?_ ?_
      | refine v_append (pre := [_, _, _]) ?_ ?_
      | refine v_extend (pre := []) ?_ ?_
      | refine v_extend (pre := [_]) ?_ ?_
      | refine v_lenO (pre := []) ?_
      | refine v_lenO (pre := [_]) ?_
      | refine v_lenD (pre := []) ?_
      | refine v_lenC ?_
      | refine v_cat ?_ ?_
      | exact ty_o (pre := [])
      | exact ty_o (pre := [_])
      | exact ty_s
      | exact ty_l
      | refine v_all ?_
      | refine v_any ?_
      | exact Nat.le_of_ble_eq_true rfl
      | exact nl1 (by omega) (by omega) (by decide)
      | exact nl2 (by omega) (by omega) (by decide)
      | exact nl3 (by omega) (by omega) (by decide) (by decide)
      | exact ⟨_, rfl⟩
      | exact ⟨rfl, rfl⟩
      | exact ⟨rfl, rfl, rfl⟩
      | refine ⟨_, rfl, ?_⟩
      | refine ⟨_, _, _, [], _, .inr _, rfl, rfl, rfl, ?_⟩
      | refine ⟨_, .inr _, rfl, rfl, ?_⟩
      | refine ⟨_, (by assumption), ?_⟩
      | refine ⟨_, _, _, _, rfl, rfl, ?_, fun (i9 : Int) l9 u9 => ?_⟩
      | refine ⟨_, _, _, _, rfl, rfl, ?_, fun (A9 : As) h9 => ?_⟩
      | refine ⟨_, _, rfl, ?_, ?_⟩
      | refine ⟨_, _, _, rfl, ?_, ?_⟩
      | refine ⟨_, _, rfl, ?_⟩
      | refine ⟨_, _, _, rfl, ?_⟩
      | with_reducible refine and_T (by assumption) ?_
      | with_reducible refine and_F (by assumption) ?_
      | with_reducible refine ⟨fun h => absurd h (by decide), fun _ => ?_⟩
      | with_reducible refine ⟨fun _ => ?_, fun h => absurd h (by decide)⟩
      | with_reducible refine And.intro (fun h => ?_) (fun h => ?_)
      | with_reducible intro x hx R9
      | with_reducible intro A9 h9
      | with_reducible intro _
      | omega
      | (simp only [List.length_map, List.length_append, List.length_cons, List.length_nil, List.length_range]; omega)
      | exact True.intro
      | exact rfl
      | assumption
      | refine And.intro trivial ?_
      | with_reducible refine And.intro ?_ ?_
      | omega
      | (dsimp only; omega)
      | (simp only [List.length_append, List.length_cons, List.length_nil]; omega)
      | fail))
local macro_rules | `(tactic| walk_at "cj3") => `(tactic| (repeat' first
      | exact GoS.retN rfl
      | with_reducible refine Go.cS lith_2e ?_
      | with_reducible refine fin_P ?_
      | with_reducible refine fin_Q ?_
      | with_reducible refine GoS.nil ?_
      | with_reducible refine GoS.seq ?_
      | with_reducible refine GoS.ret ?_
      | with_reducible refine GoS.set ?_
      | with_reducible refine GoS.ite ?_
      | with_reducible refine GoS.drop ?_
      | with_reducible refine GoS.cut ?_
      | with_reducible refine GoS.par ?_
      | with_reducible refine GoS.par3 ?_
      | with_reducible refine GoG.tup rfl ?_
      | with_reducible refine GoS.asg ?_
      | with_reducible apply GoT.andJ
      | with_reducible apply GoT.orJ
      | with_reducible apply Go.andVJ
      | with_reducible apply Go.orVJ
      | with_reducible apply Go.chainJ
      | with_reducible refine Go.notV ?_
      | with_reducible refine Go.ite ?_
      | with_reducible refine Go.tup (K := K) ?_
      | with_reducible refine Go.lst (K := K) ?_
      | with_reducible refine Go.cb ?_
      | with_reducible refine Go.bm ?_
      | with_reducible refine Go.bm0 ?_
      | with_reducible refine Go.m1 ?_
      | with_reducible refine Go.m0 ?_
      | with_reducible refine Go.sl ?_
      | with_reducible refine Go.un ?_
      | with_reducible refine Go.op ?_
      | with_reducible refine Go.dni ?_
      | with_reducible refine Go.dgetC ?_
      | with_reducible refine Go.dget ?_
      | with_reducible refine Go.din ?_
      | with_reducible refine GoS.dput ?_
      | with_reducible refine Go.callQ3 ?_
      | with_reducible refine Go.callQ2 ?_
      | with_reducible refine Go.callQ ?_
      | with_reducible refine Go.digit ?_
      | with_reducible refine Go.pick ?_
      | with_reducible refine Go.callP3 ?_
      | with_reducible refine Go.callP2 ?_
      | with_reducible refine Go.callP0 ?_
      | with_reducible refine Go.callP ?_
      | with_reducible refine GoA.nil ?_
      | with_reducible refine GoA.cons ?_
      | with_reducible refine GoO.none ?_
      | with_reducible refine GoO.part ?_
      | with_reducible refine GoT.test ?_
      | with_reducible refine GoT.b ?_
      | with_reducible refine GoT.tru ?_
      | with_reducible refine GoT.not ?_
      | with_reducible refine GoT.yes ?_
      | with_reducible refine GoG.name ?_
      | with_reducible refine GoGs.nil ?_
      | with_reducible refine GoGs.cons ?_
      | with_reducible refine GoI.ofL ?_
      | with_reducible refine GoI.ofT ?_
      | with_reducible refine GoI.str ?_
      | with_reducible refine GoI.rng1 ?_
      | with_reducible refine GoI.rng2 ?_
      | with_reducible refine GoI.enum ?_
      | with_reducible refine GoI.enumT ?_
      | with_reducible apply Go.lcM1 (K := K)
      | with_reducible apply Go.lcF1 (K := K)
      | with_reducible apply Go.lcM2 (K := K) (by decide)
      | with_reducible apply Go.lcF2 (K := K) (by decide)
      | refine Go.var rfl ?_
      | with_reducible refine Go.c ?_
      | refine GoS.retN ?_
      | refine v_mod (by first | decide | omega) ?_
      | refine v_fdiv (by first | decide | (constructor <;> omega)) ?_
      | refine v_fdivW (by omega) ?_
      | refine v_mul (by first | decide | (right; decide) | (left; decide) | (left; constructor <;> omega)) ?_
      | refine v_addI ?_
      | refine v_rU ?_
      | refine v_subI ?_
      | with_reducible refine v_is_s_str ?_
      | with_reducible refine v_is_s_int ?_
      | with_reducible refine v_is_s_bool ?_
      | with_reducible refine v_is_s_tuple ?_
      | with_reducible refine v_is_s_list ?_
      | with_reducible refine v_is_s_dict ?_
      | with_reducible refine v_is_i_str ?_
      | with_reducible refine v_is_i_int ?_
      | with_reducible refine v_is_i_bool ?_
      | with_reducible refine v_is_i_tuple ?_
      | with_reducible refine v_is_i_list ?_
      | with_reducible refine v_is_i_dict ?_
      | with_reducible refine v_is_b_str ?_
      | with_reducible refine v_is_b_int ?_
      | with_reducible refine v_is_b_bool ?_
      | with_reducible refine v_is_b_tuple ?_
      | with_reducible refine v_is_b_list ?_
      | with_reducible refine v_is_b_dict ?_
      | with_reducible refine v_is_n_str ?_
      | with_reducible refine v_is_n_int ?_
      | with_reducible refine v_is_n_bool ?_
      | with_reducible refine v_is_n_tuple ?_
      | with_reducible refine v_is_n_list ?_
      | with_reducible refine v_is_n_dict ?_
      | with_reducible refine v_is_l_str ?_
      | with_reducible refine v_is_l_int ?_
      | with_reducible refine v_is_l_bool ?_
      | with_reducible refine v_is_l_tuple ?_
      | with_reducible refine v_is_l_list ?_
      | with_reducible refine v_is_l_dict ?_
      | with_reducible refine v_is_t_str ?_
      | with_reducible refine v_is_t_int ?_
      | with_reducible refine v_is_t_bool ?_
      | with_reducible refine v_is_t_tuple ?_
      | with_reducible refine v_is_t_list ?_
      | with_reducible refine v_is_t_dict ?_
      | with_reducible refine v_is_d_str ?_
      | with_reducible refine v_is_d_int ?_
      | with_reducible refine v_is_d_bool ?_
      | with_reducible refine v_is_d_tuple ?_
      | with_reducible refine v_is_d_list ?_
      | with_reducible refine v_is_d_dict ?_
      | refine v_eqE ?_
      | refine v_neE ?_
      | refine v_eqI ?_
      | refine v_neI ?_
      | refine v_eqS ?_
      | refine v_neS ?_
      | refine v_eqB ?_
      | refine v_neB ?_
      | refine v_lt ?_
      | refine v_le ?_
      | refine v_gt ?_
      | refine v_ge ?_
      | refine v_isNO ?_
      | refine v_notNO ?_
      | refine v_notOp ?_ ?_
      | refine v_ixT rfl ?_
      | refine v_ixL rfl ?_
      | refine v_ixL (at0 _ _) ?_
      | refine v_inTS (ns := [_]) ?_
      | refine v_inTS (ns := [_, _]) ?_
      | refine v_inTS (ns := [_, _, _]) ?_
      | refine v_inTS (ns := [_, _, _, _]) ?_
      | refine v_niTS (ns := [_]) ?_
      | refine v_niTS (ns := [_, _]) ?_
      | refine v_niTS (ns := [_, _, _]) ?_
      | refine v_niTS (ns := [_, _, _, _]) ?_
      | refine v_inLS (ns := [_]) ?_
      | refine v_inLS (ns := [_, _]) ?_
      | refine v_inLS (ns := [_, _, _]) ?_
      | refine v_inLS (ns := [_, _, _, _]) ?_
      | refine v_niLS (ns := [_]) ?_
      | refine v_niLS (ns := [_, _]) ?_
      | refine v_niLS (ns := [_, _, _]) ?_
      | refine v_niLS (ns := [_, _, _, _]) ?_
      | refine v_inTI (ns := [_]) ?_
      | refine v_inTI (ns := [_, _]) ?_
      | refine v_inTI (ns := [_, _, _]) ?_
      | refine v_inTI (ns := [_, _, _, _]) ?_
      | refine v_niTI (ns := [_]) ?_
      | refine v_niTI (ns := [_, _]) ?_
      | refine v_niTI (ns := [_, _, _]) ?_
      | refine v_niTI (ns := [_, _, _, _]) ?_
      | refine v_inLI (ns := [_]) ?_
      | refine v_inLI (ns := [_, _]) ?_
      | refine v_inLI (ns := [_, _, _]) ?_
      | refine v_inLI (ns := [_, _, _, _]) ?_
      | refine v_niLI (ns := [_]) ?_
      | refine v_niLI (ns := [_, _]) ?_
      | refine v_niLI (ns := [_, _, _]) ?_
      | refine v_niLI (ns := [_, _, _, _]) ?_
      | refine v_inTI ?_
      | refine v_inLI ?_
      | refine v_inTS ?_
      | refine v_inLS ?_
      | refine v_niTI ?_
      | refine v_niLI ?_
      | refine v_niTS ?_
      | refine v_niLS ?_
      | refine v_noIn ?_
      | refine v_noNi ?_
      | refine v_isN ?_
      | refine v_notN ?_
      | refine v_inC ?_
      | refine v_niC ?_
      | refine v_catS ?_ ?_
      | refine v_lenS ?_ ?_
      | refine v_slS ?_ ?_
      | refine v_split (K := K) (by decide) ?_ ?_
      | refine v_joinE ?_ ?_
      | refine v_joinF ?_ ?_
      | refine v_startsw ?_
      | refine v_endsw ?_
      | refine v_count1 ?_
      | refine v_intI ?_
      | refine v_intS (by assumption) (by omega) ?_
      | refine v_strN (by omega) (by omega) ?_
      | refine v_intB ?_
      | refine v_max2 ?_
      | refine v_min2 ?_
      | refine v_lenL ?_
      | refine v_lenT ?_
      | refine v_slL ?_
      | refine v_slQ ?_
      | refine v_lenQ ?_
      | refine v_sumQ ?_
      | with_reducible refine Go.dnew ?_
      | refine v_sum ?_
      | refine v_tidxS ?_ ?_
      | refine v_tupL ?_
      | refine v_tupT ?_
      | refine v_lstL ?_
      | refine v_lstT ?_
      | refine v_append (pre := []) ?_ ?_
      | refine v_append (pre := [_]) ?_ ?_
      | refine v_append (pre := [_, _]) ?_ ?_
      | refine v_append (pre := [_, _, _]) ?_ ?_
      | refine v_extend (pre := []) ?_ ?_
      | refine v_extend (pre := [_]) ?_ ?_
      | refine v_lenO (pre := []) ?_
      | refine v_lenO (pre := [_]) ?_
      | refine v_lenD (pre := []) ?_
      | refine v_lenC ?_
      | refine v_cat ?_ ?_
      | exact ty_o (pre := [])
      | exact ty_o (pre := [_])
      | exact ty_s
      | exact ty_l
      | refine v_all ?_
      | refine v_any ?_
      | exact Nat.le_of_ble_eq_true rfl
      | exact nl1 (by omega) (by omega) (by decide)
      | exact nl2 (by omega) (by omega) (by decide)
      | exact nl3 (by omega) (by omega) (by decide) (by decide)
      | exact ⟨_, rfl⟩
      | exact ⟨rfl, rfl⟩
      | exact ⟨rfl, rfl, rfl⟩
      | refine ⟨_, rfl, ?_⟩
      | refine ⟨_, _, _, [], _, .inr _, rfl, rfl, rfl, ?_⟩
      | refine ⟨_, .inr _, rfl, rfl, ?_⟩
      | refine ⟨_, (by assumption), ?_⟩
      | refine ⟨_, _, _, _, rfl, rfl, ?_, fun (i9 : Int) l9 u9 => ?_⟩
      | refine ⟨_, _, _, _, rfl, rfl, ?_, fun (A9 : As) h9 => ?_⟩
      | refine ⟨_, _, rfl, ?_, ?_⟩
      | refine ⟨_, _, _, rfl, ?_, ?_⟩
      | refine ⟨_, _, rfl, ?_⟩
      | refine ⟨_, _, _, rfl, ?_⟩
      | with_reducible refine and_T (by assumption) ?_
      | with_reducible refine and_F (by assumption) ?_
      | with_reducible refine ⟨fun h => absurd h (by decide), fun _ => ?_⟩
      | with_reducible refine ⟨fun _ => ?_, fun h => absurd h (by decide)⟩
      | with_reducible refine And.intro (fun h => ?_) (fun h => ?_)
      | with_reducible intro x hx R9
      | with_reducible intro A9 h9
      | with_reducible intro _
      | omega
      | (simp only [List.length_map, List.length_append, List.length_cons, List.length_nil, List.length_range]; omega)
      | exact True.intro
      | exact rfl
      | assumption
      | refine And.intro trivial ?_
      | with_reducible refine And.intro ?_ ?_
      | omega
      | (dsimp only; omega)
      | (simp only [List.length_append, List.length_cons, List.length_nil]; omega)
      | fail))
local macro_rules | `(tactic| walk_at "cj4") => `(tactic| (repeat' first
      | with_reducible refine Go.callTx ?_
      | with_reducible refine Stp.go ?_
      | ((with_reducible apply Go.var); (focus exact rfl))
      | exact GoS.retN rfl
      | with_reducible refine Go.bmW T.t_SCHEMES T.w_SCHEMES ?_
      | with_reducible refine Go.cWS T.w_SCHEMES ?_
      | with_reducible refine GoS.ret ?_
      | with_reducible refine Go.ite ?_
      | with_reducible refine Go.pick ?_
      | with_reducible refine Go.tup (K := K) ?_
      | with_reducible refine Go.lst (K := K) ?_
      | with_reducible refine GoI.enumS (K := K) ?_
      | with_reducible refine Go.bm ?_
      | with_reducible apply GoT.andJ
      | with_reducible apply GoT.orJ
      | with_reducible apply Go.andVJ
      | with_reducible apply Go.orVJ
      | with_reducible apply Go.chainJ
      | with_reducible refine Go.c ?_
      | with_reducible refine Go.dni ?_
      | with_reducible refine Go.dgetC ?_
      | with_reducible refine Go.dget ?_
      | with_reducible refine Go.din ?_
      | with_reducible refine GoS.dput ?_
      | with_reducible refine Go.callQ3 ?_
      | with_reducible refine Go.callQ2 ?_
      | with_reducible refine Go.callQ ?_
      | with_reducible refine Go.callP0 ?_
      | with_reducible apply Go.lcM1 (K := K)
      | with_reducible apply Go.lcF1 (K := K)
      | with_reducible apply Go.lcM2 (K := K) (by decide)
      | with_reducible apply Go.lcF2 (K := K) (by decide)
      | ((with_reducible apply v_ixT); (focus exact rfl))
      | ((with_reducible apply v_ixL); (focus exact rfl))
      | ((with_reducible apply v_ixL); (focus exact at0 _ _))
      | refine v_tidxS ?_ ?_
      | refine v_split (K := K) (by decide) ?_ ?_
      | ((with_reducible refine Sde.mk ?_); first | (right; decide) | (left; decide) | (left; constructor <;> omega))
      | with_reducible refine and_T (by assumption) ?_
      | with_reducible refine and_F (by assumption) ?_
      | with_reducible refine ⟨fun h => absurd h (by decide), fun _ => ?_⟩
      | with_reducible refine ⟨fun _ => ?_, fun h => absurd h (by decide)⟩
      | with_reducible refine And.intro (fun h => ?_) (fun h => ?_)
      | exact ⟨_, rfl⟩
      | exact ⟨rfl, rfl⟩
      | exact ⟨rfl, rfl, rfl⟩
      | refine ⟨_, rfl, ?_⟩
      | refine ⟨_, _, _, [], _, .inr _, rfl, rfl, rfl, ?_⟩
      | refine ⟨_, _, _, [_], _, .inr _, rfl, rfl, rfl, ?_⟩
      | refine ⟨_, _, _, [_, _], _, .inr _, rfl, rfl, rfl, ?_⟩
      | refine ⟨_, .inr _, rfl, rfl, ?_⟩
      | refine ⟨_, (by assumption), ?_⟩
      | refine ⟨_, _, _, _, rfl, rfl, ?_, fun (i9 : Int) l9 u9 => ?_⟩
      | refine ⟨_, _, _, _, rfl, rfl, ?_, fun (A9 : As) h9 => ?_⟩
      | refine ⟨_, _, rfl, ?_, ?_⟩
      | refine ⟨_, _, _, rfl, ?_, ?_⟩
      | refine ⟨_, _, rfl, ?_⟩
      | refine ⟨_, _, _, rfl, ?_⟩
      | with_reducible exact ff9
      | with_reducible exact tf9
      | with_reducible intro x hx R9
      | with_reducible intro A9 h9
      | with_reducible intro _
      | exact True.intro
      | (simp only [repL_len, List.length_cons, List.length_nil, List.length_append, List.length_replicate]; decide)
      | exact Nat.le_of_ble_eq_true rfl
      | exact rfl
      | assumption
      | omega
      | (simp only [List.length_map, List.length_append, List.length_cons, List.length_nil, List.length_range]; omega)
      | exact nl1 (by omega) (by omega) (by decide)
      | exact nl2 (by omega) (by omega) (by decide)
      | exact nl3 (by omega) (by omega) (by decide) (by decide)
      | refine And.intro trivial ?_
      | with_reducible refine And.intro ?_ ?_
      | (dsimp only; omega)
      | exact false
      | fail))
local macro_rules | `(tactic| walk_at "cj5") => `(tactic| (repeat' first
      | with_reducible refine Go.callTx ?_
      | with_reducible refine Stp.go ?_
      | ((with_reducible apply Go.var); (focus exact rfl))
      | exact GoS.retN rfl
      | with_reducible refine GoS.ret ?_
      | with_reducible refine Go.ite ?_
      | with_reducible refine Go.pick ?_
      | with_reducible refine Go.tup (K := K) ?_
      | with_reducible refine Go.lst (K := K) ?_
      | with_reducible refine GoI.enumS (K := K) ?_
      | with_reducible refine Go.bm ?_
      | with_reducible apply GoT.andJ
      | with_reducible apply GoT.orJ
      | with_reducible apply Go.andVJ
      | with_reducible apply Go.orVJ
      | with_reducible apply Go.chainJ
      | with_reducible refine Go.c ?_
      | with_reducible refine Go.dni ?_
      | with_reducible refine Go.dgetC ?_
      | with_reducible refine Go.dget ?_
      | with_reducible refine Go.din ?_
      | with_reducible refine GoS.dput ?_
      | with_reducible refine Go.callQ3 ?_
      | with_reducible refine Go.callQ2 ?_
      | with_reducible refine Go.callQ ?_
      | with_reducible refine Go.callP0 ?_
      | with_reducible apply Go.lcF1 (K := K)
      | with_reducible apply Go.lcM2 (K := K) (by decide)
      | with_reducible apply Go.lcF2 (K := K) (by decide)
      | ((with_reducible apply v_ixT); (focus exact rfl))
      | ((with_reducible apply v_ixL); (focus exact rfl))
      | ((with_reducible apply v_ixL); (focus exact at0 _ _))
      | refine v_tidxS ?_ ?_
      | refine v_split (K := K) (by decide) ?_ ?_
      | ((with_reducible refine Sde.mk ?_); first | (right; decide) | (left; decide) | (left; constructor <;> omega))
      | with_reducible refine and_T (by assumption) ?_
      | with_reducible refine and_F (by assumption) ?_
      | with_reducible refine ⟨fun h => absurd h (by decide), fun _ => ?_⟩
      | with_reducible refine ⟨fun _ => ?_, fun h => absurd h (by decide)⟩
      | with_reducible refine And.intro (fun h => ?_) (fun h => ?_)
      | exact ⟨_, rfl⟩
      | exact ⟨rfl, rfl⟩
      | exact ⟨rfl, rfl, rfl⟩
      | refine ⟨_, rfl, ?_⟩
      | refine ⟨_, _, _, [], _, .inr _, rfl, rfl, rfl, ?_⟩
      | refine ⟨_, _, _, [_], _, .inr _, rfl, rfl, rfl, ?_⟩
      | refine ⟨_, _, _, [_, _], _, .inr _, rfl, rfl, rfl, ?_⟩
      | refine ⟨_, .inr _, rfl, rfl, ?_⟩
      | refine ⟨_, (by assumption), ?_⟩
      | refine ⟨_, _, _, _, rfl, rfl, ?_, fun (i9 : Int) l9 u9 => ?_⟩
      | refine ⟨_, _, _, _, rfl, rfl, ?_, fun (A9 : As) h9 => ?_⟩
      | refine ⟨_, _, rfl, ?_, ?_⟩
      | refine ⟨_, _, _, rfl, ?_, ?_⟩
      | refine ⟨_, _, rfl, ?_⟩
      | refine ⟨_, _, _, rfl, ?_⟩
      | with_reducible exact ff9
      | with_reducible exact tf9
      | with_reducible intro x hx R9
      | with_reducible intro A9 h9
      | with_reducible intro _
      | exact True.intro
      | (simp only [repL_len, List.length_cons, List.length_nil, List.length_append, List.length_replicate]; decide)
      | exact Nat.le_of_ble_eq_true rfl
      | exact rfl
      | assumption
      | omega
      | (simp only [List.length_map, List.length_append, List.length_cons, List.length_nil, List.length_range]; omega)
      | exact nl1 (by omega) (by omega) (by decide)
      | exact nl2 (by omega) (by omega) (by decide)
      | exact nl3 (by omega) (by omega) (by decide) (by decide)
      | refine And.intro trivial ?_
      | with_reducible refine And.intro ?_ ?_
      | (dsimp only; omega)
      | exact false
      | fail))
local macro_rules | `(tactic| walk_at "cj6") => `(tactic| (repeat' first
      | exact GoS.retN rfl
      | with_reducible refine Go.cS lit_left ?_
      | with_reducible refine Go.cS lit_cell ?_
      | with_reducible refine Go.cS lit_turns ?_
      | with_reducible refine Go.callTx ?_
      | with_reducible refine fin_P ?_
      | with_reducible refine fin_Q ?_
      | with_reducible refine GoS.nil ?_
      | with_reducible refine GoS.seq ?_
      | with_reducible refine GoS.set ?_
      | with_reducible refine GoS.ite ?_
      | with_reducible refine GoS.drop ?_
      | with_reducible refine GoS.cut ?_
      | with_reducible refine GoS.par ?_
      | with_reducible refine GoS.par3 ?_
      | with_reducible refine GoG.tup rfl ?_
      | with_reducible refine GoS.asg ?_
      | with_reducible apply GoT.andJ
      | with_reducible apply GoT.orJ
      | with_reducible apply Go.andVJ
      | with_reducible apply Go.orVJ
      | with_reducible apply Go.chainJ
      | with_reducible refine Go.notV ?_
      | with_reducible refine Go.ite ?_
      | with_reducible refine Go.tup (K := K) ?_
      | with_reducible refine Go.lst (K := K) ?_
      | with_reducible refine Go.cb ?_
      | with_reducible refine Go.bm ?_
      | with_reducible refine Go.bm0 ?_
      | with_reducible refine Go.m1 ?_
      | with_reducible refine Go.m0 ?_
      | with_reducible refine Go.sl ?_
      | with_reducible refine Go.un ?_
      | with_reducible refine Go.op ?_
      | with_reducible refine Go.dni ?_
      | with_reducible refine Go.dget ?_
      | with_reducible refine Go.din ?_
      | with_reducible refine GoS.dput ?_
      | with_reducible refine Go.callQ3 ?_
      | with_reducible refine Go.callQ2 ?_
      | with_reducible refine Go.callQ ?_
      | with_reducible refine Go.digit ?_
      | with_reducible refine Go.pick ?_
      | with_reducible refine Go.callP3 ?_
      | with_reducible refine Go.callP2 ?_
      | with_reducible refine Go.callP0 ?_
      | with_reducible refine Go.callP ?_
      | with_reducible refine GoA.nil ?_
      | with_reducible refine GoA.cons ?_
      | with_reducible refine GoO.none ?_
      | with_reducible refine GoO.part ?_
      | with_reducible refine GoT.test ?_
      | with_reducible refine GoT.b ?_
      | with_reducible refine GoT.tru ?_
      | with_reducible refine GoT.not ?_
      | with_reducible refine GoT.yes ?_
      | with_reducible refine GoG.name ?_
      | with_reducible refine GoGs.nil ?_
      | with_reducible refine GoGs.cons ?_
      | with_reducible refine GoI.ofL ?_
      | with_reducible refine GoI.ofT ?_
      | with_reducible refine GoI.str ?_
      | with_reducible refine GoI.rng1 ?_
      | with_reducible refine GoI.rng2 ?_
      | with_reducible refine GoI.enum ?_
      | with_reducible refine GoI.enumT ?_
      | with_reducible apply Go.lcM1 (K := K)
      | with_reducible apply Go.lcF1 (K := K)
      | with_reducible apply Go.lcM2 (K := K) (by decide)
      | with_reducible apply Go.lcF2 (K := K) (by decide)
      | refine Go.var rfl ?_
      | with_reducible refine Go.c ?_
      | refine GoS.retN ?_
      | refine v_mod (by first | decide | omega) ?_
      | refine v_fdiv (by first | decide | (constructor <;> omega)) ?_
      | refine v_fdivW (by omega) ?_
      | refine v_mul (by first | decide | (right; decide) | (left; decide) | (left; constructor <;> omega)) ?_
      | refine v_addI ?_
      | refine v_rU ?_
      | refine v_subI ?_
      | with_reducible refine v_is_s_str ?_
      | with_reducible refine v_is_s_int ?_
      | with_reducible refine v_is_s_bool ?_
      | with_reducible refine v_is_s_tuple ?_
      | with_reducible refine v_is_s_list ?_
      | with_reducible refine v_is_s_dict ?_
      | with_reducible refine v_is_i_str ?_
      | with_reducible refine v_is_i_int ?_
      | with_reducible refine v_is_i_bool ?_
      | with_reducible refine v_is_i_tuple ?_
      | with_reducible refine v_is_i_list ?_
      | with_reducible refine v_is_i_dict ?_
      | with_reducible refine v_is_b_str ?_
      | with_reducible refine v_is_b_int ?_
      | with_reducible refine v_is_b_bool ?_
      | with_reducible refine v_is_b_tuple ?_
      | with_reducible refine v_is_b_list ?_
      | with_reducible refine v_is_b_dict ?_
      | with_reducible refine v_is_n_str ?_
      | with_reducible refine v_is_n_int ?_
      | with_reducible refine v_is_n_bool ?_
      | with_reducible refine v_is_n_tuple ?_
      | with_reducible refine v_is_n_list ?_
      | with_reducible refine v_is_n_dict ?_
      | with_reducible refine v_is_l_str ?_
      | with_reducible refine v_is_l_int ?_
      | with_reducible refine v_is_l_bool ?_
      | with_reducible refine v_is_l_tuple ?_
      | with_reducible refine v_is_l_list ?_
      | with_reducible refine v_is_l_dict ?_
      | with_reducible refine v_is_t_str ?_
      | with_reducible refine v_is_t_int ?_
      | with_reducible refine v_is_t_bool ?_
      | with_reducible refine v_is_t_tuple ?_
      | with_reducible refine v_is_t_list ?_
      | with_reducible refine v_is_t_dict ?_
      | with_reducible refine v_is_d_str ?_
      | with_reducible refine v_is_d_int ?_
      | with_reducible refine v_is_d_bool ?_
      | with_reducible refine v_is_d_tuple ?_
      | with_reducible refine v_is_d_list ?_
      | with_reducible refine v_is_d_dict ?_
      | refine v_eqE ?_
      | refine v_neE ?_
      | refine v_eqI ?_
      | refine v_neI ?_
      | refine v_eqS ?_
      | refine v_neS ?_
      | refine v_eqB ?_
      | refine v_neB ?_
      | refine v_lt ?_
      | refine v_le ?_
      | refine v_gt ?_
      | refine v_ge ?_
      | refine v_isNO ?_
      | refine v_notNO ?_
      | refine v_notOp ?_ ?_
      | refine v_ixT rfl ?_
      | refine v_ixL rfl ?_
      | refine v_ixL (at0 _ _) ?_
      | refine v_inTS (ns := [_]) ?_
      | refine v_inTS (ns := [_, _]) ?_
      | refine v_inTS (ns := [_, _, _]) ?_
      | refine v_inTS (ns := [_, _, _, _]) ?_
      | refine v_niTS (ns := [_]) ?_
      | refine v_niTS (ns := [_, _]) ?_
      | refine v_niTS (ns := [_, _, _]) ?_
      | refine v_niTS (ns := [_, _, _, _]) ?_
      | refine v_inLS (ns := [_]) ?_
      | refine v_inLS (ns := [_, _]) ?_
      | refine v_inLS (ns := [_, _, _]) ?_
      | refine v_inLS (ns := [_, _, _, _]) ?_
      | refine v_niLS (ns := [_]) ?_
      | refine v_niLS (ns := [_, _]) ?_
      | refine v_niLS (ns := [_, _, _]) ?_
      | refine v_niLS (ns := [_, _, _, _]) ?_
      | refine v_inTI (ns := [_]) ?_
      | refine v_inTI (ns := [_, _]) ?_
      | refine v_inTI (ns := [_, _, _]) ?_
      | refine v_inTI (ns := [_, _, _, _]) ?_
      | refine v_niTI (ns := [_]) ?_
      | refine v_niTI (ns := [_, _]) ?_
      | refine v_niTI (ns := [_, _, _]) ?_
      | refine v_niTI (ns := [_, _, _, _]) ?_
      | refine v_inLI (ns := [_]) ?_
      | refine v_inLI (ns := [_, _]) ?_
      | refine v_inLI (ns := [_, _, _]) ?_
      | refine v_inLI (ns := [_, _, _, _]) ?_
      | refine v_niLI (ns := [_]) ?_
      | refine v_niLI (ns := [_, _]) ?_
      | refine v_niLI (ns := [_, _, _]) ?_
      | refine v_niLI (ns := [_, _, _, _]) ?_
      | refine v_inTI ?_
      | refine v_inLI ?_
      | refine v_inTS ?_
      | refine v_inLS ?_
      | refine v_niTI ?_
      | refine v_niLI ?_
      | refine v_niTS ?_
      | refine v_niLS ?_
      | refine v_noIn ?_
      | refine v_noNi ?_
      | refine v_isN ?_
      | refine v_notN ?_
      | refine v_inC ?_
      | refine v_niC ?_
      | refine v_catS ?_ ?_
      | refine v_lenS ?_ ?_
      | refine v_slS ?_ ?_
      | refine v_split (K := K) (by decide) ?_ ?_
      | refine v_joinE ?_ ?_
      | refine v_joinF ?_ ?_
      | refine v_startsw ?_
      | refine v_endsw ?_
      | refine v_count1 ?_
      | refine v_intI ?_
      | refine v_intS (by assumption) (by omega) ?_
      | refine v_strN (by omega) (by omega) ?_
      | refine v_intB ?_
      | refine v_max2 ?_
      | refine v_min2 ?_
      | refine v_lenL ?_
      | refine v_lenT ?_
      | refine v_slL ?_
      | refine v_slQ ?_
      | refine v_lenQ ?_
      | refine v_sumQ ?_
      | with_reducible refine Go.dnew ?_
      | refine v_sum ?_
      | refine v_tidxS ?_ ?_
      | refine v_tupL ?_
      | refine v_tupT ?_
      | refine v_lstL ?_
      | refine v_lstT ?_
      | refine v_append (pre := []) ?_ ?_
      | refine v_append (pre := [_]) ?_ ?_
      | refine v_append (pre := [_, _]) ?_ ?_
      | refine v_append (pre := [_, _, _]) ?_ ?_
      | refine v_extend (pre := []) ?_ ?_
      | refine v_extend (pre := [_]) ?_ ?_
      | refine v_lenO (pre := []) ?_
      | refine v_lenO (pre := [_]) ?_
      | refine v_lenD (pre := []) ?_
      | refine v_lenC ?_
      | refine v_cat ?_ ?_
      | exact ty_o (pre := [])
      | exact ty_o (pre := [_])
      | exact ty_s
      | exact ty_l
      | refine v_all ?_
      | refine v_any ?_
      | exact Nat.le_of_ble_eq_true rfl
      | exact nl1 (by omega) (by omega) (by decide)
      | exact nl2 (by omega) (by omega) (by decide)
      | exact nl3 (by omega) (by omega) (by decide) (by decide)
      | exact ⟨_, rfl⟩
      | exact ⟨rfl, rfl⟩
      | exact ⟨rfl, rfl, rfl⟩
      | refine ⟨_, rfl, ?_⟩
      | refine ⟨_, _, _, [], _, .inr _, rfl, rfl, rfl, ?_⟩
      | refine ⟨_, .inr _, rfl, rfl, ?_⟩
      | refine ⟨_, (by assumption), ?_⟩
      | refine ⟨_, _, _, _, rfl, rfl, ?_, fun (i9 : Int) l9 u9 => ?_⟩
      | refine ⟨_, _, _, _, rfl, rfl, ?_, fun (A9 : As) h9 => ?_⟩
      | refine ⟨_, _, rfl, ?_, ?_⟩
      | refine ⟨_, _, _, rfl, ?_, ?_⟩
      | refine ⟨_, _, rfl, ?_⟩
      | refine ⟨_, _, _, rfl, ?_⟩
      | with_reducible refine and_T (by assumption) ?_
      | with_reducible refine and_F (by assumption) ?_
      | with_reducible refine ⟨fun h => absurd h (by decide), fun _ => ?_⟩
      | with_reducible refine ⟨fun _ => ?_, fun h => absurd h (by decide)⟩
      | with_reducible refine And.intro (fun h => ?_) (fun h => ?_)
      | with_reducible intro x hx R9
      | with_reducible intro A9 h9
      | with_reducible intro _
      | trivial
      | assumption
      | refine And.intro trivial ?_
      | with_reducible refine And.intro ?_ ?_
      | omega
      | (dsimp only; omega)
      | (simp only [List.length_append, List.length_cons, List.length_nil]; omega)
      | fail))
local macro_rules | `(tactic| walk_at "cj7") => `(tactic| (repeat' first
      | with_reducible refine Go.callTx ?_
      | with_reducible refine Go.lstB (K := K) ?_
      | with_reducible refine Stp.go ?_
      | ((with_reducible apply Go.var); (focus exact rfl))
      | exact GoS.retN rfl
      | with_reducible refine GoS.ret ?_
      | with_reducible refine GoS.ite ?_
      | with_reducible refine Go.tup (K := K) ?_
      | with_reducible refine Go.lst (K := K) ?_
      | with_reducible refine GoI.enumS (K := K) ?_
      | with_reducible refine Go.bm ?_
      | with_reducible apply GoT.andJ
      | with_reducible apply GoT.orJ
      | with_reducible apply Go.andVJ
      | with_reducible apply Go.orVJ
      | with_reducible apply Go.chainJ
      | with_reducible refine Go.c ?_
      | with_reducible refine Go.dni ?_
      | with_reducible refine Go.dgetC ?_
      | with_reducible refine Go.dget ?_
      | with_reducible refine Go.din ?_
      | with_reducible refine GoS.dput ?_
      | with_reducible refine Go.callQ3 ?_
      | with_reducible refine Go.callQ2 ?_
      | with_reducible refine Go.callQ ?_
      | with_reducible refine Go.callP0 ?_
      | with_reducible apply Go.lcM1 (K := K)
      | with_reducible apply Go.lcF1 (K := K)
      | with_reducible apply Go.lcM2 (K := K) (by decide)
      | with_reducible apply Go.lcF2 (K := K) (by decide)
      | ((with_reducible apply v_ixT); (focus exact rfl))
      | ((with_reducible apply v_ixL); (focus exact rfl))
      | ((with_reducible apply v_ixL); (focus exact at0 _ _))
      | refine v_tidxS ?_ ?_
      | refine v_split (K := K) (by decide) ?_ ?_
      | ((with_reducible refine Sde.mk ?_); first | (right; decide) | (left; decide) | (left; constructor <;> omega))
      | with_reducible refine and_T (by assumption) ?_
      | with_reducible refine and_F (by assumption) ?_
      | with_reducible refine ⟨fun h => absurd h (by decide), fun _ => ?_⟩
      | with_reducible refine ⟨fun _ => ?_, fun h => absurd h (by decide)⟩
      | with_reducible refine And.intro (fun h => ?_) (fun h => ?_)
      | exact ⟨_, rfl⟩
      | exact ⟨rfl, rfl⟩
      | exact ⟨rfl, rfl, rfl⟩
      | refine ⟨_, rfl, ?_⟩
      | refine ⟨_, _, _, [], _, .inr _, rfl, rfl, rfl, ?_⟩
      | refine ⟨_, _, _, [_], _, .inr _, rfl, rfl, rfl, ?_⟩
      | refine ⟨_, _, _, [_, _], _, .inr _, rfl, rfl, rfl, ?_⟩
      | refine ⟨_, .inr _, rfl, rfl, ?_⟩
      | refine ⟨_, (by assumption), ?_⟩
      | refine ⟨_, _, _, _, rfl, rfl, ?_, fun (i9 : Int) l9 u9 => ?_⟩
      | refine ⟨_, _, _, _, rfl, rfl, ?_, fun (A9 : As) h9 => ?_⟩
      | refine ⟨_, _, rfl, ?_, ?_⟩
      | refine ⟨_, _, _, rfl, ?_, ?_⟩
      | refine ⟨_, _, rfl, ?_⟩
      | refine ⟨_, _, _, rfl, ?_⟩
      | with_reducible exact ff9
      | with_reducible exact tf9
      | with_reducible intro x hx R9
      | with_reducible intro A9 h9
      | with_reducible intro _
      | exact True.intro
      | (simp only [repL_len, List.length_cons, List.length_nil, List.length_append, List.length_replicate]; decide)
      | exact Nat.le_of_ble_eq_true rfl
      | exact rfl
      | assumption
      | omega
      | (simp only [List.length_map, List.length_append, List.length_cons, List.length_nil, List.length_range]; omega)
      | exact nl1 (by omega) (by omega) (by decide)
      | exact nl2 (by omega) (by omega) (by decide)
      | exact nl3 (by omega) (by omega) (by decide) (by decide)
      | refine And.intro trivial ?_
      | with_reducible refine And.intro ?_ ?_
      | (dsimp only; omega)
      | exact false
      | fail))
local macro_rules | `(tactic| walk_at "cj8") => `(tactic| (repeat' first
      | with_reducible refine Go.callTx ?_
      | with_reducible refine Go.lstB (K := K) ?_
      | with_reducible refine Go.lstB (K := K) ?_
      | with_reducible refine Stp.go ?_
      | ((with_reducible apply Go.var); (focus exact rfl))
      | exact GoS.retN rfl
      | with_reducible refine GoS.ret ?_
      | with_reducible refine GoS.ite ?_
      | with_reducible refine Go.tup (K := K) ?_
      | with_reducible refine Go.lst (K := K) ?_
      | with_reducible refine GoI.enumS (K := K) ?_
      | with_reducible refine Go.bm ?_
      | with_reducible apply GoT.andJ
      | with_reducible apply GoT.orJ
      | with_reducible apply Go.andVJ
      | with_reducible apply Go.orVJ
      | with_reducible apply Go.chainJ
      | with_reducible refine Go.c ?_
      | with_reducible refine Go.dni ?_
      | with_reducible refine Go.dgetC ?_
      | with_reducible refine Go.dget ?_
      | with_reducible refine Go.din ?_
      | with_reducible refine GoS.dput ?_
      | with_reducible refine Go.callQ3 ?_
      | with_reducible refine Go.callQ2 ?_
      | with_reducible refine Go.callQ ?_
      | with_reducible refine Go.callP0 ?_
      | with_reducible apply Go.lcM1 (K := K)
      | with_reducible apply Go.lcF1 (K := K)
      | with_reducible apply Go.lcM2 (K := K) (by decide)
      | with_reducible apply Go.lcF2 (K := K) (by decide)
      | ((with_reducible apply v_ixT); (focus exact rfl))
      | ((with_reducible apply v_ixL); (focus exact rfl))
      | ((with_reducible apply v_ixL); (focus exact at0 _ _))
      | refine v_tidxS ?_ ?_
      | refine v_split (K := K) (by decide) ?_ ?_
      | ((with_reducible refine Sde.mk ?_); first | (right; decide) | (left; decide) | (left; constructor <;> omega))
      | with_reducible refine and_T (by assumption) ?_
      | with_reducible refine and_F (by assumption) ?_
      | with_reducible refine ⟨fun h => absurd h (by decide), fun _ => ?_⟩
      | with_reducible refine ⟨fun _ => ?_, fun h => absurd h (by decide)⟩
      | with_reducible refine And.intro (fun h => ?_) (fun h => ?_)
      | exact ⟨_, rfl⟩
      | exact ⟨rfl, rfl⟩
      | exact ⟨rfl, rfl, rfl⟩
      | refine ⟨_, rfl, ?_⟩
      | refine ⟨_, _, _, [], _, .inr _, rfl, rfl, rfl, ?_⟩
      | refine ⟨_, _, _, [_], _, .inr _, rfl, rfl, rfl, ?_⟩
      | refine ⟨_, _, _, [_, _], _, .inr _, rfl, rfl, rfl, ?_⟩
      | refine ⟨_, .inr _, rfl, rfl, ?_⟩
      | refine ⟨_, (by assumption), ?_⟩
      | refine ⟨_, _, _, _, rfl, rfl, ?_, fun (i9 : Int) l9 u9 => ?_⟩
      | refine ⟨_, _, _, _, rfl, rfl, ?_, fun (A9 : As) h9 => ?_⟩
      | refine ⟨_, _, rfl, ?_, ?_⟩
      | refine ⟨_, _, _, rfl, ?_, ?_⟩
      | refine ⟨_, _, rfl, ?_⟩
      | refine ⟨_, _, _, rfl, ?_⟩
      | with_reducible exact ff9
      | with_reducible exact tf9
      | with_reducible intro x hx R9
      | with_reducible intro A9 h9
      | with_reducible intro _
      | exact True.intro
      | (simp only [repL_len, List.length_cons, List.length_nil, List.length_append, List.length_replicate]; decide)
      | exact Nat.le_of_ble_eq_true rfl
      | exact rfl
      | assumption
      | omega
      | (simp only [List.length_map, List.length_append, List.length_cons, List.length_nil, List.length_range]; omega)
      | exact nl1 (by omega) (by omega) (by decide)
      | exact nl2 (by omega) (by omega) (by decide)
      | exact nl3 (by omega) (by omega) (by decide) (by decide)
      | refine And.intro trivial ?_
      | with_reducible refine And.intro ?_ ?_
      | (dsimp only; omega)
      | exact false
      | fail))
local macro_rules | `(tactic| walk_at "cj9") => `(tactic| (repeat' first
      | with_reducible refine Go.callTx ?_
      | with_reducible refine Go.lstB (K := K) ?_
      | with_reducible refine Go.lstB (K := K) ?_
      | with_reducible refine Go.lstB (K := K) ?_
      | with_reducible refine Stp.go ?_
      | ((with_reducible apply Go.var); (focus exact rfl))
      | exact GoS.retN rfl
      | with_reducible refine GoS.ret ?_
      | with_reducible refine Go.tup (K := K) ?_
      | with_reducible refine Go.lst (K := K) ?_
      | with_reducible refine GoI.enumS (K := K) ?_
      | with_reducible refine Go.bm ?_
      | with_reducible apply GoT.andJ
      | with_reducible apply GoT.orJ
      | with_reducible apply Go.andVJ
      | with_reducible apply Go.orVJ
      | with_reducible apply Go.chainJ
      | with_reducible refine Go.c ?_
      | with_reducible refine Go.dni ?_
      | with_reducible refine Go.dgetC ?_
      | with_reducible refine Go.dget ?_
      | with_reducible refine Go.din ?_
      | with_reducible refine GoS.dput ?_
      | with_reducible refine Go.callQ3 ?_
      | with_reducible refine Go.callQ2 ?_
      | with_reducible refine Go.callQ ?_
      | with_reducible refine Go.callP0 ?_
      | with_reducible apply Go.lcM1 (K := K)
      | with_reducible apply Go.lcF1 (K := K)
      | with_reducible apply Go.lcM2 (K := K) (by decide)
      | with_reducible apply Go.lcF2 (K := K) (by decide)
      | ((with_reducible apply v_ixT); (focus exact rfl))
      | ((with_reducible apply v_ixL); (focus exact rfl))
      | ((with_reducible apply v_ixL); (focus exact at0 _ _))
      | refine v_tidxS ?_ ?_
      | refine v_split (K := K) (by decide) ?_ ?_
      | ((with_reducible refine Sde.mk ?_); first | (right; decide) | (left; decide) | (left; constructor <;> omega))
      | with_reducible refine and_T (by assumption) ?_
      | with_reducible refine and_F (by assumption) ?_
      | with_reducible refine ⟨fun h => absurd h (by decide), fun _ => ?_⟩
      | with_reducible refine ⟨fun _ => ?_, fun h => absurd h (by decide)⟩
      | with_reducible refine And.intro (fun h => ?_) (fun h => ?_)
      | exact ⟨_, rfl⟩
      | exact ⟨rfl, rfl⟩
      | exact ⟨rfl, rfl, rfl⟩
      | refine ⟨_, rfl, ?_⟩
      | refine ⟨_, _, _, [], _, .inr _, rfl, rfl, rfl, ?_⟩
      | refine ⟨_, _, _, [_], _, .inr _, rfl, rfl, rfl, ?_⟩
      | refine ⟨_, _, _, [_, _], _, .inr _, rfl, rfl, rfl, ?_⟩
      | refine ⟨_, .inr _, rfl, rfl, ?_⟩
      | refine ⟨_, (by assumption), ?_⟩
      | refine ⟨_, _, _, _, rfl, rfl, ?_, fun (i9 : Int) l9 u9 => ?_⟩
      | refine ⟨_, _, _, _, rfl, rfl, ?_, fun (A9 : As) h9 => ?_⟩
      | refine ⟨_, _, rfl, ?_, ?_⟩
      | refine ⟨_, _, _, rfl, ?_, ?_⟩
      | refine ⟨_, _, rfl, ?_⟩
      | refine ⟨_, _, _, rfl, ?_⟩
      | with_reducible exact ff9
      | with_reducible exact tf9
      | with_reducible intro x hx R9
      | with_reducible intro A9 h9
      | with_reducible intro _
      | exact True.intro
      | (simp only [repL_len, List.length_cons, List.length_nil, List.length_append, List.length_replicate]; decide)
      | exact Nat.le_of_ble_eq_true rfl
      | exact rfl
      | assumption
      | omega
      | (simp only [List.length_map, List.length_append, List.length_cons, List.length_nil, List.length_range]; omega)
      | exact nl1 (by omega) (by omega) (by decide)
      | exact nl2 (by omega) (by omega) (by decide)
      | exact nl3 (by omega) (by omega) (by decide) (by decide)
      | refine And.intro trivial ?_
      | with_reducible refine And.intro ?_ ?_
      | (dsimp only; omega)
      | exact false
      | fail))
local macro_rules | `(tactic| walk_at "cj10") => `(tactic| (repeat' first
      | with_reducible refine Go.callTx ?_
      | with_reducible refine Go.lstB (K := K) ?_
      | with_reducible refine Go.lstB (K := K) ?_
      | with_reducible refine Go.lstB (K := K) ?_
      | with_reducible refine Stp.go ?_
      | ((with_reducible apply Go.var); (focus exact rfl))
      | exact GoS.retN rfl
      | with_reducible refine GoS.ret ?_
      | with_reducible refine GoS.ite ?_
      | with_reducible refine Go.tup (K := K) ?_
      | with_reducible refine Go.lst (K := K) ?_
      | with_reducible refine GoI.enumS (K := K) ?_
      | with_reducible refine Go.bm ?_
      | with_reducible apply GoT.andJ
      | with_reducible apply GoT.orJ
      | with_reducible apply Go.andVJ
      | with_reducible apply Go.orVJ
      | with_reducible apply Go.chainJ
      | with_reducible refine Go.c ?_
      | with_reducible refine Go.dni ?_
      | with_reducible refine Go.dgetC ?_
      | with_reducible refine Go.dget ?_
      | with_reducible refine Go.din ?_
      | with_reducible refine GoS.dput ?_
      | with_reducible refine Go.callQ3 ?_
      | with_reducible refine Go.callQ2 ?_
      | with_reducible refine Go.callQ ?_
      | with_reducible refine Go.callP0 ?_
      | with_reducible apply Go.lcM1 (K := K)
      | with_reducible apply Go.lcF1 (K := K)
      | with_reducible apply Go.lcM2 (K := K) (by decide)
      | with_reducible apply Go.lcF2 (K := K) (by decide)
      | ((with_reducible apply v_ixT); (focus exact rfl))
      | ((with_reducible apply v_ixL); (focus exact rfl))
      | ((with_reducible apply v_ixL); (focus exact at0 _ _))
      | refine v_tidxS ?_ ?_
      | refine v_split (K := K) (by decide) ?_ ?_
      | ((with_reducible refine Sde.mk ?_); first | (right; decide) | (left; decide) | (left; constructor <;> omega))
      | with_reducible refine and_T (by assumption) ?_
      | with_reducible refine and_F (by assumption) ?_
      | with_reducible refine ⟨fun h => absurd h (by decide), fun _ => ?_⟩
      | with_reducible refine ⟨fun _ => ?_, fun h => absurd h (by decide)⟩
      | with_reducible refine And.intro (fun h => ?_) (fun h => ?_)
      | exact ⟨_, rfl⟩
      | exact ⟨rfl, rfl⟩
      | exact ⟨rfl, rfl, rfl⟩
      | refine ⟨_, rfl, ?_⟩
      | refine ⟨_, _, _, [], _, .inr _, rfl, rfl, rfl, ?_⟩
      | refine ⟨_, _, _, [_], _, .inr _, rfl, rfl, rfl, ?_⟩
      | refine ⟨_, _, _, [_, _], _, .inr _, rfl, rfl, rfl, ?_⟩
      | refine ⟨_, .inr _, rfl, rfl, ?_⟩
      | refine ⟨_, (by assumption), ?_⟩
      | refine ⟨_, _, _, _, rfl, rfl, ?_, fun (i9 : Int) l9 u9 => ?_⟩
      | refine ⟨_, _, _, _, rfl, rfl, ?_, fun (A9 : As) h9 => ?_⟩
      | refine ⟨_, _, rfl, ?_, ?_⟩
      | refine ⟨_, _, _, rfl, ?_, ?_⟩
      | refine ⟨_, _, rfl, ?_⟩
      | refine ⟨_, _, _, rfl, ?_⟩
      | with_reducible exact ff9
      | with_reducible exact tf9
      | with_reducible intro x hx R9
      | with_reducible intro A9 h9
      | with_reducible intro _
      | exact True.intro
      | (simp only [repL_len, List.length_cons, List.length_nil, List.length_append, List.length_replicate]; decide)
      | exact Nat.le_of_ble_eq_true rfl
      | exact rfl
      | assumption
      | omega
      | (simp only [List.length_map, List.length_append, List.length_cons, List.length_nil, List.length_range]; omega)
      | exact nl1 (by omega) (by omega) (by decide)
      | exact nl2 (by omega) (by omega) (by decide)
      | exact nl3 (by omega) (by omega) (by decide) (by decide)
      | refine And.intro trivial ?_
      | with_reducible refine And.intro ?_ ?_
      | (dsimp only; omega)
      | exact false
      | fail))
local macro_rules | `(tactic| walk_at "cj11") => `(tactic| (repeat' first
      | with_reducible refine Go.callTx ?_
      | with_reducible refine Go.lstB (K := K) ?_
      | with_reducible refine Go.lstB (K := K) ?_
      | with_reducible refine Go.lstB (K := K) ?_
      | with_reducible refine Stp.go ?_
      | ((with_reducible apply Go.var); (focus exact rfl))
      | exact GoS.retN rfl
      | with_reducible refine GoS.ret ?_
      | with_reducible refine Go.ite ?_
      | with_reducible refine Go.tup (K := K) ?_
      | with_reducible refine Go.lst (K := K) ?_
      | with_reducible refine GoI.enumS (K := K) ?_
      | with_reducible refine Go.bm ?_
      | with_reducible apply GoT.andJ
      | with_reducible apply GoT.orJ
      | with_reducible apply Go.andVJ
      | with_reducible apply Go.orVJ
      | with_reducible apply Go.chainJ
      | with_reducible refine Go.c ?_
      | with_reducible refine Go.dni ?_
      | with_reducible refine Go.dgetC ?_
      | with_reducible refine Go.dget ?_
      | with_reducible refine Go.din ?_
      | with_reducible refine GoS.dput ?_
      | with_reducible refine Go.callQ3 ?_
      | with_reducible refine Go.callQ2 ?_
      | with_reducible refine Go.callQ ?_
      | with_reducible refine Go.callP0 ?_
      | with_reducible apply Go.lcF1 (K := K)
      | with_reducible apply Go.lcM2 (K := K) (by decide)
      | with_reducible apply Go.lcF2 (K := K) (by decide)
      | ((with_reducible apply v_ixT); (focus exact rfl))
      | ((with_reducible apply v_ixL); (focus exact rfl))
      | ((with_reducible apply v_ixL); (focus exact at0 _ _))
      | refine v_tidxS ?_ ?_
      | refine v_split (K := K) (by decide) ?_ ?_
      | ((with_reducible refine Sde.mk ?_); first | (right; decide) | (left; decide) | (left; constructor <;> omega))
      | with_reducible refine and_T (by assumption) ?_
      | with_reducible refine and_F (by assumption) ?_
      | with_reducible refine ⟨fun h => absurd h (by decide), fun _ => ?_⟩
      | with_reducible refine ⟨fun _ => ?_, fun h => absurd h (by decide)⟩
      | with_reducible refine And.intro (fun h => ?_) (fun h => ?_)
      | exact ⟨_, rfl⟩
      | exact ⟨rfl, rfl⟩
      | exact ⟨rfl, rfl, rfl⟩
      | refine ⟨_, rfl, ?_⟩
      | refine ⟨_, _, _, [], _, .inr _, rfl, rfl, rfl, ?_⟩
      | refine ⟨_, _, _, [_], _, .inr _, rfl, rfl, rfl, ?_⟩
      | refine ⟨_, _, _, [_, _], _, .inr _, rfl, rfl, rfl, ?_⟩
      | refine ⟨_, .inr _, rfl, rfl, ?_⟩
      | refine ⟨_, (by assumption), ?_⟩
      | refine ⟨_, _, _, _, rfl, rfl, ?_, fun (i9 : Int) l9 u9 => ?_⟩
      | refine ⟨_, _, _, _, rfl, rfl, ?_, fun (A9 : As) h9 => ?_⟩
      | refine ⟨_, _, rfl, ?_, ?_⟩
      | refine ⟨_, _, _, rfl, ?_, ?_⟩
      | refine ⟨_, _, rfl, ?_⟩
      | refine ⟨_, _, _, rfl, ?_⟩
      | with_reducible exact ff9
      | with_reducible exact tf9
      | with_reducible intro x hx R9
      | with_reducible intro A9 h9
      | with_reducible intro _
      | exact True.intro
      | (simp only [repL_len, List.length_cons, List.length_nil, List.length_append, List.length_replicate]; decide)
      | exact Nat.le_of_ble_eq_true rfl
      | exact rfl
      | assumption
      | omega
      | (simp only [List.length_map, List.length_append, List.length_cons, List.length_nil, List.length_range]; omega)
      | exact nl1 (by omega) (by omega) (by decide)
      | exact nl2 (by omega) (by omega) (by decide)
      | exact nl3 (by omega) (by omega) (by decide) (by decide)
      | refine And.intro trivial ?_
      | with_reducible refine And.intro ?_ ?_
      | (dsimp only; omega)
      | exact false
      | fail))
/-! ### digs -/
def digSign (c : Nat) : Bool := decide (c ∈ lc_DIGITS)
theorem digSign_iff {c : Nat} : digSign c = true ↔ 48 ≤ c ∧ c ≤ 57 := by
  have h1 : ∀ c ∈ lc_DIGITS, 48 ≤ c ∧ c ≤ 57 := by decide +kernel
  have h2 : ∀ k < 10, 48 + k ∈ lc_DIGITS := by decide +kernel
  unfold digSign
  rw [decide_eq_true_eq]
  refine ⟨h1 c, fun h => ?_⟩
  have := h2 (c - 48) (by omega)
  rw [show 48 + (c - 48) = c by omega] at this
  exact this
theorem all_digits {l : List Nat} (h : l.all digSign = true) : l.all (fun c => decide (48 ≤ c) && decide (c ≤ 57)) = true := by
  refine List.all_eq_true.mpr fun c hc => ?_
  have := digSign_iff.mp (List.all_eq_true.mp h c hc)
  rw [decide_eq_true this.1, decide_eq_true this.2]
  rfl
/-! the first and the last sign -/
theorem first_at {a : List Nat} (h : a ≠ []) : ∃ c, atI a 0 = some c ∧ a.head? = some c := by
  cases a with
  | nil => exact absurd rfl h
  | cons c r => exact ⟨c, atI_nat (j := 0) rfl, rfl⟩
theorem last_at {a : List Nat} (h : a ≠ []) : ∃ c, atI a (-1) = some c ∧ a.getLast? = some c := by
  have hg : a.getLast? = some (a.getLast h) := List.getLast?_eq_some_getLast _
  exact ⟨_, atI_neg1 hg, hg⟩
theorem one_dec {c d : Nat} {o : Option Nat} (h : o = some c) : decide ([c] = [d]) = decide (o = some d) := by
  rw [h]
  exact decide_eq_decide.mpr ⟨fun z => by rw [(List.cons.inj z).1], fun z => by rw [Option.some.inj z]⟩
/-! an argument that is a text, or a value of another kind -/
def txo : List Nat ⊕ As → List As
  | .inl l => [tx l]
  | .inr A => [A]
def okText (K : PySem.W.Frag) : List Nat ⊕ As → Prop
  | .inl l => l.length ≤ 70000
  | .inr A => OddA K "str" A
theorem txo_len (a : List Nat ⊕ As) : (txo a).length = 1 := by cases a <;> rfl
theorem Go.callTx {K : PySem.W.Frag} {L : LL} {O : OO} {t : TA} {k : As → OO → Prop} {r : List Nat ⊕ As → As} {X : XK} (h : GoA L O t fun l O1 => ∃ w, l = [tx w] ∧ w.length ≤ 70000 ∧ k (r (.inl w)) O1) : Go L O (tCall (SpP (okText K) txo r) [] X t) k :=
  Go.callP fun E G0 H0 σ G H Q f s z => h _ _ _ _ _ _ _ f s fun l O' G' H' vs q => z _ _ _ _ _ (by
    obtain ⟨w, h1, h2, h3⟩ := q
    exact ⟨.inl w, h1, h2, h3⟩)

section
variable {P : Program} {w : World} {K : PySem.W.Frag} {mg : Str → Option Value} {base : Heap} [IsP P]
/-! ### s1_is_number_word -/
def isNum (l : List Nat) : Bool := !decide (l = []) && l.all digSign
abbrev sp_s1_is_number_word (K : PySem.W.Frag) : Sp := SpP (fun l : List Nat => l.length ≤ 100000) (fun l => [tx l]) (fun l => bo (isNum l))
theorem ok_s1_is_number_word (T : Txt K mg w) : FnOk P w K mg base CX0 1 T.f_s1_is_number_word T.d_s1_is_number_word ["text"] (sp_s1_is_number_word K) := by
  refine fn_sy T.F_s1_is_number_word sc_s1_is_number_word (fun _ _ => rfl) fun a cdv A outer s H E hr hp => ⟨_, (pss_one (ps_ret (pe_and (pe_cmpR op_ne (pv 0) pe_str (nomark _)) (pe_one (pe_callB (kAll (K := K) rfl rfl) (by rfl) T.n_all (by decide +kernel) (pa_cons (pe_lc (own := [("sign", 1)]) (g := gName 1) (tt := tYes) (by rfl) sc_s1_is_number_word.nd (pi_str (pv 0)) (blkOk_by (own := [("sign", 1)]) (N := N_s1_is_number_word) (sc := defScope S_s1_is_number_word) (by decide +kernel)) (fun _ _ _ _ _ => (pg_name (i := 1) sc_s1_is_number_word.nd rfl (.inl rfl))) (fun _ _ _ _ _ => pts_nil) (fun _ _ _ _ _ => (pe_cmpR op_in_sign (pv 1) (pe_glob (v := .str cs_DIGITS) (by rfl) T.c_DIGITS.choose_spec ⟨_, rfl⟩) (by rfl)))) pa_nil)))))), ?_⟩
  walk_at "cj1"

/-! ### s1_is_small -/
theorem isNum_digits {l : List Nat} (h : isNum l = true) : l ≠ [] ∧ l.all digSign = true := by
  unfold isNum at h
  rw [Bool.and_eq_true, Bool.not_eq_true', decide_eq_false_iff_not] at h
  exact h
def isSmall (l : List Nat) : Bool := isNum l && decide (l.length ≤ 3) && !(decide (l.head? = some 48) && !decide (l = [48])) && decide (NumText.digitsVal l ≤ 255)
abbrev sp_s1_is_small (K : PySem.W.Frag) : Sp := SpP (fun l : List Nat => l.length ≤ 100000) (fun l => [tx l]) (fun l => bo (isSmall l))
theorem ok_s1_is_small (T : Txt K mg w) : FnOk P w K mg base CX0 2 T.f_s1_is_small T.d_s1_is_small ["word"] (sp_s1_is_small K) := by
  refine fn_sy T.F_s1_is_small sc_s1_is_small (fun _ _ => rfl) fun a cdv A outer s H E hr hp => ⟨_, (pss_cons (ps_if (PW.pt (pw_or (pt_not (pt_val (pe_call (ok_s1_is_number_word (P := P) T) (hr.mono (by decide)) (by rfl) T.g_s1_is_number_word T.F_s1_is_number_word.kp T.b_s1_is_number_word .nil pass0 (pa_cons (pv 0) pa_nil)))) (pw_or (pt_cmpR op_gt (pe_callB call_len_str (by rfl) T.n_len (by decide +kernel) (pa_cons (pv 0) pa_nil)) pe_int (nomark _)) (pw_or1 (PW.pt (pw_and (pt_cmpR op_eq (pe_ix ix_str (pv 0) pe_int (fun _ _ => rfl)) pe_str (nomark _)) (pw_and1 (pt_cmpR op_ne (pv 0) pe_str (nomark _)))))))))
      (pss_one (ps_ret pe_bl))
      pss_nil)
      (pss_one (ps_ret (pe_cmpR op_le (pe_callTy call_int_str (by rfl) T.n_int (by decide +kernel) (pa_cons (pv 0) pa_nil)) pe_int (nomark _))))), ?_⟩
  refine GoS.seq (GoS.ite (GoT.orJ (p := !isNum a) (q := decide (3 < (a.length : Int)) || (decide (a.head? = some 48) && !decide (a = [48]))) ?_ (fun h1 => GoT.orJ (p := decide (3 < (a.length : Int))) (q := decide (a.head? = some 48) && !decide (a = [48])) ?_ (fun _ => GoT.andJ (p := decide (a.head? = some 48)) (q := !decide (a = [48])) ?_ (fun _ => ?_) ⟨rfl, rfl⟩) ⟨rfl, rfl⟩) ?_))
  · walk_at "cj2"
  · walk_at "cj2"
  · have hn : a ≠ [] := (isNum_digits (by simpa using h1)).1
    obtain ⟨c, h2, h3⟩ := first_at hn
    walk_at "cj2"
    refine v_ixS hp h2 ?_
    walk_at "cj2"
    exact one_dec h3
  · walk_at "cj2"
  have e : decide (a.length ≤ 3) = !decide (3 < (a.length : Int)) := by
    rw [← decide_not]
    exact decide_eq_decide.mpr (by omega)
  have ef : isSmall a = (isNum a && !decide (3 < (a.length : Int)) && !(decide (a.head? = some 48) && !decide (a = [48])) && decide (NumText.digitsVal a ≤ 255)) := by rw [← e]; rfl
  by_cases hN : isNum a = true
  · rw [hN] at ef ⊢
    by_cases hL : 3 < (a.length : Int)
    · rw [decide_eq_true hL] at ef ⊢
      refine ⟨fun _ => ?_, fun h => (by cases h)⟩
      have ef : isSmall a = false := ef
      walk_at "cj2"
      all_goals (rw [ef])
    · rw [decide_eq_false hL] at ef ⊢
      have hd := isNum_digits hN
      have hi : PySem.intText? (S a) = some (NumText.digitsVal a : Int) := SX.int_S (all_digits hd.2) hd.1 (by omega)
      have hl : a.length ≤ 640 := by omega
      generalize decide (a.head? = some 48) = x at ef ⊢
      generalize decide (a = [48]) = y at ef ⊢
      by_cases hxy : (x && !y) = true
      · rw [hxy] at ef ⊢
        refine ⟨fun _ => ?_, fun h => (by cases h)⟩
        have ef : isSmall a = false := ef
        walk_at "cj2"
        all_goals (rw [ef])
      · rw [Bool.eq_false_iff.mpr hxy] at ef ⊢
        refine ⟨fun h => (by cases h), fun _ => ?_⟩
        have ef : isSmall a = decide (NumText.digitsVal a ≤ 255) := by rw [ef]; rfl
        walk_at "cj2"
        all_goals (rw [ef]; exact congrArg bo (decide_eq_decide.mpr (by omega)))
  · rw [Bool.eq_false_iff.mpr hN] at ef ⊢
    refine ⟨fun _ => ?_, fun h => (by cases h)⟩
    have ef : isSmall a = false := ef
    walk_at "cj2"
    all_goals (rw [ef])

/-! ### s1_is_label -/
def labSign (c : Nat) : Bool := decide (c ∈ lc_LABEL_SIGNS)
def isLabel (l : List Nat) : Bool := decide (1 ≤ l.length ∧ l.length ≤ 20) && !decide (l.head? = some 45) && !decide (l.getLast? = some 45) && l.all labSign
abbrev sp_s1_is_label (K : PySem.W.Frag) : Sp := SpP (fun l : List Nat => l.length ≤ 100000) (fun l => [tx l]) (fun l => bo (isLabel l))
theorem ok_s1_is_label (T : Txt K mg w) : FnOk P w K mg base CX0 1 T.f_s1_is_label T.d_s1_is_label ["text"] (sp_s1_is_label K) := by
  refine fn_sy T.F_s1_is_label sc_s1_is_label (fun _ _ => rfl) fun a cdv A outer s H E hr hp => ⟨_, (pss_cons (ps_if (PW.pt (pw_or (pt_not (pt_chain op_le op_le pe_int (pe_callB call_len_str (by rfl) T.n_len (by decide +kernel) (pa_cons (pv 0) pa_nil)) (pe_glob (v := .int (20)) (by rfl) T.c_MOST_LABEL.choose_spec ⟨_, rfl⟩))) (pw_or (pt_cmpR op_eq (pe_ix ix_str (pv 0) pe_int (fun _ _ => rfl)) pe_str (nomark _)) (pw_or1 (pt_cmpR op_eq (pe_ix ix_str (pv 0) (pe_un un_neg pe_int) (fun _ _ => rfl)) pe_str (nomark _))))))
      (pss_one (ps_ret pe_bl))
      pss_nil)
      (pss_one (ps_ret (pe_callB (kAll (K := K) rfl rfl) (by rfl) T.n_all (by decide +kernel) (pa_cons (pe_lc (own := [("sign", 1)]) (g := gName 1) (tt := tYes) (by rfl) sc_s1_is_label.nd (pi_str (pv 0)) (blkOk_by (own := [("sign", 1)]) (N := N_s1_is_label) (sc := defScope S_s1_is_label) (by decide +kernel)) (fun _ _ _ _ _ => (pg_name (i := 1) sc_s1_is_label.nd rfl (.inl rfl))) (fun _ _ _ _ _ => pts_nil) (fun _ _ _ _ _ => (pe_cmpR op_in_sign (pv 1) (pe_glob (v := .str cs_LABEL_SIGNS) (by rfl) T.c_LABEL_SIGNS.choose_spec ⟨_, rfl⟩) (by rfl)))) pa_nil))))), ?_⟩
  refine GoS.seq (GoS.ite (GoT.orJ (p := !(decide (1 ≤ (a.length : Int)) && decide ((a.length : Int) ≤ 20))) (q := decide (a.head? = some 45) || decide (a.getLast? = some 45)) ?_ (fun h1 => GoT.orJ (p := decide (a.head? = some 45)) (q := decide (a.getLast? = some 45)) ?_ (fun _ => ?_) ⟨rfl, rfl⟩) ?_))
  · walk_at "cj1"
  · have hn : a ≠ [] := fun z => by subst z; cases h1
    obtain ⟨c, h2, h3⟩ := first_at hn
    walk_at "cj1"
    refine v_ixS hp h2 ?_
    walk_at "cj1"
    exact one_dec h3
  · have hn : a ≠ [] := fun z => by subst z; cases h1
    obtain ⟨c, h2, h3⟩ := last_at hn
    walk_at "cj1"
    refine v_ixS hp h2 ?_
    walk_at "cj1"
    exact one_dec h3
  have e : decide (1 ≤ a.length ∧ a.length ≤ 20) = (decide (1 ≤ (a.length : Int)) && decide ((a.length : Int) ≤ 20)) := by
    rw [← Bool.decide_and]
    exact decide_eq_decide.mpr (by omega)
  have ef : isLabel a = ((decide (1 ≤ (a.length : Int)) && decide ((a.length : Int) ≤ 20)) && !decide (a.head? = some 45) && !decide (a.getLast? = some 45) && a.all labSign) := by rw [← e]; rfl
  generalize (decide (1 ≤ (a.length : Int)) && decide ((a.length : Int) ≤ 20)) = x at ef ⊢
  generalize decide (a.head? = some 45) = y at ef ⊢
  generalize decide (a.getLast? = some 45) = z at ef ⊢
  by_cases hx : (!x || (y || z)) = true
  · rw [hx]
    refine ⟨fun _ => ?_, fun h => (by cases h)⟩
    have ef : isLabel a = false := by rw [ef]; revert hx; cases x <;> cases y <;> cases z <;> simp
    walk_at "cj1"
    all_goals (rw [ef])
  · rw [Bool.eq_false_iff.mpr hx]
    refine ⟨fun h => (by cases h), fun _ => ?_⟩
    have ef : isLabel a = a.all labSign := by rw [ef]; revert hx; cases x <;> cases y <;> cases z <;> simp
    walk_at "cj1"
    all_goals (rw [ef]; rfl)

/-! ### is_address_host -/
def isAddr (l : List Nat) : Bool := decide ((parts 46 l).length = 4) && (parts 46 l).all isSmall
def addrA : List Nat ⊕ As → As
  | .inl l => bo (isAddr l)
  | .inr _ => bo false
abbrev sp_is_address_host (K : PySem.W.Frag) : Sp := SpP (okText K) txo addrA
theorem ok_is_address_host (T : Txt K mg w) : FnOk P w K mg base CX0 3 T.f_is_address_host T.d_is_address_host ["value"] (sp_is_address_host K) := by
  refine fn_sy T.F_is_address_host sc_is_address_host (fun a _ => txo_len a) fun a cdv A outer s H E hr hp => ⟨_, (pss_cons (ps_if (pt_not (pt_val (pe_callB (kIsi (K := K) rfl) (by rfl) T.n_isinstance (by decide +kernel) (pa_cons (pv 0) (pa_cons (pe_bltn (v := .ty "str") (by rfl) T.n_str (by decide +kernel) rfl) pa_nil)))))
      (pss_one (ps_ret pe_bl))
      pss_nil)
      (pss_cons (ps_set (i := 1) sc_is_address_host.nd rfl (.inl rfl) (pe_split (pv 0) pe_str))
      (pss_one (ps_ret (pe_and (pe_cmpR op_eq (pe_callB (kLen (K := K) rfl) (by rfl) T.n_len (by decide +kernel) (pa_cons (pv 1) pa_nil)) pe_int (nomark _)) (pe_one (pe_callB (kAll (K := K) rfl rfl) (by rfl) T.n_all (by decide +kernel) (pa_cons (pe_lc (own := [("word", 2)]) (g := gName 2) (tt := tYes) (by rfl) sc_is_address_host.nd (kpList (K := K) rfl (pv 1)) (blkOk_by (own := [("word", 2)]) (N := N_is_address_host) (sc := defScope S_is_address_host) (by decide +kernel)) (fun _ _ _ _ _ => (pg_name (i := 2) sc_is_address_host.nd rfl (.inl rfl))) (fun _ _ _ _ _ => pts_nil) (fun _ _ _ _ _ => (pe_call (ok_s1_is_small (P := P) T) (hr.mono (by decide)) (by rfl) T.g_s1_is_small T.F_s1_is_small.kp T.b_s1_is_small .nil pass0 (pa_cons (pv 2) pa_nil)))) pa_nil)))))))), ?_⟩
  cases a with
  | inr B =>
    have hp : OddA K "str" B := hp
    show GoS [some B, none, none] [] _ _
    refine GoS.seq (GoS.ite (GoT.not (GoT.b (Go.cb (GoA.cons (Go.var rfl (GoA.cons (Go.c (GoA.nil (v_isiOdd hp ⟨false, rfl, fun _ => ?_, fun z => (by cases z)⟩)))))))))) 
    walk_at "cj1"
  | inl a =>
    have hp : a.length ≤ 70000 := hp
    have pl := parts_len 46 a
    have pe : ∀ x ∈ parts 46 a, x.length ≤ 100000 := fun x hx => by have := parts_each 46 x hx; omega
    show GoS [some (tx a), none, none] [] _ _
    walk_at "cj1"
    · exact pe x hx
    · show bo _ = bo (isAddr a)
      unfold isAddr
      rw [List.length_map]
      exact congrArg (fun b => bo (b && (parts 46 a).all isSmall)) (decide_eq_decide.mpr (by omega))

/-! ### is_host -/
def isHost (l : List Nat) : Bool := decide (l.length ≤ 100) && decide ((parts 46 l).length ≤ 10) && (parts 46 l).all isLabel && (!isNum ((parts 46 l).getLast (parts_ne 46 l)) || isAddr l)
def hostA : List Nat ⊕ As → As
  | .inl l => bo (isHost l)
  | .inr _ => bo false
abbrev sp_is_host (K : PySem.W.Frag) : Sp := SpP (okText K) txo hostA
theorem ok_is_host (T : Txt K mg w) : FnOk P w K mg base CX0 4 T.f_is_host T.d_is_host ["value"] (sp_is_host K) := by
  refine fn_sy T.F_is_host sc_is_host (fun a _ => txo_len a) fun a cdv A outer s H E hr hp => ⟨_, (pss_cons (ps_if (PW.pt (pw_or (pt_not (pt_val (pe_callB (kIsi (K := K) rfl) (by rfl) T.n_isinstance (by decide +kernel) (pa_cons (pv 0) (pa_cons (pe_bltn (v := .ty "str") (by rfl) T.n_str (by decide +kernel) rfl) pa_nil))))) (pw_or1 (pt_cmpR op_gt (pe_callB call_len_str (by rfl) T.n_len (by decide +kernel) (pa_cons (pv 0) pa_nil)) (pe_glob (v := .int (100)) (by rfl) T.c_MOST_SIGNS.choose_spec ⟨_, rfl⟩) (nomark _)))))
      (pss_one (ps_ret pe_bl))
      pss_nil)
      (pss_cons (ps_set (i := 1) sc_is_host.nd rfl (.inl rfl) (pe_split (pv 0) pe_str))
      (pss_cons (ps_if (PW.pt (pw_or (pt_cmpR op_gt (pe_callB (kLen (K := K) rfl) (by rfl) T.n_len (by decide +kernel) (pa_cons (pv 1) pa_nil)) (pe_glob (v := .int (10)) (by rfl) T.c_MOST_LABELS.choose_spec ⟨_, rfl⟩) (nomark _)) (pw_or1 (pt_not (pt_val (pe_callB (kAll (K := K) rfl rfl) (by rfl) T.n_all (by decide +kernel) (pa_cons (pe_lc (own := [("word", 2)]) (g := gName 2) (tt := tYes) (by rfl) sc_is_host.nd (kpList (K := K) rfl (pv 1)) (blkOk_by (own := [("word", 2)]) (N := N_is_host) (sc := defScope S_is_host) (by decide +kernel)) (fun _ _ _ _ _ => (pg_name (i := 2) sc_is_host.nd rfl (.inl rfl))) (fun _ _ _ _ _ => pts_nil) (fun _ _ _ _ _ => (pe_call (ok_s1_is_label (P := P) T) (hr.mono (by decide)) (by rfl) T.g_s1_is_label T.F_s1_is_label.kp T.b_s1_is_label .nil pass0 (pa_cons (pv 2) pa_nil)))) pa_nil)))))))
      (pss_one (ps_ret pe_bl))
      pss_nil)
      (pss_one (ps_ret (pe_or (pe_not (pe_call (ok_s1_is_number_word (P := P) T) (hr.mono (by decide)) (by rfl) T.g_s1_is_number_word T.F_s1_is_number_word.kp T.b_s1_is_number_word .nil pass0 (pa_cons (pe_ix (kIxL (K := K) rfl) (pv 1) (pe_un un_neg pe_int) (fun _ _ => rfl)) pa_nil))) (pe_one (pe_call (ok_is_address_host (P := P) T) (hr.mono (by decide)) (by rfl) T.g_is_address_host T.F_is_address_host.kp T.b_is_address_host .nil pass0 (pa_cons (pv 0) pa_nil))))))))), ?_⟩
  cases a with
  | inr B =>
    have hp : OddA K "str" B := hp
    show GoS [some B, none, none] [] _ _
    refine GoS.seq (GoS.ite (GoT.or (GoT.not (GoT.b (Go.cb (GoA.cons (Go.var rfl (GoA.cons (Go.c (GoA.nil (v_isiOdd hp ⟨false, rfl, ?_⟩))))))))))) 
    walk_at "cj3"
  | inl a =>
    have hp : a.length ≤ 70000 := hp
    have pl := parts_len 46 a
    have pe : ∀ x ∈ parts 46 a, x.length ≤ 100000 := fun x hx => by have := parts_each 46 x hx; omega
    have lw : (parts 46 a).getLast? = some ((parts 46 a).getLast (parts_ne 46 a)) := List.getLast?_eq_some_getLast _
    have ef : isHost a = (!decide (100 < (a.length : Int)) && !decide (10 < ((parts 46 a).length : Int)) && (parts 46 a).all isLabel && (!isNum ((parts 46 a).getLast (parts_ne 46 a)) || isAddr a)) := by
      have e1 : decide (a.length ≤ 100) = !decide (100 < (a.length : Int)) := by rw [← decide_not]; exact decide_eq_decide.mpr (by omega)
      have e2 : decide ((parts 46 a).length ≤ 10) = !decide (10 < ((parts 46 a).length : Int)) := by rw [← decide_not]; exact decide_eq_decide.mpr (by omega)
      rw [← e1, ← e2]
      rfl
    have lwl := pe _ (List.mem_of_getLast? lw)
    generalize (parts 46 a).getLast (parts_ne 46 a) = w9 at lw ef lwl
    have atw : atI ((parts 46 a).map tx) (-1) = some (tx w9) := atI_neg1 (by rw [List.getLast?_map, lw]; rfl)
    show GoS [some (tx a), none, none] [] _ _
    walk_at "cj3"
    · have h' : decide (100 < (a.length : Int)) = true := h
      show bo false = bo (isHost a)
      rw [ef, h']
      rfl
    · exact pe x hx
    · rename_i h0
      have h' : decide (100 < (a.length : Int)) = false := h0
      rw [List.length_map] at h
      show bo false = bo (isHost a)
      rw [ef, h']
      rw [Bool.or_eq_true, Bool.not_eq_true'] at h
      rcases h with h | h
      · rw [h]; rfl
      · rw [h, Bool.and_false]; rfl
    · refine v_ixL atw ?_
      walk_at "cj3"
    · exact ⟨.inl a, rfl, hp, rfl, rfl⟩
    · rename_i h0
      have h' : decide (100 < (a.length : Int)) = false := h0
      rw [List.length_map, Bool.or_eq_false_iff, Bool.not_eq_false'] at h
      show bo (!isNum w9 || isAddr a) = bo (isHost a)
      rw [ef, h', h.1, h.2]
      rfl

end
section
/-! hosts by their words: all but the last, and the last -/
theorem parts_snoc {c x : Nat} (h : x ≠ c) : ∀ {l : List Nat} {i : List (List Nat)} {w : List Nat}, parts c l = i ++ [w] → parts c (l ++ [x]) = i ++ [w ++ [x]]
  | [], i, w, e => by
    rw [parts_nil] at e
    obtain ⟨rfl, rfl⟩ : i = [] ∧ w = [] := by
      cases i with
      | nil => simp at e; exact ⟨rfl, e⟩
      | cons a r => simp at e
    rw [List.nil_append, parts_one (by simp; omega)]
    rfl
  | y :: l, i, w, e => by
    obtain ⟨i', w', e'⟩ : ∃ i' w', parts c l = i' ++ [w'] := ⟨_, _, (List.dropLast_concat_getLast (parts_ne c l)).symm⟩
    have ih := parts_snoc h e'
    by_cases hy : y = c
    · subst hy
      rw [parts_hit, e'] at e
      rw [List.cons_append, parts_hit, ih]
      rw [show [] :: (i' ++ [w']) = ([] :: i') ++ [w'] from rfl] at e
      have e1 := List.append_inj_left' e rfl
      have e2 := List.append_inj_right' e rfl
      rw [← e1, show w = w' from (List.cons.inj e2).1.symm]
      rfl
    · obtain ⟨p, r, h1, h2⟩ := parts_miss hy l
      obtain ⟨p', r', h3, h4⟩ := parts_miss hy (l ++ [x])
      rw [h2] at e
      rw [List.cons_append, h4]
      rw [h1] at e'
      rw [h3] at ih
      cases i' with
      | nil =>
        obtain ⟨rfl, rfl⟩ := List.cons.inj (show p :: r = w' :: [] from e')
        obtain ⟨rfl, rfl⟩ := List.cons.inj (show p' :: r' = (p ++ [x]) :: [] from ih)
        cases i with
        | nil =>
          have := (List.cons.inj (show (y :: p) :: [] = w :: [] from e)).1
          rw [← this]
          rfl
        | cons a b => have := congrArg List.length e; simp at this
      | cons a b =>
        obtain ⟨rfl, rfl⟩ := List.cons.inj (show p :: r = a :: (b ++ [w']) from e')
        obtain ⟨rfl, rfl⟩ := List.cons.inj (show p' :: r' = p :: (b ++ [w' ++ [x]]) from ih)
        have e1 := List.append_inj_left' (show ((y :: p') :: b) ++ [w'] = i ++ [w] from e) rfl
        have e2 := List.append_inj_right' (show ((y :: p') :: b) ++ [w'] = i ++ [w] from e) rfl
        rw [← e1, show w = w' from (List.cons.inj e2).1.symm]
        rfl
theorem words_of (l : List Nat) : ∃ i w, parts 46 l = i ++ [w] := ⟨_, _, (List.dropLast_concat_getLast (parts_ne 46 l)).symm⟩
def hostW (n : Nat) (i : List (List Nat)) (w : List Nat) : Bool := decide (n ≤ 100) && decide (i.length + 1 ≤ 10) && (i.all isLabel && isLabel w) && (!isNum w || (decide (i.length + 1 = 4) && (i.all isSmall && isSmall w)))
theorem isHost_w {l : List Nat} {i : List (List Nat)} {w : List Nat} (e : parts 46 l = i ++ [w]) : isHost l = hostW l.length i w := by
  have hl : (parts 46 l).getLast (parts_ne 46 l) = w := by
    have : (parts 46 l).getLast? = some w := by rw [e]; simp
    rw [List.getLast?_eq_some_getLast (parts_ne 46 l)] at this
    exact Option.some.inj this
  unfold isHost isAddr hostW
  rw [hl, e]
  simp [List.all_append]
def mayW (i : List (List Nat)) (w : List Nat) : Bool := decide (i.length + 1 ≤ 4) && i.all isSmall && (decide (w = []) || isSmall w)
def beginsW (n : Nat) (i : List (List Nat)) (w : List Nat) : Bool :=
  if (decide ((100 : Int) - n < 0) || (decide (10 < i.length + 1) || !i.all isLabel)) = true then false
  else if decide (w = []) = true then decide ((0 : Int) < 100 - n)
  else if (decide (w.head? = some 45) || (decide (20 < w.length) || !w.all labSign)) = true then false
  else if (!decide (w.getLast? = some 45) && !isNum w) = true then true
  else if (decide ((0 : Int) < 100 - n) && decide (w.length < 20)) = true then true
  else if decide (w.getLast? = some 45) = true then false
  else (decide ((1 : Int) < 100 - n) && decide (i.length + 1 < 10)) || (mayW i w && decide (2 * (4 - ((i.length : Int) + 1)) ≤ 100 - n))
theorem lab_a (w : List Nat) : isLabel (w ++ [97]) = (decide (w.length < 20) && !decide (w.head? = some 45) && w.all labSign) := by
  unfold isLabel
  have h1 : (w ++ [97]).getLast? = some 97 := by simp
  have h2 : (w ++ [97]).all labSign = w.all labSign := by
    rw [List.all_append, show [97].all labSign = true by decide +kernel, Bool.and_true]
  have h3 : decide ((w ++ [97]).head? = some 45) = decide (w.head? = some 45) := by
    cases w <;> simp
  have h4 : decide (1 ≤ (w ++ [97]).length ∧ (w ++ [97]).length ≤ 20) = decide (w.length < 20) := decide_eq_decide.mpr (by rw [List.length_append, List.length_singleton]; omega)
  rw [h1, h2, h3, h4]
  simp
theorem num_a (w : List Nat) : isNum (w ++ [97]) = false := by
  unfold isNum
  rw [List.all_append, show [97].all digSign = false by decide +kernel]
  simp
theorem lab_nil : isLabel [] = false := by decide +kernel
theorem lab_of {w : List Nat} (hn : w ≠ []) : isLabel w = (decide (w.length ≤ 20) && !decide (w.head? = some 45) && !decide (w.getLast? = some 45) && w.all labSign) := by
  unfold isLabel
  have : 1 ≤ w.length := List.length_pos_iff.mpr hn
  rw [show decide (1 ≤ w.length ∧ w.length ≤ 20) = decide (w.length ≤ 20) from decide_eq_decide.mpr (by omega)]
theorem begins_eq (n : Nat) (i : List (List Nat)) (w : List Nat) : beginsW n i w = (hostW n i w || hostW (n + 1) i (w ++ [97]) || hostW (n + 2) (i ++ [w]) [97]) := by
  have l97 : isLabel [97] = true := by decide +kernel
  have n97 : isNum [97] = false := by decide +kernel
  unfold hostW
  rw [lab_a, num_a, l97, n97, List.all_append, List.length_append, List.length_singleton, show [w].all isLabel = isLabel w by simp]
  unfold beginsW
  by_cases g1 : n ≤ 100
  case neg =>
    rw [if_pos (by rw [decide_eq_true (show (100 : Int) - n < 0 by omega)]; rfl), decide_eq_false g1, decide_eq_false (show ¬ n + 1 ≤ 100 by omega), decide_eq_false (show ¬ n + 2 ≤ 100 by omega)]
    rfl
  by_cases g2 : i.length + 1 ≤ 10
  case neg =>
    rw [if_pos (by rw [decide_eq_true (show 10 < i.length + 1 by omega)]; simp), decide_eq_false g2, decide_eq_false (show ¬ i.length + 1 + 1 ≤ 10 by omega)]
    simp
  cases g3 : i.all isLabel with
  | false => simp
  | true =>
    rw [if_neg (by simp; omega)]
    by_cases g4 : w = []
    · subst g4
      rw [if_pos (by simp), lab_nil]
      simp [g2]
      omega
    rw [if_neg (by simpa using g4), lab_of g4]
    cases g5 : decide (w.head? = some 45) with
    | true => simp
    | false =>
    by_cases g6 : w.length ≤ 20
    case neg => simp [g6, show 20 < w.length by omega, show ¬ w.length < 20 by omega]
    cases g7 : w.all labSign with
    | false => simp
    | true =>
    rw [if_neg (by simp; omega)]
    cases g8 : decide (w.getLast? = some 45) with
    | false =>
      cases g9 : isNum w with
      | false => simp [g1, g2, g6]
      | true =>
        simp only [Bool.not_false, Bool.not_true, Bool.and_false, Bool.true_and, Bool.false_or, Bool.false_eq_true, if_false, decide_eq_true g1, decide_eq_true g2, decide_eq_true g6, Bool.and_true]
        by_cases g10 : n < 100 ∧ w.length < 20
        · rw [if_pos (by simp; omega), decide_eq_true (show n + 1 ≤ 100 by omega), decide_eq_true g10.2]
          simp
        · rw [if_neg (by simp; omega)]
          have e1 : (decide (n + 1 ≤ 100) && decide (w.length < 20)) = false := by simp; omega
          have e2 : mayW i w = (decide (i.length + 1 ≤ 4) && (i.all isSmall && isSmall w)) := by
            unfold mayW
            rw [decide_eq_false g4, Bool.false_or, Bool.and_assoc]
          rw [e2]
          have e3 : ∀ b c d : Bool, (decide (n + 1 ≤ 100) && (b && (decide (w.length < 20) && c && d))) = false := fun b c d => by
            revert e1
            cases decide (n + 1 ≤ 100) <;> cases decide (w.length < 20) <;> cases b <;> cases c <;> simp
          generalize (i.all isSmall && isSmall w) = sm
          by_cases k1 : 1 < (100 : Int) - n ∧ i.length + 1 < 10
          · simp [k1.1, k1.2, show n + 2 ≤ 100 by omega, show i.length + 1 + 1 ≤ 10 by omega]
          · have k2 : (decide ((1 : Int) < 100 - n) && decide (i.length + 1 < 10)) = false := by simp; omega
            have k3 : (decide (n + 2 ≤ 100) && decide (i.length + 1 + 1 ≤ 10)) = false := by simp; omega
            rw [k2, k3]
            by_cases k4 : i.length + 1 = 4
            · have : (2 : Int) * (4 - ((i.length : Int) + 1)) ≤ 100 - n := by omega
              simp [this, show i.length = 3 by omega, e3]
              rw [decide_eq_true (show (n : Int) ≤ 100 by omega), show (decide (n ≤ 99) && decide (w.length < 20)) = false by simp; omega]
              simp
            · by_cases k5 : i.length + 1 ≤ 4
              · have : ¬ (2 : Int) * (4 - ((i.length : Int) + 1)) ≤ 100 - n := by omega
                simp [k4, this, e3]
                omega
              · simp [k4, k5, e3]
                omega
    | true =>
      simp [g2, g6]
      rw [show decide ((n : Int) < 100) = decide (n ≤ 99) from decide_eq_decide.mpr (by omega)]
theorem begins_of {l : List Nat} {i : List (List Nat)} {w : List Nat} (e : parts 46 l = i ++ [w]) : beginsW l.length i w = (isHost l || isHost (l ++ [97]) || isHost (l ++ [46, 97])) := by
  have e2 : parts 46 (l ++ [46, 97]) = (i ++ [w]) ++ [[97]] := by
    rw [show l ++ [46, 97] = l ++ 46 :: [97] from rfl, parts_cut, e, parts_one (by simp)]
  rw [begins_eq, isHost_w e, isHost_w (parts_snoc (x := 97) (by decide) e), isHost_w e2, List.length_append, List.length_append]
  rfl
theorem host_dot (l : List Nat) : isHost (l ++ [46]) = false := by
  have e : parts 46 (l ++ [46]) = parts 46 l ++ [[]] := by rw [parts_cut, parts_nil]
  rw [isHost_w e]
  unfold hostW
  rw [lab_nil]
  simp
/-- a text that ends with a dot behind a host, or is one -/
def tellsT (l : List Nat) : Bool := isHost l || (decide (l.getLast? = some 46) && isHost l.dropLast)
theorem tells_dot (l : List Nat) : tellsT (l ++ [46]) = isHost l := by
  unfold tellsT
  rw [host_dot, List.dropLast_concat]
  simp
theorem tells_a (l m : List Nat) (h : m.getLast? = some 97) : tellsT (l ++ m) = isHost (l ++ m) := by
  unfold tellsT
  rw [show (l ++ m).getLast? = some 97 by rw [List.getLast?_append, h]; rfl]
  simp
def beginsT (l : List Nat) : Bool := tellsT l || (tellsT (l ++ [97]) || (tellsT (l ++ [46, 97]) || tellsT (l ++ [46])))
theorem begins_law {l : List Nat} {i : List (List Nat)} {w : List Nat} (e : parts 46 l = i ++ [w]) : (beginsW l.length i w || (decide (l.getLast? = some 46) && isHost l.dropLast)) = beginsT l := by
  unfold beginsT
  rw [begins_of e, tells_dot, tells_a l [97] rfl, tells_a l [46, 97] rfl]
  unfold tellsT
  cases isHost l <;> cases isHost (l ++ [97]) <;> cases isHost (l ++ [46, 97]) <;> cases (decide (l.getLast? = some 46) && isHost l.dropLast) <;> rfl
/-- the first place at which something is wrong, counted from 1; one behind the last if there is none -/
def firstAt (p : Nat → Bool) (n : Nat) : Nat := (((List.range n).find? p).map (· + 1)).getD (n + 1)
theorem firstAt_hit {p : Nat → Bool} {n i : Nat} (hi : i < n) (h : ∀ j < i, p j = false) (hp : p i = true) : firstAt p n = i + 1 := by
  unfold firstAt
  rw [show (List.range n).find? p = some i from List.find?_range_eq_some.mpr ⟨hp, List.mem_range.mpr hi, fun j hj => by rw [h j hj]; rfl⟩]
  rfl
theorem firstAt_miss {p : Nat → Bool} {n : Nat} (h : ∀ j < n, p j = false) : firstAt p n = n + 1 := by
  unfold firstAt
  rw [show (List.range n).find? p = none from List.find?_eq_none.mpr fun j hj => by rw [h j (List.mem_range.mp hj)]; decide]
  rfl
theorem firstAt_congr {p q : Nat → Bool} {n : Nat} (h : ∀ j < n, p j = q j) : firstAt p n = firstAt q n := by
  by_cases hx : ∃ i, i < n ∧ p i = true
  · obtain ⟨i, hi, hp⟩ := hx
    induction i using Nat.strongRecOn with
    | ind i ih =>
      by_cases hy : ∃ j, j < i ∧ p j = true
      · obtain ⟨j, hj, hpj⟩ := hy
        exact ih j hj (by omega) hpj
      · have hz : ∀ j < i, p j = false := fun j hj => Bool.eq_false_iff.mpr fun z => hy ⟨j, hj, z⟩
        rw [firstAt_hit hi hz hp, firstAt_hit hi (fun j hj => (h j (by omega)).symm.trans (hz j hj)) ((h i hi).symm.trans hp)]
  · have hz : ∀ j < n, p j = false := fun j hj => Bool.eq_false_iff.mpr fun z => hx ⟨j, hj, z⟩
    rw [firstAt_miss hz, firstAt_miss fun j hj => (h j hj).symm.trans (hz j hj)]
theorem firstAt_le (p : Nat → Bool) (n : Nat) : firstAt p n ≤ n + 1 := by
  by_cases hx : ∃ i, i < n ∧ p i = true
  · obtain ⟨i, hi, hp⟩ := hx
    unfold firstAt
    cases e : (List.range n).find? p with
    | none => simp
    | some j =>
      have := List.mem_range.mp (List.mem_of_find?_eq_some e)
      show j + 1 ≤ n + 1
      omega
  · rw [firstAt_miss fun j hj => Bool.eq_false_iff.mpr fun z => hx ⟨j, hj, z⟩]
    omega
/-- what the text of a host tells: the host, or the place -/
def wrongAt (h : List Nat) : Nat := firstAt (fun j => !beginsT (h.take (j + 1))) h.length

end
section
variable {P : Program} {w : World} {K : PySem.W.Frag} {mg : Str → Option Value} {base : Heap} [IsP P]
end
section
/-! tuples of texts, with odd parts, or values of other kinds -/
def pA : List Nat ⊕ As → As
  | .inl l => tx l
  | .inr A => A
def tuA (K : PySem.W.Frag) : List (List Nat ⊕ As) ⊕ As → As
  | .inl xs => tup K (xs.map pA)
  | .inr A => A
def okTu (K : PySem.W.Frag) : List (List Nat ⊕ As) ⊕ As → Prop
  | .inl xs => xs.length ≤ 1000 ∧ ∀ x ∈ xs, okText K x
  | .inr A => OddA K "tuple" A
def schemeB (l : List Nat) : Bool := decide (l ∈ [[104, 116, 116, 112], [104, 116, 116, 112, 115]])
def hostB : List Nat ⊕ As → Bool
  | .inl h => isHost h
  | .inr _ => false
def origL : List (List Nat ⊕ As) → Bool
  | [.inl s, b] => schemeB s && hostB b
  | _ => false
def origB : List (List Nat ⊕ As) ⊕ As → Bool
  | .inl xs => origL xs
  | .inr _ => false
theorem odd_t_n {K : PySem.W.Frag} : OddA K "tuple" no := ⟨"NoneType", by decide +kernel, fun _ => tx_n⟩
theorem odd_t_i {K : PySem.W.Frag} {i : Int} : OddA K "tuple" (it i) := ⟨"int", by decide +kernel, fun _ => tx_i⟩
theorem odd_t_s {K : PySem.W.Frag} {l : List Nat} : OddA K "tuple" (tx l) := ⟨"str", by decide +kernel, fun _ => tx_s⟩
theorem odd_t_l {K : PySem.W.Frag} {xs : List As} : OddA K "tuple" (lst K xs) := ⟨"list", by decide +kernel, fun _ => tx_l⟩

end
section
variable {P : Program} {w : World} {K : PySem.W.Frag} {mg : Str → Option Value} {base : Heap} [IsP P]
/-! ### s1_is_path_sign -/
def pathSign (c : Nat) : Bool := decide (c ∈ lc_PATH_SIGNS)
abbrev sp_s1_is_path_sign (K : PySem.W.Frag) : Sp := SpP (fun _ : Nat => True) (fun c => [tx [c]]) (fun c => bo (pathSign c))
theorem ok_s1_is_path_sign (T : Txt K mg w) : FnOk P w K mg base CX0 1 T.f_s1_is_path_sign T.d_s1_is_path_sign ["sign"] (sp_s1_is_path_sign K) := by
  refine fn_sy T.F_s1_is_path_sign sc_s1_is_path_sign (fun _ _ => rfl) fun a cdv A outer s H E hr hp => ⟨_, (pss_one (ps_ret (pe_cmpR op_in_sign (pv 0) (pe_glob (v := .str cs_PATH_SIGNS) (by rfl) T.c_PATH_SIGNS.choose_spec ⟨_, rfl⟩) (by rfl)))), ?_⟩
  walk_at "cj1"

/-! ### is_path -/
def isPath (l : List Nat) : Bool := decide (1 ≤ l.length ∧ l.length ≤ 200) && (l.head? == some 47) && l.all pathSign
def pathA : List Nat ⊕ As → As
  | .inl l => bo (isPath l)
  | .inr _ => bo false
abbrev sp_is_path (K : PySem.W.Frag) : Sp := SpP (okText K) txo pathA
theorem ok_is_path (T : Txt K mg w) : FnOk P w K mg base CX0 2 T.f_is_path T.d_is_path ["value"] (sp_is_path K) := by
  refine fn_sy T.F_is_path sc_is_path (fun a _ => txo_len a) fun a cdv A outer s H E hr hp => ⟨_, (pss_cons (ps_if (PW.pt (pw_or (pt_not (pt_val (pe_callB (kIsi (K := K) rfl) (by rfl) T.n_isinstance (by decide +kernel) (pa_cons (pv 0) (pa_cons (pe_bltn (v := .ty "str") (by rfl) T.n_str (by decide +kernel) rfl) pa_nil))))) (pw_or (pt_not (pt_chain op_le op_le pe_int (pe_callB call_len_str (by rfl) T.n_len (by decide +kernel) (pa_cons (pv 0) pa_nil)) (pe_glob (v := .int (200)) (by rfl) T.c_MOST_PATH.choose_spec ⟨_, rfl⟩))) (pw_or1 (pt_cmpR op_ne (pe_ix ix_str (pv 0) pe_int (fun _ _ => rfl)) pe_str (nomark _))))))
      (pss_one (ps_ret pe_bl))
      pss_nil)
      (pss_one (ps_ret (pe_callB (kAll (K := K) rfl rfl) (by rfl) T.n_all (by decide +kernel) (pa_cons (pe_lc (own := [("sign", 1)]) (g := gName 1) (tt := tYes) (by rfl) sc_is_path.nd (pi_str (pv 0)) (blkOk_by (own := [("sign", 1)]) (N := N_is_path) (sc := defScope S_is_path) (by decide +kernel)) (fun _ _ _ _ _ => (pg_name (i := 1) sc_is_path.nd rfl (.inl rfl))) (fun _ _ _ _ _ => pts_nil) (fun _ _ _ _ _ => (pe_call (ok_s1_is_path_sign (P := P) T) (hr.mono (by decide)) (by rfl) T.g_s1_is_path_sign T.F_s1_is_path_sign.kp T.b_s1_is_path_sign .nil pass0 (pa_cons (pv 1) pa_nil)))) pa_nil))))), ?_⟩
  cases a with
  | inr B =>
    have hp : OddA K "str" B := hp
    show GoS [some B, none] [] _ _
    refine GoS.seq (GoS.ite (GoT.or (GoT.not (GoT.b (Go.cb (GoA.cons (Go.var rfl (GoA.cons (Go.c (GoA.nil (v_isiOdd hp ⟨false, rfl, ?_⟩))))))))))) 
    walk_at "cj1"
  | inl a =>
    have hp : a.length ≤ 70000 := hp
    show GoS [some (tx a), none] [] _ _
    refine GoS.seq (GoS.ite (GoT.orJ (p := false) (q := !(decide (1 ≤ (a.length : Int)) && decide ((a.length : Int) ≤ 200)) || !decide (a.head? = some 47)) ?_ (fun _ => GoT.orJ (p := !(decide (1 ≤ (a.length : Int)) && decide ((a.length : Int) ≤ 200))) (q := !decide (a.head? = some 47)) ?_ (fun h1 => ?_) ⟨rfl, rfl⟩) ?_))
    · walk_at "cj1"
    · walk_at "cj1"
    · have hn : a ≠ [] := fun z => by subst z; cases h1
      obtain ⟨c, h2, h3⟩ := first_at hn
      walk_at "cj1"
      refine v_ixS (by omega) h2 ?_
      walk_at "cj1"
      rw [one_dec h3]
    have ef : isPath a = ((decide (1 ≤ (a.length : Int)) && decide ((a.length : Int) ≤ 200)) && decide (a.head? = some 47) && a.all pathSign) := by
      have e : decide (1 ≤ a.length ∧ a.length ≤ 200) = (decide (1 ≤ (a.length : Int)) && decide ((a.length : Int) ≤ 200)) := by
        rw [← Bool.decide_and]
        exact decide_eq_decide.mpr (by omega)
      have e2 : (a.head? == some 47) = decide (a.head? = some 47) := by
        by_cases z : a.head? = some 47
        · rw [decide_eq_true z, z]; rfl
        · rw [decide_eq_false z]; exact beq_eq_false_iff_ne.mpr z
      rw [← e, ← e2]
      rfl
    generalize (decide (1 ≤ (a.length : Int)) && decide ((a.length : Int) ≤ 200)) = x at ef ⊢
    generalize decide (a.head? = some 47) = y at ef ⊢
    by_cases hx : (false || (!x || !y)) = true
    · rw [hx]
      refine ⟨fun _ => ?_, fun h => (by cases h)⟩
      have ef : isPath a = false := by rw [ef]; revert hx; cases x <;> cases y <;> simp
      walk_at "cj1"
      all_goals (show bo false = bo (isPath a); rw [ef])
    · rw [Bool.eq_false_iff.mpr hx]
      refine ⟨fun h => (by cases h), fun _ => ?_⟩
      have ef : isPath a = a.all pathSign := by rw [ef]; revert hx; cases x <;> cases y <;> simp
      walk_at "cj1"
      all_goals (show bo _ = bo (isPath a); rw [ef])

end
section
def pathB : List Nat ⊕ As → Bool
  | .inl h => isPath h
  | .inr _ => false
def addrL : List (List Nat ⊕ As) → Bool
  | [a, b, c] => origL [a, b] && pathB c
  | _ => false
def addrB : List (List Nat ⊕ As) ⊕ As → Bool
  | .inl xs => addrL xs
  | .inr _ => false
theorem addr_parts {a : List (List Nat ⊕ As) ⊕ As} (h : addrB a = true) : ∃ s h p, a = .inl [.inl s, .inl h, .inl p] ∧ schemeB s = true ∧ isHost h = true ∧ isPath p = true := by
  cases a with
  | inr _ => cases h
  | inl xs =>
    match xs, h with
    | [.inl s, .inl x, .inl p], h =>
      have h : ((schemeB s && isHost x) && isPath p) = true := h
      rw [Bool.and_eq_true, Bool.and_eq_true] at h
      exact ⟨s, x, p, rfl, h.1.1, h.1.2, h.2⟩
    | [.inl s, .inl x, .inr p], h => simp [addrB, addrL, pathB] at h
    | [.inl s, .inr x, c], h => simp [addrB, addrL, origL, hostB] at h
    | [.inr s, b, c], h => simp [addrB, addrL, origL] at h
    | [], h => cases h
    | [_], h => cases h
    | [_, _], h => cases h
    | _ :: _ :: _ :: _ :: _, h => cases h

end
section
variable {P : Program} {w : World} {K : PySem.W.Frag} {mg : Str → Option Value} {base : Heap} [IsP P]
/-! ### is_origin -/
abbrev sp_is_origin (K : PySem.W.Frag) : Sp := SpP (okTu K) (fun a => [tuA K a]) (fun a => bo (origB a))
theorem ok_is_origin (T : Txt K mg w) : FnOk P w K mg base CX0 5 T.f_is_origin T.d_is_origin ["value"] (sp_is_origin K) := by
  refine fn_sy T.F_is_origin sc_is_origin (fun _ _ => rfl) fun a cdv A outer s H E hr hp => ⟨_, (pss_cons (ps_if (PW.pt (pw_or (pt_not (pt_val (pe_callB (kIsi (K := K) rfl) (by rfl) T.n_isinstance (by decide +kernel) (pa_cons (pv 0) (pa_cons (pe_bltn (v := .ty "tuple") (by rfl) T.n_tuple (by decide +kernel) rfl) pa_nil))))) (pw_or (pt_cmpR op_ne (pe_callB (kLen (K := K) rfl) (by rfl) T.n_len (by decide +kernel) (pa_cons (pv 0) pa_nil)) pe_int (nomark _)) (pw_or1 (pt_not (pt_val (pe_callB (kIsi (K := K) rfl) (by rfl) T.n_isinstance (by decide +kernel) (pa_cons (pe_ix (kIxT (K := K) rfl) (pv 0) pe_int (fun _ _ => rfl)) (pa_cons (pe_bltn (v := .ty "str") (by rfl) T.n_str (by decide +kernel) rfl) pa_nil)))))))))
      (pss_one (ps_ret pe_bl))
      pss_nil)
      (pss_one (ps_ret (pe_and (pe_cmpR (kIn (K := K) rfl) (pe_ix (kIxT (K := K) rfl) (pv 0) pe_int (fun _ _ => rfl)) (pe_glob (v := .ref T.a_SCHEMES) (by rfl) T.q_SCHEMES rfl) (by rfl)) (pe_one (pe_call (ok_is_host (P := P) T) (hr.mono (by decide)) (by rfl) T.g_is_host T.F_is_host.kp T.b_is_host .nil pass0 (pa_cons (pe_ix (kIxT (K := K) rfl) (pv 0) pe_int (fun _ _ => rfl)) pa_nil))))))), ?_⟩
  cases a with
  | inr B =>
    have hp : OddA K "tuple" B := hp
    show GoS [some B] [] _ _
    refine GoS.seq (GoS.ite (GoT.or (GoT.not (GoT.b (Go.cb (GoA.cons (Go.var rfl (GoA.cons (Go.c (GoA.nil (v_isiOdd hp ⟨false, rfl, ?_⟩))))))))))) 
    walk_at "cj4"
  | inl xs =>
    obtain ⟨hl, hx⟩ := hp
    show GoS [some (tup K (xs.map pA))] [] _ _
    by_cases h2 : xs.length = 2
    case neg =>
      have e : origB (.inl xs) = false := by
        match xs, h2 with
        | [], _ => rfl
        | [a], _ => cases a <;> rfl
        | a :: _ :: _ :: _, _ => cases a <;> rfl
        | [_, _], h2 => exact absurd rfl h2
      refine GoS.seq (GoS.ite (GoT.orJ (p := false) (q := true) ?_ (fun _ => GoT.orJ (p := true) (q := true) ?_ (fun h => (by cases h)) ⟨rfl, rfl⟩) ⟨fun _ => ?_, fun h => (by cases h)⟩))
      · walk_at "cj4"
      · walk_at "cj4"
        rw [List.length_map]
        simp only [Bool.not_eq_true', decide_eq_false_iff_not]
        omega
      · walk_at "cj4"
        rw [e]
    case pos =>
      match xs, h2 with
      | [.inr A, b], _ =>
        have ha : OddA K "str" A := hx (.inr A) (by simp)
        refine GoS.seq (GoS.ite (GoT.orJ (p := false) (q := true) ?_ (fun _ => GoT.orJ (p := false) (q := true) ?_ (fun h => ?_) ⟨rfl, rfl⟩) ⟨fun _ => ?_, fun h => (by cases h)⟩))
        · walk_at "cj4"
        · walk_at "cj4"
        · exact GoT.not (GoT.b (Go.cb (GoA.cons (Go.op (Go.var rfl (Go.c (v_ixT (A := A) rfl (GoA.cons (Go.c (GoA.nil (v_isiOdd ha ⟨false, rfl, rfl, rfl⟩)))))))))))
        · walk_at "cj4"
      | [.inl s, b], _ =>
        have hb : okText K b := hx b (by simp)
        refine GoS.seq (GoS.ite (GoT.orJ (p := false) (q := false) ?_ (fun _ => GoT.orJ (p := false) (q := false) ?_ (fun h => ?_) ⟨rfl, rfl⟩) ⟨fun h => (by cases h), fun _ => GoS.nil ?_⟩))
        · walk_at "cj4"
        · walk_at "cj4"
        · walk_at "cj4"
          exact v_is_s_str ⟨true, rfl, rfl, rfl⟩
        · refine GoS.ret (Go.andVJ (p := schemeB s) (q := hostB b) ?_ (fun _ => ?_) ⟨rfl, rfl⟩)
          · walk_at "cj4"
            try exact v_inTS (n := s) (ns := lcv_SCHEMES) ⟨rfl, rfl⟩
          · refine Go.callP (GoA.cons (Go.op (Go.var rfl (Go.c (v_ixT (A := pA b) rfl (GoA.nil ⟨b, ?_, hb, ?_, rfl⟩))))))
            · cases b <;> rfl
            · cases b <;> rfl

/-! ### is_address -/
abbrev sp_is_address (K : PySem.W.Frag) : Sp := SpP (okTu K) (fun a => [tuA K a]) (fun a => bo (addrB a))
theorem ok_is_address (T : Txt K mg w) : FnOk P w K mg base CX0 6 T.f_is_address T.d_is_address ["value"] (sp_is_address K) := by
  refine fn_sy T.F_is_address sc_is_address (fun _ _ => rfl) fun a cdv A outer s H E hr hp => ⟨_, (pss_one (ps_ret (pe_and (pe_callB (kIsi (K := K) rfl) (by rfl) T.n_isinstance (by decide +kernel) (pa_cons (pv 0) (pa_cons (pe_bltn (v := .ty "tuple") (by rfl) T.n_tuple (by decide +kernel) rfl) pa_nil))) (pe_and (pe_cmpR op_eq (pe_callB (kLen (K := K) rfl) (by rfl) T.n_len (by decide +kernel) (pa_cons (pv 0) pa_nil)) pe_int (nomark _)) (pe_and (pe_call (ok_is_origin (P := P) T) (hr.mono (by decide)) (by rfl) T.g_is_origin T.F_is_origin.kp T.b_is_origin .nil pass0 (pa_cons (pe_slice (kSlA (K := K) rfl) (pv 0) po_none (po_some pe_int)) pa_nil)) (pe_one (pe_call (ok_is_path (P := P) T) (hr.mono (by decide)) (by rfl) T.g_is_path T.F_is_path.kp T.b_is_path .nil pass0 (pa_cons (pe_ix (kIxT (K := K) rfl) (pv 0) pe_int (fun _ _ => rfl)) pa_nil)))))))), ?_⟩
  cases a with
  | inr B =>
    have hp : OddA K "tuple" B := hp
    show GoS [some B] [] _ _
    exact GoS.ret (Go.andVJ (p := false) (q := true) (Go.cb (GoA.cons (Go.var rfl (GoA.cons (Go.c (GoA.nil (v_isiOdd hp ⟨rfl, rfl⟩))))))) (fun h => (by cases h)) ⟨rfl, rfl⟩)
  | inl xs =>
    obtain ⟨hl, hx⟩ := hp
    show GoS [some (tup K (xs.map pA))] [] _ _
    by_cases h3 : xs.length = 3
    case neg =>
      have e : addrB (.inl xs) = false := by
        match xs, h3 with
        | [], _ => rfl
        | [_], _ => rfl
        | [_, _], _ => rfl
        | _ :: _ :: _ :: _ :: _, _ => rfl
        | [_, _, _], h3 => exact absurd rfl h3
      refine GoS.ret (Go.andVJ (p := true) (q := false) ?_ (fun _ => Go.andVJ (p := false) (q := true) ?_ (fun h => (by cases h)) ⟨rfl, rfl⟩) ⟨congrArg bo e.symm, rfl⟩)
      · walk_at "cj1"
      · walk_at "cj1"
        rw [List.length_map]
        exact congrArg bo (decide_eq_false (by omega))
    case pos =>
      match xs, h3 with
      | [a, b, c], _ =>
        have ha : okText K a := hx a (by simp)
        have hb : okText K b := hx b (by simp)
        have hc : okText K c := hx c (by simp)
        refine GoS.ret (Go.andVJ (p := true) (q := origL [a, b] && pathB c) ?_ (fun _ => Go.andVJ (p := true) (q := origL [a, b] && pathB c) ?_ (fun _ => Go.andVJ (p := origL [a, b]) (q := pathB c) ?_ (fun _ => ?_) ⟨rfl, rfl⟩) ⟨rfl, rfl⟩) ⟨rfl, rfl⟩)
        · walk_at "cj1"
        · walk_at "cj1"
        · walk_at "cj1"
          refine ⟨.inl [a, b], ?_, ⟨by simp, fun x hx => ?_⟩, rfl, rfl⟩
          · rw [show (2 : Int) = ((2 : Nat) : Int) from rfl, cut_to]
            rfl
          · simp only [List.mem_cons, List.not_mem_nil, or_false] at hx
            rcases hx with rfl | rfl <;> assumption
        · refine Go.callP (GoA.cons (Go.op (Go.var rfl (Go.c (v_ixT (A := pA c) rfl (GoA.nil ⟨c, ?_, hc, ?_, rfl⟩))))))
          · cases c <;> rfl
          · cases c <;> rfl

end
section
/-! values told as trees -/
inductive DT where
  | n
  | b (x : Bool)
  | i (x : Int)
  | s (l : List Nat)
  | t (xs : List DT)
  | l (xs : List DT)
  | e
mutual
def dA (K : PySem.W.Frag) : DT → As
  | .n => no
  | .b x => bo x
  | .i x => it x
  | .s l => tx l
  | .t xs => tup K (dAs K xs)
  | .l xs => lstB K (dAs K xs)
  | .e => dct []
def dAs (K : PySem.W.Frag) : List DT → List As
  | [] => []
  | x :: r => dA K x :: dAs K r
end
mutual
def dP : DT → PyData
  | .n => .none
  | .b x => .bool x
  | .i x => .int x
  | .s l => .str (S l)
  | .t xs => .tuple (dPs xs)
  | .l xs => .list (dPs xs)
  | .e => .dict []
def dPs : List DT → List PyData
  | [] => []
  | x :: r => dP x :: dPs r
end
mutual
def dE : DT → Nat
  | .t xs => dEs xs + 1
  | .l xs => dEs xs + 1
  | .e => 1
  | _ => 0
def dEs : List DT → Nat
  | [] => 0
  | x :: r => max (dE x) (dEs r)
end
mutual
def dB : DT → Nat
  | .s l => l.length
  | .t xs => dBs xs
  | .l xs => dBs xs
  | _ => 0
def dBs : List DT → Nat
  | [] => 0
  | x :: r => dB x + 1 + dBs r
end
mutual
def dK : DT → Bool
  | .i x => decide (0 ≤ x) && decide (x < 1000000000000)
  | .s l => decide (l.length ≤ 1000) && l.all fun c => decide (c < 128)
  | .t xs => decide (xs.length ≤ 100) && dKs xs
  | .l xs => decide (xs.length ≤ 100) && dKs xs
  | _ => true
def dKs : List DT → Bool
  | [] => true
  | x :: r => dK x && dKs r
end
theorem dAs_map {K : PySem.W.Frag} : ∀ xs, dAs K xs = xs.map (dA K)
  | [] => rfl
  | x :: r => by rw [List.map_cons, ← dAs_map r]; rfl
theorem dKs_mem : ∀ {xs : List DT}, dKs xs = true → ∀ x ∈ xs, dK x = true
  | x :: r, h, y, hy => by
    have h : (dK x && dKs r) = true := h
    rw [Bool.and_eq_true] at h
    rcases List.mem_cons.mp hy with rfl | hy
    · exact h.1
    · exact dKs_mem h.2 y hy
theorem dKs_of : ∀ {xs : List DT}, (∀ x ∈ xs, dK x = true) → dKs xs = true
  | [], _ => rfl
  | x :: r, h => by
    show (dK x && dKs r) = true
    rw [h x List.mem_cons_self, dKs_of fun y hy => h y (List.mem_cons_of_mem _ hy)]
    rfl
mutual
theorem dSh {K : PySem.W.Frag} : ∀ (d : DT), dK d = true → ShY K (dA K d) (dP d) (dE d) (dB d)
  | .n, _ => ShY.no
  | .b _, _ => ShY.bo
  | .i x, h => by
    have h : (decide (0 ≤ x) && decide (x < 1000000000000)) = true := h
    rw [Bool.and_eq_true, decide_eq_true_eq, decide_eq_true_eq] at h
    exact ShY.it h.1 h.2
  | .s l, h => by
    have h : (decide (l.length ≤ 1000) && l.all fun c => decide (c < 128)) = true := h
    rw [Bool.and_eq_true] at h
    exact ShY.tx fun c hc => of_decide_eq_true (List.all_eq_true.mp h.2 c hc)
  | .t xs, h => by
    have h : (decide (xs.length ≤ 100) && dKs xs) = true := h
    rw [Bool.and_eq_true] at h
    exact ShY.tup (dShs xs h.2)
  | .l xs, h => by
    have h : (decide (xs.length ≤ 100) && dKs xs) = true := h
    rw [Bool.and_eq_true] at h
    exact ShY.lstB (dShs xs h.2)
  | .e, _ => ShY.dct ShYk.nil
theorem dShs {K : PySem.W.Frag} : ∀ (xs : List DT), dKs xs = true → ShYs K (dAs K xs) (dPs xs) (dEs xs) (dBs xs)
  | [], _ => ShYs.nil
  | x :: r, h => by
    have h : (dK x && dKs r) = true := h
    rw [Bool.and_eq_true] at h
    exact ShYs.cons (dSh x h.1) (dShs r h.2)
end
def strB (p : List Nat → Bool) : DT → Bool
  | .s l => p l
  | _ => false
def pD (K : PySem.W.Frag) : DT → List Nat ⊕ As
  | .s l => .inl l
  | d => .inr (dA K d)
def tuD (K : PySem.W.Frag) : DT → List (List Nat ⊕ As) ⊕ As
  | .t xs => .inl (xs.map (pD K))
  | d => .inr (dA K d)
theorem pA_pD {K : PySem.W.Frag} (d : DT) : pA (pD K d) = dA K d := by cases d <;> rfl
theorem tuA_tuD {K : PySem.W.Frag} (d : DT) : tuA K (tuD K d) = dA K d := by
  cases d with
  | t xs =>
    show tup K ((xs.map (pD K)).map pA) = tup K (dAs K xs)
    rw [List.map_map, dAs_map]
    congr 1
    exact List.map_congr_left fun x _ => pA_pD x
  | _ => rfl
theorem okText_pD {K : PySem.W.Frag} {d : DT} (h : dK d = true) : okText K (pD K d) := by
  cases d with
  | n => exact ⟨"NoneType", by decide +kernel, fun _ => tx_n⟩
  | b x => exact ⟨"bool", by decide +kernel, fun _ => tx_b⟩
  | i x => exact ⟨"int", by decide +kernel, fun _ => tx_i⟩
  | s l =>
    have h : (decide (l.length ≤ 1000) && l.all fun c => decide (c < 128)) = true := h
    rw [Bool.and_eq_true, decide_eq_true_eq] at h
    show l.length ≤ 70000
    omega
  | t xs => exact ⟨"tuple", by decide +kernel, fun _ => tx_t⟩
  | l xs => exact ⟨"list", by decide +kernel, fun _ => ty_lB⟩
  | e => exact ⟨"dict", by decide +kernel, fun _ => tx_d⟩
theorem okTu_tuD {K : PySem.W.Frag} {d : DT} (h : dK d = true) : okTu K (tuD K d) := by
  cases d with
  | n => exact ⟨"NoneType", by decide +kernel, fun _ => tx_n⟩
  | b x => exact ⟨"bool", by decide +kernel, fun _ => tx_b⟩
  | i x => exact ⟨"int", by decide +kernel, fun _ => tx_i⟩
  | s l => exact ⟨"str", by decide +kernel, fun _ => tx_s⟩
  | t xs =>
    have h : (decide (xs.length ≤ 100) && dKs xs) = true := h
    rw [Bool.and_eq_true, decide_eq_true_eq] at h
    refine ⟨by rw [List.length_map]; omega, fun x hx => ?_⟩
    obtain ⟨y, hy, rfl⟩ := List.mem_map.mp hx
    exact okText_pD (dKs_mem h.2 y hy)
  | l xs => exact ⟨"list", by decide +kernel, fun _ => ty_lB⟩
  | e => exact ⟨"dict", by decide +kernel, fun _ => tx_d⟩
def isAdr : DT → Bool
  | .t [x, y, z] => (strB schemeB x && strB isHost y) && strB isPath z
  | _ => false
theorem host_pD {K : PySem.W.Frag} (d : DT) : hostB (pD K d) = strB isHost d := by cases d <;> rfl
theorem path_pD {K : PySem.W.Frag} (d : DT) : pathB (pD K d) = strB isPath d := by cases d <;> rfl
theorem orig_pD {K : PySem.W.Frag} (x y : DT) : origL [pD K x, pD K y] = (strB schemeB x && strB isHost y) := by
  cases x with
  | s l =>
    show (schemeB l && hostB (pD K y)) = _
    rw [host_pD]
    rfl
  | _ => rfl
theorem adr_eq {K : PySem.W.Frag} (d : DT) : addrB (tuD K d) = isAdr d := by
  cases d with
  | t xs =>
    match xs with
    | [] => rfl
    | [_] => rfl
    | [_, _] => rfl
    | [x, y, z] =>
      show (origL [pD K x, pD K y] && pathB (pD K z)) = _
      rw [orig_pD, path_pD]
      rfl
    | _ :: _ :: _ :: _ :: _ => rfl
  | _ => rfl
def isTB : DT → Bool
  | .t _ => true
  | _ => false
def isNB : DT → Bool
  | .n => true
  | _ => false
section
variable {K : PySem.W.Frag} {O : OO} {k : As → OO → Prop}
theorem v_isTup (d : DT) (q : k (bo (isTB d)) O) : Vn O (rIsi K) [dA K d, cst (.ty "tuple")] k := by
  cases d with
  | n => exact v_isi tx_n (show kitB "NoneType" "tuple" = some false by decide +kernel) q
  | b x => exact v_isi tx_b (show kitB "bool" "tuple" = some false by decide +kernel) q
  | i x => exact v_isi tx_i (show kitB "int" "tuple" = some false by decide +kernel) q
  | s l => exact v_isi tx_s (show kitB "str" "tuple" = some false by decide +kernel) q
  | t xs => exact v_isi tx_t (show kitB "tuple" "tuple" = some true by decide +kernel) q
  | l xs => exact v_isi ty_lB (show kitB "list" "tuple" = some false by decide +kernel) q
  | e => exact v_isi tx_d (show kitB "dict" "tuple" = some false by decide +kernel) q
theorem v_isStr (d : DT) (q : k (bo (strB (fun _ => true) d)) O) : Vn O (rIsi K) [dA K d, cst (.ty "str")] k := by
  cases d with
  | n => exact v_isi tx_n (show kitB "NoneType" "str" = some false by decide +kernel) q
  | b x => exact v_isi tx_b (show kitB "bool" "str" = some false by decide +kernel) q
  | i x => exact v_isi tx_i (show kitB "int" "str" = some false by decide +kernel) q
  | s l => exact v_isi tx_s (show kitB "str" "str" = some true by decide +kernel) q
  | t xs => exact v_isi tx_t (show kitB "tuple" "str" = some false by decide +kernel) q
  | l xs => exact v_isi ty_lB (show kitB "list" "str" = some false by decide +kernel) q
  | e => exact v_isi tx_d (show kitB "dict" "str" = some false by decide +kernel) q
theorem v_notND (d : DT) (q : k (bo (!isNB d)) O) : V2 O (fun x y H Q => y = V.non ∧ Q (V.bl (!decide (x = V.non))) H) (dA K d) (cst .non) k := by
  cases d with
  | n => exact v_notN (x := .non) q
  | b x => exact v_notN (x := .bl x) q
  | i x => exact v_notNN nn_it q
  | s l => exact v_notNN nn_tx q
  | t xs => exact v_notNN nn_tup q
  | l xs => exact v_notNN (fun G v h => by obtain ⟨p, ws, rfl, _⟩ := h; intro z; cases z) q
  | e => exact v_notNN nn_dct q
end
theorem Go.adrD {K : PySem.W.Frag} {L : LL} {O : OO} {k : As → OO → Prop} {X : XK} {t : TA} (h : GoA L O t fun l O1 => ∃ d, dK d = true ∧ l = [dA K d] ∧ k (bo (isAdr d)) O1) : Go L O (tCall (sp_is_address K) [] X t) k :=
  Go.callP fun E G0 H0 σ G H Q f s z => h _ _ _ _ _ _ _ f s fun l O' G' H' vs q => z _ _ _ _ _ (by
    obtain ⟨d, hd, rfl, hk⟩ := q
    exact ⟨tuD K d, by rw [tuA_tuD], okTu_tuD hd, by rw [adr_eq]; exact hk⟩)
theorem v_isND {K : PySem.W.Frag} {O : OO} {k : As → OO → Prop} (d : DT) (q : k (bo (isNB d)) O) : V2 O (fun x y H Q => y = V.non ∧ Q (V.bl (decide (x = V.non))) H) (dA K d) (cst .non) k := by
  cases d with
  | n => exact v_isN (x := .non) q
  | b x => exact v_isN (x := .bl x) q
  | i x => exact v_isNN nn_it q
  | s l => exact v_isNN nn_tx q
  | t xs => exact v_isNN nn_tup q
  | l xs => exact v_isNN (fun G v h => by obtain ⟨p, ws, rfl, _⟩ := h; intro z; cases z) q
  | e => exact v_isNN nn_dct q

end
section
variable {P : Program} {w : World} {K : PySem.W.Frag} {mg : Str → Option Value} {base : Heap} [IsP P]
/-! ### s6_is_text -/
def textB : DT → Bool := strB fun l => decide (l.length ≤ 400)
abbrev sp_s6_is_text (K : PySem.W.Frag) : Sp := SpP (fun d : DT => dK d = true) (fun d => [dA K d]) (fun d => bo (textB d))
theorem ok_s6_is_text (T : Txt K mg w) : FnOk P w K mg base CX0 1 T.f_s6_is_text T.d_s6_is_text ["value"] (sp_s6_is_text K) := by
  refine fn_sy T.F_s6_is_text sc_s6_is_text (fun _ _ => rfl) fun a cdv A outer s H E hr hp => ⟨_, (pss_one (ps_ret (pe_and (pe_callB (kIsi (K := K) rfl) (by rfl) T.n_isinstance (by decide +kernel) (pa_cons (pv 0) (pa_cons (pe_bltn (v := .ty "str") (by rfl) T.n_str (by decide +kernel) rfl) pa_nil))) (pe_one (pe_cmpR op_le (pe_callB call_len_str (by rfl) T.n_len (by decide +kernel) (pa_cons (pv 0) pa_nil)) (pe_glob (v := .int (400)) (by rfl) T.c_S6_MOST_SIGNS.choose_spec ⟨_, rfl⟩) (nomark _)))))), ?_⟩
  show GoS [some (dA K a)] [] _ _
  refine GoS.ret (Go.andVJ (p := strB (fun _ => true) a) (q := textB a) (Go.cb (GoA.cons (Go.var rfl (GoA.cons (Go.c (GoA.nil (v_isStr a ⟨rfl, rfl⟩))))))) (fun z => ?_) ⟨?_, rfl⟩)
  · cases a with
    | s l =>
      have hp : (decide (l.length ≤ 1000) && _) = true := hp
      rw [Bool.and_eq_true, decide_eq_true_eq] at hp
      show Go [some (tx l)] [] _ _
      walk_at "cj1"
      show bo _ = bo (decide (l.length ≤ 400))
      exact congrArg bo (decide_eq_decide.mpr (by omega))
    | _ => cases z
  · cases a <;> rfl

/-! ### s6_is_pair -/
def pairB (ws : List (List Nat)) : DT → Bool
  | .t [x, _] => strB (fun l => decide (l ∈ ws)) x
  | _ => false
abbrev sp_s6_is_pair (K : PySem.W.Frag) : Sp := SpP (fun a : DT × List (List Nat) => dK a.1 = true ∧ a.2.length ≤ 100) (fun a => [dA K a.1, tup K (a.2.map tx)]) (fun a => bo (pairB a.2 a.1))
theorem ok_s6_is_pair (T : Txt K mg w) : FnOk P w K mg base CX0 1 T.f_s6_is_pair T.d_s6_is_pair ["value", "words"] (sp_s6_is_pair K) := by
  refine fn_sy T.F_s6_is_pair sc_s6_is_pair (fun _ _ => rfl) fun a cdv A outer s H E hr hp => ⟨_, (pss_one (ps_ret (pe_and (pe_callB (kIsi (K := K) rfl) (by rfl) T.n_isinstance (by decide +kernel) (pa_cons (pv 0) (pa_cons (pe_bltn (v := .ty "tuple") (by rfl) T.n_tuple (by decide +kernel) rfl) pa_nil))) (pe_and (pe_cmpR op_eq (pe_callB (kLen (K := K) rfl) (by rfl) T.n_len (by decide +kernel) (pa_cons (pv 0) pa_nil)) pe_int (nomark _)) (pe_and (pe_callB (kIsi (K := K) rfl) (by rfl) T.n_isinstance (by decide +kernel) (pa_cons (pe_ix (kIxT (K := K) rfl) (pv 0) pe_int (fun _ _ => rfl)) (pa_cons (pe_bltn (v := .ty "str") (by rfl) T.n_str (by decide +kernel) rfl) pa_nil))) (pe_one (pe_cmpR (kIn (K := K) rfl) (pe_ix (kIxT (K := K) rfl) (pv 0) pe_int (fun _ _ => rfl)) (pv 1) (by rfl)))))))), ?_⟩
  obtain ⟨d, ws⟩ := a
  obtain ⟨hd, hw⟩ := hp
  dsimp only at hd hw
  show GoS [some (dA K d), some (tup K (ws.map tx))] [] _ _
  by_cases h2 : ∃ x y, d = .t [x, y]
  · obtain ⟨x, y, rfl⟩ := h2
    show GoS [some (tup K [dA K x, dA K y]), some (tup K (ws.map tx))] [] _ _
    refine GoS.ret (Go.andVJ (p := true) (q := strB (fun l => decide (l ∈ ws)) x) ?_ (fun _ => Go.andVJ (p := true) (q := strB (fun l => decide (l ∈ ws)) x) ?_ (fun _ => Go.andVJ (p := strB (fun _ => true) x) (q := strB (fun l => decide (l ∈ ws)) x) ?_ (fun z => ?_) ⟨?_, rfl⟩) ⟨rfl, rfl⟩) ⟨rfl, rfl⟩)
    · walk_at "cj1"
    · walk_at "cj1"
    · exact Go.cb (GoA.cons (Go.op (Go.var rfl (Go.c (v_ixT (A := dA K x) rfl (GoA.cons (Go.c (GoA.nil (v_isStr x ⟨rfl, rfl⟩)))))))))
    · cases x with
      | s l =>
        refine Go.op (Go.op (Go.var rfl (Go.c (v_ixT (A := tx l) rfl (Go.var rfl ?_)))))
        walk_at "cj1"
      | _ => cases z
    · cases x <;> rfl
  · have e0 : pairB ws d = false := by
      cases d with
      | t xs =>
        match xs with
        | [] => rfl
        | [_] => rfl
        | [x, y] => exact absurd ⟨x, y, rfl⟩ h2
        | _ :: _ :: _ :: _ => rfl
      | _ => rfl
    refine GoS.ret (Go.andVJ (p := isTB d) (q := false) (Go.cb (GoA.cons (Go.var rfl (GoA.cons (Go.c (GoA.nil (v_isTup d ⟨rfl, rfl⟩))))))) (fun z => ?_) ⟨?_, rfl⟩)
    · cases d with
      | t xs =>
        have hx : xs.length ≠ 2 := fun z2 => by
          match xs, z2 with
          | [x, y], _ => exact h2 ⟨x, y, rfl⟩
        refine Go.andVJ (p := false) (q := true) ?_ (fun z => (by cases z)) ⟨rfl, rfl⟩
        show Go [some (tup K (dAs K xs)), some (tup K (ws.map tx))] [] _ _
        rw [dAs_map]
        walk_at "cj1"
        rw [List.length_map]
        exact congrArg bo (decide_eq_false (by omega))
      | _ => cases z
    · show bo (isTB d && false) = bo (pairB ws d)
      rw [e0, Bool.and_false]

/-! ### s6_is_line -/
abbrev wAlways : List Nat := [97, 108, 119, 97, 121, 115]
abbrev wNew : List Nat := [110, 101, 119]
def lineB : DT → Bool
  | .t [x, y] => strB (fun l => decide (l ∈ [wAlways, wNew])) x && textB y
  | _ => false
theorem pair_two {ws : List (List Nat)} {d : DT} (h : pairB ws d = true) : ∃ x y, d = .t [x, y] := by
  cases d with
  | t xs =>
    match xs, h with
    | [x, y], _ => exact ⟨x, y, rfl⟩
  | _ => cases h
theorem dK_two {x y : DT} (h : dK (.t [x, y]) = true) : dK x = true ∧ dK y = true := by
  have h : (decide (2 ≤ 100) && (dK x && (dK y && true))) = true := h
  simp only [Bool.and_eq_true] at h
  exact ⟨h.2.1, h.2.2.1⟩
abbrev sp_s6_is_line (K : PySem.W.Frag) : Sp := SpP (fun d : DT => dK d = true) (fun d => [dA K d]) (fun d => bo (lineB d))
theorem ok_s6_is_line (T : Txt K mg w) : FnOk P w K mg base CX0 2 T.f_s6_is_line T.d_s6_is_line ["value"] (sp_s6_is_line K) := by
  refine fn_sy T.F_s6_is_line sc_s6_is_line (fun _ _ => rfl) fun a cdv A outer s H E hr hp => ⟨_, (pss_one (ps_ret (pe_and (pe_call (ok_s6_is_pair (P := P) T) (hr.mono (by decide)) (by rfl) T.g_s6_is_pair T.F_s6_is_pair.kp T.b_s6_is_pair .nil pass0 (pa_cons (pv 0) (pa_cons (pe_tup (pa_cons pe_str (pa_cons pe_str pa_nil))) pa_nil))) (pe_one (pe_call (ok_s6_is_text (P := P) T) (hr.mono (by decide)) (by rfl) T.g_s6_is_text T.F_s6_is_text.kp T.b_s6_is_text .nil pass0 (pa_cons (pe_ix (kIxT (K := K) rfl) (pv 0) pe_int (fun _ _ => rfl)) pa_nil)))))), ?_⟩
  show GoS [some (dA K a)] [] _ _
  refine GoS.ret (Go.andVJ (p := pairB [wAlways, wNew] a) (q := lineB a) ?_ (fun z => ?_) ⟨?_, rfl⟩)
  · refine Go.callP (GoA.cons (Go.var rfl (GoA.cons (Go.tup (K := K) (GoA.cons (Go.cS (l := wAlways) LitS.eq (GoA.cons (Go.cS (l := wNew) LitS.eq (GoA.nil ⟨Nat.le_of_ble_eq_true rfl, ?_⟩)))))))))
    exact GoA.nil ⟨(a, [wAlways, wNew]), rfl, ⟨hp, by show 2 ≤ 100; decide⟩, rfl, rfl⟩
  · obtain ⟨x, y, rfl⟩ := pair_two z
    have hy := (dK_two hp).2
    have e : lineB (.t [x, y]) = textB y := by
      show (_ && textB y) = textB y
      rw [show strB (fun l => decide (l ∈ [wAlways, wNew])) x = true from z]
      rfl
    rw [e]
    show Go [some (tup K [dA K x, dA K y])] [] _ _
    exact Go.callP (GoA.cons (Go.op (Go.var rfl (Go.c (v_ixT (A := dA K y) rfl (GoA.nil ⟨y, rfl, hy, rfl, rfl⟩))))))
  · cases z : pairB [wAlways, wNew] a with
    | true => rfl
    | false =>
      show bo false = bo (lineB a)
      cases a with
      | t xs =>
        match xs, z with
        | [], _ => rfl
        | [_], _ => rfl
        | [x, y], z =>
          show bo false = bo (strB (fun l => decide (l ∈ [wAlways, wNew])) x && textB y)
          rw [show strB (fun l => decide (l ∈ [wAlways, wNew])) x = false from z]
          rfl
        | _ :: _ :: _ :: _, _ => rfl
      | _ => rfl

/-! ### s6_is_part -/
abbrev wFrame : List Nat := [102, 114, 97, 109, 101]
abbrev wPicture : List Nat := [112, 105, 99, 116, 117, 114, 101]
abbrev wWrite : List Nat := [119, 114, 105, 116, 101]
def partB6 : DT → Bool
  | .t [x, y] => if strB (fun l => decide (l ∈ [wFrame, wPicture])) x = true then isAdr y else strB (fun l => decide (l ∈ [wWrite])) x && textB y
  | _ => false
abbrev sp_s6_is_part (K : PySem.W.Frag) : Sp := SpP (fun d : DT => dK d = true) (fun d => [dA K d]) (fun d => bo (partB6 d))
theorem ok_s6_is_part (T : Txt K mg w) : FnOk P w K mg base CX0 7 T.f_s6_is_part T.d_s6_is_part ["value"] (sp_s6_is_part K) := by
  refine fn_sy T.F_s6_is_part sc_s6_is_part (fun _ _ => rfl) fun a cdv A outer s H E hr hp => ⟨_, (pss_cons (ps_if (pt_val (pe_call (ok_s6_is_pair (P := P) T) (hr.mono (by decide)) (by rfl) T.g_s6_is_pair T.F_s6_is_pair.kp T.b_s6_is_pair .nil pass0 (pa_cons (pv 0) (pa_cons (pe_tup (pa_cons pe_str (pa_cons pe_str pa_nil))) pa_nil))))
      (pss_one (ps_ret (pe_call (ok_is_address (P := P) T) (hr.mono (by decide)) (by rfl) T.g_is_address T.F_is_address.kp T.b_is_address .nil pass0 (pa_cons (pe_ix (kIxT (K := K) rfl) (pv 0) pe_int (fun _ _ => rfl)) pa_nil))))
      pss_nil)
      (pss_one (ps_ret (pe_and (pe_call (ok_s6_is_pair (P := P) T) (hr.mono (by decide)) (by rfl) T.g_s6_is_pair T.F_s6_is_pair.kp T.b_s6_is_pair .nil pass0 (pa_cons (pv 0) (pa_cons (pe_tup (pa_cons pe_str pa_nil)) pa_nil))) (pe_one (pe_call (ok_s6_is_text (P := P) T) (hr.mono (by decide)) (by rfl) T.g_s6_is_text T.F_s6_is_text.kp T.b_s6_is_text .nil pass0 (pa_cons (pe_ix (kIxT (K := K) rfl) (pv 0) pe_int (fun _ _ => rfl)) pa_nil))))))), ?_⟩
  show GoS [some (dA K a)] [] _ _
  refine GoS.seq (GoS.ifB (p := pairB [wFrame, wPicture] a) (GoT.b ?_) (fun z => ?_) (fun z => GoS.nil ?_))
  · refine Go.callP (GoA.cons (Go.var rfl (GoA.cons (Go.tup (K := K) (GoA.cons (Go.cS (l := wFrame) LitS.eq (GoA.cons (Go.cS (l := wPicture) LitS.eq (GoA.nil ⟨Nat.le_of_ble_eq_true rfl, ?_⟩)))))))))
    exact GoA.nil ⟨(a, [wFrame, wPicture]), rfl, ⟨hp, by show 2 ≤ 100; decide⟩, _, rfl, rfl, rfl⟩
  · obtain ⟨x, y, rfl⟩ := pair_two z
    have hy := (dK_two hp).2
    show GoS [some (tup K [dA K x, dA K y])] [] _ _
    refine GoS.ret (Go.adrD (GoA.cons (Go.op (Go.var rfl (Go.c (v_ixT (A := dA K y) rfl (GoA.nil ⟨y, hy, rfl, ?_, rfl⟩)))))))
    show bo (isAdr y) = bo (if strB (fun l => decide (l ∈ [wFrame, wPicture])) x = true then isAdr y else _)
    rw [if_pos (show strB (fun l => decide (l ∈ [wFrame, wPicture])) x = true from z)]
  show GoS [some (dA K a)] [] _ _
  refine GoS.ret (Go.andVJ (p := pairB [wWrite] a) (q := partB6 a) ?_ (fun z2 => ?_) ⟨?_, rfl⟩)
  · refine Go.callP (GoA.cons (Go.var rfl (GoA.cons (Go.tup (K := K) (GoA.cons (Go.cS (l := wWrite) LitS.eq (GoA.nil ⟨Nat.le_of_ble_eq_true rfl, ?_⟩)))))))
    exact GoA.nil ⟨(a, [wWrite]), rfl, ⟨hp, by show 1 ≤ 100; decide⟩, rfl, rfl⟩
  · obtain ⟨x, y, rfl⟩ := pair_two z2
    have hy := (dK_two hp).2
    have e : partB6 (.t [x, y]) = textB y := by
      show (if strB (fun l => decide (l ∈ [wFrame, wPicture])) x = true then isAdr y else strB (fun l => decide (l ∈ [wWrite])) x && textB y) = textB y
      rw [if_neg (by rw [show strB (fun l => decide (l ∈ [wFrame, wPicture])) x = false from z]; decide), show strB (fun l => decide (l ∈ [wWrite])) x = true from z2]
      rfl
    rw [e]
    show Go [some (tup K [dA K x, dA K y])] [] _ _
    exact Go.callP (GoA.cons (Go.op (Go.var rfl (Go.c (v_ixT (A := dA K y) rfl (GoA.nil ⟨y, rfl, hy, rfl, rfl⟩))))))
  · cases z2 : pairB [wWrite] a with
    | true => rfl
    | false =>
      show bo false = bo (partB6 a)
      cases a with
      | t xs =>
        match xs, z, z2 with
        | [], _, _ => rfl
        | [_], _, _ => rfl
        | [x, y], z, z2 =>
          show bo false = bo (if strB (fun l => decide (l ∈ [wFrame, wPicture])) x = true then isAdr y else strB (fun l => decide (l ∈ [wWrite])) x && textB y)
          rw [if_neg (by rw [show strB (fun l => decide (l ∈ [wFrame, wPicture])) x = false from z]; decide), show strB (fun l => decide (l ∈ [wWrite])) x = false from z2]
          rfl
        | _ :: _ :: _ :: _, _, _ => rfl
      | _ => rfl

/-! ### is_answer -/
def linesB : DT → Bool
  | .t ls => decide (ls.length ≤ 5) && ls.all lineB
  | _ => false
def partsB : DT → Bool
  | .t ls => decide (ls.length ≤ 4) && ls.all partB6
  | _ => false
def ansB : DT → Bool
  | .t [x, y, z] => linesB x && ((isNB y || isAdr y) && partsB z)
  | _ => false
theorem dK_three {x y z : DT} (h : dK (.t [x, y, z]) = true) : dK x = true ∧ dK y = true ∧ dK z = true := by
  have h : (decide (3 ≤ 100) && (dK x && (dK y && (dK z && true)))) = true := h
  simp only [Bool.and_eq_true] at h
  exact ⟨h.2.1, h.2.2.1, h.2.2.2.1⟩
theorem dK_tup {xs : List DT} (h : dK (.t xs) = true) : xs.length ≤ 100 ∧ ∀ x ∈ xs, dK x = true := by
  have h : (decide (xs.length ≤ 100) && dKs xs) = true := h
  rw [Bool.and_eq_true, decide_eq_true_eq] at h
  exact ⟨h.1, dKs_mem h.2⟩
abbrev sp_is_answer (K : PySem.W.Frag) : Sp := SpP (fun d : DT => dK d = true) (fun d => [dA K d]) (fun d => bo (ansB d))
theorem ok_is_answer (T : Txt K mg w) : FnOk P w K mg base CX0 8 T.f_is_answer T.d_is_answer ["value"] (sp_is_answer K) := by
  refine fn_sy T.F_is_answer sc_is_answer (fun _ _ => rfl) fun a cdv A outer s H E hr hp => ⟨_, (pss_cons (ps_if (PW.pt (pw_or (pt_not (pt_val (pe_callB (kIsi (K := K) rfl) (by rfl) T.n_isinstance (by decide +kernel) (pa_cons (pv 0) (pa_cons (pe_bltn (v := .ty "tuple") (by rfl) T.n_tuple (by decide +kernel) rfl) pa_nil))))) (pw_or1 (pt_cmpR op_ne (pe_callB (kLen (K := K) rfl) (by rfl) T.n_len (by decide +kernel) (pa_cons (pv 0) pa_nil)) pe_int (nomark _)))))
      (pss_one (ps_ret pe_bl))
      pss_nil)
      (pss_cons (ps_asg (pv 0) (kgTup (K := K) (n := 3) rfl rfl (pgs_cons (pg_name (i := 1) sc_is_answer.nd rfl (.inl rfl)) (pgs_cons (pg_name (i := 2) sc_is_answer.nd rfl (.inl rfl)) (pgs_cons (pg_name (i := 3) sc_is_answer.nd rfl (.inl rfl)) pgs_nil))) rfl rfl))
      (pss_cons (ps_if (PW.pt (pw_or (pt_not (pt_val (pe_callB (kIsi (K := K) rfl) (by rfl) T.n_isinstance (by decide +kernel) (pa_cons (pv 1) (pa_cons (pe_bltn (v := .ty "tuple") (by rfl) T.n_tuple (by decide +kernel) rfl) pa_nil))))) (pw_or (pt_cmpR op_gt (pe_callB (kLen (K := K) rfl) (by rfl) T.n_len (by decide +kernel) (pa_cons (pv 1) pa_nil)) (pe_glob (v := .int (5)) (by rfl) T.c_S6_MOST_LINES.choose_spec ⟨_, rfl⟩) (nomark _)) (pw_or1 (pt_not (pt_val (pe_callB (kAll (K := K) rfl rfl) (by rfl) T.n_all (by decide +kernel) (pa_cons (pe_lc (own := [("one", 4)]) (g := gName 4) (tt := tYes) (by rfl) sc_is_answer.nd (kpTup (K := K) rfl (pv 1)) (blkOk_by (own := [("one", 4)]) (N := N_is_answer) (sc := defScope S_is_answer) (by decide +kernel)) (fun _ _ _ _ _ => (pg_name (i := 4) sc_is_answer.nd rfl (.inl rfl))) (fun _ _ _ _ _ => pts_nil) (fun _ _ _ _ _ => (pe_call (ok_s6_is_line (P := P) T) (hr.mono (by decide)) (by rfl) T.g_s6_is_line T.F_s6_is_line.kp T.b_s6_is_line .nil pass0 (pa_cons (pv 4) pa_nil)))) pa_nil))))))))
      (pss_one (ps_ret pe_bl))
      pss_nil)
      (pss_cons (ps_if (PW.pt (pw_and (pt_cmpR op_notN (pv 2) pe_non (nomark _)) (pw_and1 (pt_not (pt_val (pe_call (ok_is_address (P := P) T) (hr.mono (by decide)) (by rfl) T.g_is_address T.F_is_address.kp T.b_is_address .nil pass0 (pa_cons (pv 2) pa_nil)))))))
      (pss_one (ps_ret pe_bl))
      pss_nil)
      (pss_one (ps_ret (pe_and (pe_callB (kIsi (K := K) rfl) (by rfl) T.n_isinstance (by decide +kernel) (pa_cons (pv 3) (pa_cons (pe_bltn (v := .ty "tuple") (by rfl) T.n_tuple (by decide +kernel) rfl) pa_nil))) (pe_and (pe_cmpR op_le (pe_callB (kLen (K := K) rfl) (by rfl) T.n_len (by decide +kernel) (pa_cons (pv 3) pa_nil)) (pe_glob (v := .int (4)) (by rfl) T.c_S6_MOST_PARTS.choose_spec ⟨_, rfl⟩) (nomark _)) (pe_one (pe_callB (kAll (K := K) rfl rfl) (by rfl) T.n_all (by decide +kernel) (pa_cons (pe_lc (own := [("one", 4)]) (g := gName 4) (tt := tYes) (by rfl) sc_is_answer.nd (kpTup (K := K) rfl (pv 3)) (blkOk_by (own := [("one", 4)]) (N := N_is_answer) (sc := defScope S_is_answer) (by decide +kernel)) (fun _ _ _ _ _ => (pg_name (i := 4) sc_is_answer.nd rfl (.inl rfl))) (fun _ _ _ _ _ => pts_nil) (fun _ _ _ _ _ => (pe_call (ok_s6_is_part (P := P) T) (hr.mono (by decide)) (by rfl) T.g_s6_is_part T.F_s6_is_part.kp T.b_s6_is_part .nil pass0 (pa_cons (pv 4) pa_nil)))) pa_nil))))))))))), ?_⟩
  show GoS [some (dA K a), none, none, none, none] [] _ _
  by_cases h3 : ∃ x y z, a = .t [x, y, z]
  case neg =>
    have e0 : ansB a = false := by
      cases a with
      | t xs =>
        match xs with
        | [] => rfl
        | [_] => rfl
        | [_, _] => rfl
        | [x, y, z] => exact absurd ⟨x, y, z, rfl⟩ h3
        | _ :: _ :: _ :: _ :: _ => rfl
      | _ => rfl
    refine GoS.seq (GoS.ifT (GoT.join (!isTB a || true) (GoT.orJ (p := !isTB a) (q := true) (GoT.not (GoT.b ?_)) (fun z => ?_) ⟨rfl, rfl⟩) ⟨by simp, rfl⟩) (GoS.ret (Go.c ⟨congrArg bo e0.symm, rfl⟩)))
    · exact Go.cb (GoA.cons (Go.var rfl (GoA.cons (Go.c (GoA.nil (v_isTup a ⟨_, rfl, rfl, rfl⟩))))))
    cases a with
    | t xs =>
      have hx : xs.length ≠ 3 := fun z2 => by
        match xs, z2 with
        | [x, y, z], _ => exact h3 ⟨x, y, z, rfl⟩
      show GoT [some (tup K (dAs K xs)), none, none, none, none] [] _ _
      rw [dAs_map]
      walk_at "cj5"
      rw [List.length_map]
      simp
      omega
    | _ => cases z
  obtain ⟨x, y, z, rfl⟩ := h3
  obtain ⟨hx, hy, hz⟩ := dK_three hp
  show GoS [some (tup K [dA K x, dA K y, dA K z]), none, none, none, none] [] _ _
  refine GoS.seq (GoS.ifF (GoT.join (false || false) (GoT.orJ (p := false) (q := false) ?_ (fun _ => ?_) ⟨rfl, rfl⟩) ⟨rfl, rfl⟩) (GoS.nil ?_))
  · walk_at "cj5"
  · walk_at "cj5"
  show GoS [some (tup K [dA K x, dA K y, dA K z]), none, none, none, none] [] _ _
  refine GoS.seq (GoS.asg (Go.var rfl (GoG.tup rfl (GoGs.cons (GoG.name (GoGs.cons (GoG.name (GoGs.cons (GoG.name (GoGs.nil ?_))))))))))
  show GoS [some (tup K [dA K x, dA K y, dA K z]), some (dA K x), some (dA K y), some (dA K z), none] [] _ _
  refine GoS.seq (GoS.ifB (p := !linesB x) ?_ (fun z1 => GoS.ret (Go.c ⟨?_, rfl⟩)) (fun z1 => GoS.nil ?_))
  · cases x with
    | t ls =>
      obtain ⟨l1, l2⟩ := dK_tup hx
      have e : (!linesB (.t ls)) = (false || (!decide (ls.length ≤ 5) || !ls.all lineB)) := by
        show (!(decide (ls.length ≤ 5) && ls.all lineB)) = _
        cases decide (ls.length ≤ 5) <;> rfl
      rw [e]
      show GoT [_, some (tup K (dAs K ls)), some (dA K y), some (dA K z), none] [] _ _
      rw [dAs_map]
      refine GoT.orJ (p := false) (q := !decide (ls.length ≤ 5) || !ls.all lineB) ?_ (fun _ => GoT.orJ (p := !decide (ls.length ≤ 5)) (q := !ls.all lineB) ?_ (fun _ => ?_) ⟨rfl, rfl⟩) ⟨rfl, rfl⟩
      · walk_at "cj5"
      · walk_at "cj5"
        rw [List.length_map]
        by_cases h6 : ls.length ≤ 5
        · rw [decide_eq_true h6, decide_eq_false (by omega)]; rfl
        · rw [decide_eq_false h6, decide_eq_true (by omega)]; rfl
      · refine GoT.not (GoT.b (Go.cb (GoA.cons (Go.lcM1 (K := K) (l := ls) (f := dA K) (B := fun d => bo (lineB d)) (O9 := []) (GoI.ofT (Go.var rfl ⟨_, rfl, rfl, rfl⟩)) (fun d hd T9 => Go.callP (GoA.cons (Go.var rfl (GoA.nil ⟨d, rfl, l2 d hd, rfl, rfl⟩)))) (by omega) (GoA.nil (v_all (f := lineB) ⟨_, rfl, rfl, rfl⟩))))))
    | _ =>
      refine GoT.or (GoT.not (GoT.b (Go.cb (GoA.cons (Go.var rfl (GoA.cons (Go.c (GoA.nil (v_isTup _ ⟨_, rfl, fun _ => ⟨rfl, rfl⟩, fun z => (by cases z)⟩)))))))))
  · show bo false = bo (linesB x && _)
    rw [show linesB x = false by simpa using z1]
    rfl
  have z1 : linesB x = true := by simpa using z1
  show GoS [some (tup K [dA K x, dA K y, dA K z]), some (dA K x), some (dA K y), some (dA K z), none] [] _ _
  refine GoS.seq (GoS.ifB (p := !isNB y && !isAdr y) (GoT.andJ (p := !isNB y) (q := !isAdr y) (GoT.test (Go.op (Go.var rfl (Go.c (v_notND y ⟨_, rfl, rfl, rfl⟩))))) (fun _ => GoT.not (GoT.b (Go.adrD (GoA.cons (Go.var rfl (GoA.nil ⟨y, hy, rfl, _, rfl, rfl, rfl⟩)))))) ⟨rfl, rfl⟩) (fun z2 => GoS.ret (Go.c ⟨?_, rfl⟩)) (fun z2 => GoS.nil ?_))
  · show bo false = bo (linesB x && ((isNB y || isAdr y) && partsB z))
    rw [z1, show (isNB y || isAdr y) = false by revert z2; cases isNB y <;> cases isAdr y <;> simp]
    rfl
  have z3 : ansB (.t [x, y, z]) = partsB z := by
    show (linesB x && ((isNB y || isAdr y) && partsB z)) = _
    rw [z1, show (isNB y || isAdr y) = true by revert z2; cases isNB y <;> cases isAdr y <;> simp]
    rfl
  rw [show ∀ Q, (fun A O' => A = bo (ansB (.t [x, y, z])) ∧ O' = Q) = fun A O' => A = bo (partsB z) ∧ O' = Q from fun Q => by rw [z3]]
  show GoS [some (tup K [dA K x, dA K y, dA K z]), some (dA K x), some (dA K y), some (dA K z), none] [] _ _
  refine GoS.ret (Go.andVJ (p := isTB z) (q := partsB z) (Go.cb (GoA.cons (Go.var rfl (GoA.cons (Go.c (GoA.nil (v_isTup z ⟨rfl, rfl⟩))))))) (fun z4 => ?_) ⟨?_, rfl⟩)
  · cases z with
    | t ls =>
      obtain ⟨l1, l2⟩ := dK_tup hz
      show Go [_, some (dA K x), some (dA K y), some (tup K (dAs K ls)), none] [] _ _
      rw [dAs_map]
      refine Go.andVJ (p := decide (ls.length ≤ 4)) (q := ls.all partB6) ?_ (fun _ => ?_) ⟨rfl, rfl⟩
      · walk_at "cj5"
        rw [List.length_map]
        exact congrArg bo (decide_eq_decide.mpr (by omega))
      · exact Go.cb (GoA.cons (Go.lcM1 (K := K) (l := ls) (f := dA K) (B := fun d => bo (partB6 d)) (O9 := []) (GoI.ofT (Go.var rfl ⟨_, rfl, rfl, rfl⟩)) (fun d hd T9 => Go.callP (GoA.cons (Go.var rfl (GoA.nil ⟨d, rfl, l2 d hd, rfl, rfl⟩)))) (by omega) (GoA.nil (v_all (f := partB6) ⟨rfl, rfl⟩))))
    | _ => cases z4
  · cases z <;> rfl

/-! ### s6_is_item -/
def itemB : DT → Bool
  | .t [x, y] => isAdr x && ansB y
  | _ => false
abbrev sp_s6_is_item (K : PySem.W.Frag) : Sp := SpP (fun d : DT => dK d = true) (fun d => [dA K d]) (fun d => bo (itemB d))
theorem ok_s6_is_item (T : Txt K mg w) : FnOk P w K mg base CX0 9 T.f_s6_is_item T.d_s6_is_item ["value"] (sp_s6_is_item K) := by
  refine fn_sy T.F_s6_is_item sc_s6_is_item (fun _ _ => rfl) fun a cdv A outer s H E hr hp => ⟨_, (pss_one (ps_ret (pe_and (pe_callB (kIsi (K := K) rfl) (by rfl) T.n_isinstance (by decide +kernel) (pa_cons (pv 0) (pa_cons (pe_bltn (v := .ty "tuple") (by rfl) T.n_tuple (by decide +kernel) rfl) pa_nil))) (pe_and (pe_cmpR op_eq (pe_callB (kLen (K := K) rfl) (by rfl) T.n_len (by decide +kernel) (pa_cons (pv 0) pa_nil)) pe_int (nomark _)) (pe_and (pe_call (ok_is_address (P := P) T) (hr.mono (by decide)) (by rfl) T.g_is_address T.F_is_address.kp T.b_is_address .nil pass0 (pa_cons (pe_ix (kIxT (K := K) rfl) (pv 0) pe_int (fun _ _ => rfl)) pa_nil)) (pe_one (pe_call (ok_is_answer (P := P) T) (hr.mono (by decide)) (by rfl) T.g_is_answer T.F_is_answer.kp T.b_is_answer .nil pass0 (pa_cons (pe_ix (kIxT (K := K) rfl) (pv 0) pe_int (fun _ _ => rfl)) pa_nil)))))))), ?_⟩
  show GoS [some (dA K a)] [] _ _
  by_cases h2 : ∃ x y, a = .t [x, y]
  · obtain ⟨x, y, rfl⟩ := h2
    obtain ⟨hx, hy⟩ := dK_two hp
    show GoS [some (tup K [dA K x, dA K y])] [] _ _
    refine GoS.ret (Go.andVJ (p := true) (q := isAdr x && ansB y) ?_ (fun _ => Go.andVJ (p := true) (q := isAdr x && ansB y) ?_ (fun _ => Go.andVJ (p := isAdr x) (q := ansB y) ?_ (fun z => ?_) ⟨rfl, rfl⟩) ⟨rfl, rfl⟩) ⟨rfl, rfl⟩)
    · walk_at "cj1"
    · walk_at "cj1"
    · exact Go.adrD (GoA.cons (Go.op (Go.var rfl (Go.c (v_ixT (A := dA K x) rfl (GoA.nil ⟨x, hx, rfl, rfl, rfl⟩))))))
    · exact Go.callP (GoA.cons (Go.op (Go.var rfl (Go.c (v_ixT (A := dA K y) rfl (GoA.nil ⟨y, rfl, hy, rfl, rfl⟩))))))
  · have e0 : itemB a = false := by
      cases a with
      | t xs =>
        match xs with
        | [] => rfl
        | [_] => rfl
        | [x, y] => exact absurd ⟨x, y, rfl⟩ h2
        | _ :: _ :: _ :: _ => rfl
      | _ => rfl
    refine GoS.ret (Go.andVJ (p := isTB a) (q := false) (Go.cb (GoA.cons (Go.var rfl (GoA.cons (Go.c (GoA.nil (v_isTup a ⟨rfl, rfl⟩))))))) (fun z => ?_) ⟨?_, rfl⟩)
    · cases a with
      | t xs =>
        have hx : xs.length ≠ 2 := fun z2 => by
          match xs, z2 with
          | [x, y], _ => exact h2 ⟨x, y, rfl⟩
        refine Go.andVJ (p := false) (q := true) ?_ (fun z => (by cases z)) ⟨rfl, rfl⟩
        show Go [some (tup K (dAs K xs))] [] _ _
        rw [dAs_map]
        walk_at "cj1"
        rw [List.length_map]
        exact congrArg bo (decide_eq_false (by omega))
      | _ => cases z
    · show bo (isTB a && false) = bo (itemB a)
      rw [e0, Bool.and_false]

/-! ### check_table -/
def placeOf : DT → DT
  | .t [p, _] => p
  | _ => .n
def knB (kn : List DT) (x : DT) : Bool := (dPs kn).any fun z => PyData.eqv z (dP (placeOf x))
def tabFrom (kn : List DT) : Nat → List DT → Option Nat
  | _, [] => none
  | i, x :: r => if (decide (i = 30) || (!itemB x || knB kn x)) = true then some i else tabFrom (kn ++ [placeOf x]) (i + 1) r
def tabBad : DT → Option (Option Nat)
  | .t xs => (tabFrom [] 0 xs).map some
  | _ => some none
def idxA : Option Nat → As
  | none => no
  | some i => it (i : Int)
theorem adr_is {d : DT} (h : isAdr d = true) : ∃ a b c, d = .t [.s a, .s b, .s c] ∧ schemeB a = true ∧ isHost b = true ∧ isPath c = true := by
  cases d with
  | t xs =>
    match xs, h with
    | [.s a, .s b, .s c], h =>
      have h : ((schemeB a && isHost b) && isPath c) = true := h
      rw [Bool.and_eq_true, Bool.and_eq_true] at h
      exact ⟨a, b, c, rfl, h.1.1, h.1.2, h.2⟩
    | [.s a, .s b, .n], h => simp [isAdr, strB] at h
    | [.s a, .s b, .b _], h => simp [isAdr, strB] at h
    | [.s a, .s b, .i _], h => simp [isAdr, strB] at h
    | [.s a, .s b, .t _], h => simp [isAdr, strB] at h
    | [.s a, .s b, .l _], h => simp [isAdr, strB] at h
    | [.s a, .s b, .e], h => simp [isAdr, strB] at h
    | [.s a, .n, _], h => simp [isAdr, strB] at h
    | [.s a, .b _, _], h => simp [isAdr, strB] at h
    | [.s a, .i _, _], h => simp [isAdr, strB] at h
    | [.s a, .t _, _], h => simp [isAdr, strB] at h
    | [.s a, .l _, _], h => simp [isAdr, strB] at h
    | [.s a, .e, _], h => simp [isAdr, strB] at h
    | [.n, _, _], h => simp [isAdr, strB] at h
    | [.b _, _, _], h => simp [isAdr, strB] at h
    | [.i _, _, _], h => simp [isAdr, strB] at h
    | [.t _, _, _], h => simp [isAdr, strB] at h
    | [.l _, _, _], h => simp [isAdr, strB] at h
    | [.e, _, _], h => simp [isAdr, strB] at h
  | _ => cases h
theorem dK_str {l : List Nat} (h : dK (.s l) = true) : l.length ≤ 1000 ∧ ∀ c ∈ l, c < 128 := by
  have h : (decide (l.length ≤ 1000) && l.all fun c => decide (c < 128)) = true := h
  rw [Bool.and_eq_true, decide_eq_true_eq] at h
  exact ⟨h.1, fun c hc => of_decide_eq_true (List.all_eq_true.mp h.2 c hc)⟩
theorem adr_sh {K : PySem.W.Frag} {d : DT} (h : isAdr d = true) (hk : dK d = true) : ShD K (dA K d) (dP d) 1 3010 := by
  obtain ⟨a, b, c, rfl, _⟩ := adr_is h
  obtain ⟨h1, h2, h3⟩ := dK_three hk
  have := (dK_str h1).1
  have := (dK_str h2).1
  have := (dK_str h3).1
  exact (ShD.tup (.cons (.tx (dK_str h1).2) (.cons (.tx (dK_str h2).2) (.cons (.tx (dK_str h3).2) .nil)))).le (by decide) (by omega)
theorem adrs_sh {K : PySem.W.Frag} : ∀ {kn : List DT}, (∀ d ∈ kn, isAdr d = true ∧ dK d = true) → ShDs K (dAs K kn) (dPs kn) 1 (kn.length * 3011)
  | [], _ => ShDs.nil.le (by decide) (by decide)
  | d :: r, h => (ShDs.cons (adr_sh (h d List.mem_cons_self).1 (h d List.mem_cons_self).2) (adrs_sh fun x hx => h x (List.mem_cons_of_mem _ hx))).le (by decide) (by rw [List.length_cons, Nat.succ_mul]; omega)
theorem item_is {x : DT} (h : itemB x = true) : ∃ p y, x = .t [p, y] ∧ isAdr p = true ∧ ansB y = true := by
  cases x with
  | t xs =>
    match xs, h with
    | [p, y], h =>
      have h : (isAdr p && ansB y) = true := h
      rw [Bool.and_eq_true] at h
      exact ⟨p, y, rfl, h.1, h.2⟩
  | _ => cases h
theorem dAs_app {K : PySem.W.Frag} (a : List DT) (d : DT) : dAs K (a ++ [d]) = dAs K a ++ [dA K d] := by
  rw [dAs_map, dAs_map, List.map_append]
  rfl
abbrev rpTab (T : Txt K mg w) (d : DT) (cls : Value) (fs : List (Str × As)) (O' : OO) : Prop := ∃ o, tabBad d = some o ∧ cls = .ref T.C_BadTable ∧ fs = [(("index" : Str), idxA o)] ∧ O' = []
abbrev sp_check_table (T : Txt K mg w) : Sp := SpX (fun d : DT => dK d = true) (fun d => [dA K d]) (fun _ => []) (fun d A O' => tabBad d = none ∧ A = no ∧ O' = []) (rpTab T)
theorem ok_check_table (T : Txt K mg w) : FnOk P w K mg base (L2.CX P w) 10 T.f_check_table T.d_check_table ["value"] (sp_check_table T) := by
  refine fnx_sy T.F_check_table sc_check_table (fun _ _ => rfl) fun a cdv A outer s H E hr hp => ⟨_, (pss_cons (ps_if (pt_not (pt_val (pe_callB (kIsi (K := K) rfl) (by rfl) T.n_isinstance (by decide +kernel) (pa_cons (pv 0) (pa_cons (pe_bltn (v := .ty "tuple") (by rfl) T.n_tuple (by decide +kernel) rfl) pa_nil)))))
      (pss_one (ps_rz rfl takesD (ExS.pmk_ex (pn := "index") T.E_BadTable rfl rfl (IsP.eq (P := P)) (hr.mono (by decide)) rfl rfl rfl sci_BadTable (by decide +kernel) (by decide) (by decide) (by decide) (fun _ _ _ _ _ _ _ _ _ => rfl) (by rfl) (pa_cons pe_non pa_nil))))
      pss_nil)
      (pss_cons (ps_set (i := 1) sc_check_table.nd rfl (.inl rfl) (pe_lst pa_nil))
      (pss_one (ps_for (passes_of rfl) rfl (ET.pi_en (K := K) rfl (by rfl) T.n_enumerate (pa_cons (pv 0) pa_nil)) (kgTup (K := K) (n := 2) rfl rfl (pgs_cons (pg_name (i := 2) sc_check_table.nd rfl (.inl rfl)) (pgs_cons (pg_name (i := 3) sc_check_table.nd rfl (.inl rfl)) pgs_nil)) rfl rfl)
      (pss_cons (ps_if (PW.pt (pw_or (pt_cmpR op_eq (pv 2) (pe_glob (v := .int (30)) (by rfl) T.c_S6_MOST_ITEMS.choose_spec ⟨_, rfl⟩) (nomark _)) (pw_or (pt_not (pt_val (pe_call (ok_s6_is_item (P := P) T) (hr.mono (by decide)) (by rfl) T.g_s6_is_item T.F_s6_is_item.kp T.b_s6_is_item .nil pass0 (pa_cons (pv 3) pa_nil)))) (pw_or1 (pt_cmpR (kInD (K := K) rfl (hu65 hr)) (pe_ix (kIxT (K := K) rfl) (pv 3) pe_int (fun _ _ => rfl)) (pv 1) (by rfl))))))
      (pss_one (ps_rz rfl takesD (ExS.pmk_ex (pn := "index") T.E_BadTable rfl rfl (IsP.eq (P := P)) (hr.mono (by decide)) rfl rfl rfl sci_BadTable (by decide +kernel) (by decide) (by decide) (by decide) (fun _ _ _ _ _ _ _ _ _ => rfl) (by rfl) (pa_cons (pv 2) pa_nil))))
      pss_nil)
      (pss_one (ps_expr (kBm (K := K) rfl PySem.F.plainAttrs_list PySem.F.slot_list_append PySem.F.type_list_append mt_append (pv 1) (pa_cons (pe_ix (kIxT (K := K) rfl) (pv 3) pe_int (fun _ _ => rfl)) pa_nil))))))))), ?_⟩
  show GoSW _ _ [some (dA K a), none, none, none] [] _ _
  refine GoSW.seq (GoSW.ite (GoWT.up (GoT.not (GoT.b (Go.cb (GoA.cons (Go.var rfl (GoA.cons (Go.c (GoA.nil (v_isTup a ⟨_, rfl, fun hb => ?_, fun hb => GoSW.up (GoS.nil ?_)⟩)))))))))))
  · have e : tabBad a = some none := by
      cases a with
      | t xs => cases hb
      | _ => rfl
    exact GoSW.raise (GoA.cons (Go.c (GoA.nil ⟨_, rfl, _, e, rfl, rfl, rfl⟩)))
  cases a with
  | t xs =>
    obtain ⟨hl, hx⟩ := dK_tup hp
    show GoSW _ _ [some (tup K (dAs K xs)), none, none, none] [] _ _
    rw [dAs_map]
    refine GoSW.seq (GoSW.up (GoS.setO 1 (GoA.nil ⟨Nat.le_of_ble_eq_true rfl, fun D => ?_⟩)))
    show GoSW _ _ [some (tup K (xs.map (dA K))), some (pt D), none, none] [(D, .ol [])] _ _
    refine GoSW.leX (GoSW.post (GoSW.for (GoI.enumT (GoA.cons (Go.var rfl (GoA.nil ⟨_, rfl, ?_⟩))))))
    refine ⟨fun i L' O' => ∃ B2 B3 kn, L' = [some (tup K (xs.map (dA K))), some (pt D), B2, B3] ∧ O' = [(D, .ol (dAs K kn))] ∧ (kn.length = i ∧ ∀ d ∈ kn, isAdr d = true ∧ dK d = true) ∧ tabFrom kn i (xs.drop i) = tabFrom [] 0 xs, ⟨_, _, [], rfl, rfl, ⟨rfl, fun d h => (by cases h)⟩, rfl⟩, ?_, ?_⟩
    · rintro i A L' O' hA ⟨B2, B3, kn, rfl, rfl, ⟨hk, hkn⟩, hJ⟩
      obtain ⟨x, ex, rfl⟩ : ∃ x, xs[i]? = some x ∧ A = tup K [it (i : Nat), dA K x] := by
        obtain ⟨B, hB, rfl⟩ := enA_at hA
        rw [List.getElem?_map] at hB
        obtain ⟨x, h1, rfl⟩ := Option.map_eq_some_iff.mp hB
        exact ⟨x, h1, rfl⟩
      have hxm := hx x (List.mem_of_getElem? ex)
      have hi : i < xs.length := (List.getElem?_eq_some_iff.mp ex).1
      have ed : xs.drop i = x :: xs.drop (i + 1) := by
        rw [List.drop_eq_getElem_cons hi, (List.getElem?_eq_some_iff.mp ex).2]
      rw [ed] at hJ
      have hJ : (if (decide (i = 30) || (!itemB x || knB kn x)) = true then some i else tabFrom (kn ++ [placeOf x]) (i + 1) (xs.drop (i + 1))) = tabFrom [] 0 xs := hJ
      refine GoG.tup rfl (GoGs.cons (GoG.name (GoGs.cons (GoG.name (GoGs.nil ?_)))))
      show GoSW _ _ [some (tup K (xs.map (dA K))), some (pt D), some (it (i : Nat)), some (dA K x)] [(D, .ol (dAs K kn))] _ _
      refine GoSW.seq (GoSW.ite (GoWT.up (GoT.orJ (p := decide (i = 30)) (q := !itemB x || knB kn x) ?_ (fun _ => GoT.orJ (p := !itemB x) (q := knB kn x) ?_ (fun hr => ?_) ⟨rfl, rfl⟩) ⟨fun hb => ?_, fun hb => ?_⟩)))
      · walk_at "cj1"
        exact decide_eq_decide.mpr (by omega)
      · exact GoT.not (GoT.b (Go.callP (GoA.cons (Go.var rfl (GoA.nil ⟨x, rfl, hxm, itemB x, rfl, rfl, rfl⟩)))))
      · have hr : itemB x = true := by simpa using hr
        obtain ⟨p, y, rfl, h1, h2⟩ := item_is hr
        have hpk := (dK_two hxm).1
        have s1 := adr_sh (K := K) h1 hpk
        have s2 := adrs_sh (K := K) hkn
        refine GoT.test (Go.op (Go.op (Go.var rfl (Go.c (v_ixT (A := dA K p) rfl (Go.var rfl ?_))))))
        exact v_inO (pre := []) (post := []) s1.is s2.is (s1.shp (by decide)) ((ShD.lst (K := K) s2).shp (by decide)) ⟨_, rfl, rfl, rfl⟩
      · rw [if_pos hb] at hJ
        refine GoSW.raise (GoA.cons (Go.var rfl (GoA.nil ⟨_, rfl, [], FrLe.drop _, some i, ?_, rfl, rfl, rfl⟩)))
        show (tabFrom [] 0 xs).map some = _
        rw [← hJ]
        rfl
      · rw [if_neg (by rw [hb]; decide)] at hJ
        rw [Bool.or_eq_false_iff, Bool.or_eq_false_iff] at hb
        have hr : itemB x = true := by simpa using hb.2.1
        obtain ⟨p, y, rfl, h1, h2⟩ := item_is hr
        have hpk := (dK_two hxm).1
        refine GoSW.up (GoS.nil ?_)
        show GoSW _ _ [some (tup K (xs.map (dA K))), some (pt D), some (it (i : Nat)), some (tup K [dA K p, dA K y])] [(D, .ol (dAs K kn))] _ _
        refine GoSW.up (GoS.drop (Go.bm (Go.var rfl ⟨ty_o (pre := []), GoA.cons (Go.op (Go.var rfl (Go.c (v_ixT (A := dA K p) rfl (GoA.nil (v_append (pre := []) (post := []) ?_ ?_)))))) ⟩)))
        · rw [dAs_map, List.length_map]
          omega
        · refine ⟨_, _, kn ++ [p], rfl, ?_, ⟨by rw [List.length_append, hk]; rfl, fun d hd => ?_⟩, hJ⟩
          · rw [dAs_app]
            rfl
          · rcases List.mem_append.mp hd with h | h
            · exact hkn d h
            · rw [List.mem_singleton.mp h]
              exact ⟨h1, hpk⟩
    · rintro L' O' ⟨B2, B3, kn, rfl, rfl, _, hJ⟩
      refine ⟨[], FrLe.drop _, ?_, rfl, rfl⟩
      show (tabFrom [] 0 xs).map some = none
      rw [List.drop_eq_nil_of_le (by rw [enA_len, List.length_map]; exact Nat.le_refl _)] at hJ
      rw [← hJ]
      rfl
  | _ => cases hb

/-! ### _law_mixed -/
abbrev sp__law_mixed (K : PySem.W.Frag) : Sp := SpQ (fun a : Int × Int => 0 ≤ a.2 ∧ a.2 ≤ 1000000000000) (fun a => [it a.1, it a.2]) (fun _ A => ∃ i, A = it i)
theorem mixed_base {A : As} (h : A ∈ [it 1000000007, it 998244353, it 2147483629, it 1000000009]) : ∃ m : Int, A = it m ∧ 0 < m ∧ m ≤ 2147483629 := by
  rcases List.mem_cons.mp h with rfl | h
  · exact ⟨_, rfl, by decide, by decide⟩
  rcases List.mem_cons.mp h with rfl | h
  · exact ⟨_, rfl, by decide, by decide⟩
  rcases List.mem_cons.mp h with rfl | h
  · exact ⟨_, rfl, by decide, by decide⟩
  rcases List.mem_cons.mp h with rfl | h
  · exact ⟨_, rfl, by decide, by decide⟩
  cases h
theorem ok__law_mixed (T : Txt K mg w) : FnOk P w K mg base CX0 1 T.f__law_mixed T.d__law_mixed ["_law_cell", "_law_k"] (sp__law_mixed K) := by
  refine fn_sy T.F__law_mixed sc__law_mixed (fun _ _ => rfl) fun a cdv A outer s H E hr hp => ⟨_, (pss_cons (ps_set (i := 2) sc__law_mixed.nd rfl (.inl rfl) (pe_ix (kIxL (K := K) rfl) (pe_lst (pa_cons pe_int (pa_cons pe_int (pa_cons pe_int (pa_cons pe_int pa_nil))))) (pe_op op_modN (pe_callTy call_int1 (by rfl) T.n_int (by decide +kernel) (pa_cons (pv 1) pa_nil)) pe_int) (fun _ _ => rfl)))
      (pss_cons (ps_set (i := 3) sc__law_mixed.nd rfl (.inl rfl) (pe_op op_add (pe_op op_add (pe_op op_modN (pe_callTy call_int1 (by rfl) T.n_int (by decide +kernel) (pa_cons (pv 0) pa_nil)) (pv 2)) (pe_op op_mul pe_int (pv 1))) pe_int))
      (pss_one (ps_ret (pe_op op_modN (pe_callTy call_int1 (by rfl) T.n_int (by decide +kernel) (pa_cons (pe_op op_mul (pe_op op_modN (pe_callTy call_int1 (by rfl) T.n_int (by decide +kernel) (pa_cons (pe_op op_mul (pv 3) (pv 3)) pa_nil)) pe_int) pe_int) pa_nil)) pe_int))))), ?_⟩
  have m4 := fmod_in (a := a.2) (m := 4) (by decide)
  walk_at "cj1"
  refine v_ixLany m4.1 m4.2 fun A hA => ?_
  obtain ⟨m, rfl, hm0, hm1⟩ := mixed_base hA
  have r1 := fmod_in (a := a.1) hm0
  walk_at "cj1"
  exact ⟨rfl, _, rfl⟩

/-! ### _law_draw -/
def sp_old__law_draw (K : PySem.W.Frag) : Sp := fun vs H Q _ => ∃ c k : Int, vs = [.int c, .int k] ∧ 0 ≤ k ∧ k ≤ 100 ∧ ∀ H' d, Same H H' → H d = none → Dr d 100000 H' → Q (.ref d) H'
theorem old__law_draw (T : Txt K mg w) : FnOk P w K mg base CX0 1 T.f__law_draw T.d__law_draw ["_law_cell", "_law_k"] (sp_old__law_draw K) := by
  refine T.F__law_draw.ok sc__law_draw (fun vs H Q E h => ?_) (fun cdv A outer s H vs Q E hr h => ?_)
  · obtain ⟨c, k, rfl, _⟩ := h
    rfl
  · obtain ⟨c, k, rfl, h0, h1, q⟩ := h
    refine ⟨_, (pss_one (ps_ret (pe_disp (pps_cons pe_str (pe_ifExp (pt_cmpR op_ge (pv 0) (pe_op op_pow pe_int pe_int) (nomark _)) (pv 0) pe_int) (pps_cons pe_str (pv 0) (pps_cons pe_str (pe_op op_mul pe_int (pv 1)) pps_nil))) (by rfl) (by rfl) (fun z => by cases z) (by decide)))), ?_⟩
    refine fun p hp => ?_
    have fin : ∀ l : Int, Q (.ref p) (upd (upd H p (.dK [])) p (.dK (mergeK [] (drK l c (1000 * k))))) := fun l => by
      rw [merge_dr, upd_upd]
      exact q _ p (same_upd hp) hp (Dr.mk upd_same (by omega) (by omega))
    refine ⟨_, rfl, 10, 18, rfl, rfl, ⟨by decide, by decide, by decide⟩, c, _, rfl, rfl, _, rfl, ?_⟩
    refine if2 (fun _ => ?_) (fun _ => ?_)
    · exact ⟨_, rfl, _, rfl, _, rfl, 1000, k, rfl, rfl, .inl ⟨by decide, by decide⟩, upd_same, drK c c (1000 * k), rfl, (by show 3 ≤ 15; decide), fin c⟩
    · exact ⟨_, rfl, _, rfl, 1000, k, rfl, rfl, .inl ⟨by decide, by decide⟩, upd_same, drK 0 c (1000 * k), rfl, (by show 3 ≤ 15; decide), fin 0⟩
abbrev sp__law_draw (K : PySem.W.Frag) : Sp := SpDraw
theorem ok__law_draw (T : Txt K mg w) : FnOk P w K mg base CX0 1 T.f__law_draw T.d__law_draw ["_law_cell", "_law_k"] (sp__law_draw K) := (old__law_draw T).imp fun vs H Q E h => draw_imp h

end
section
theorem Go.drawR {L : LL} {O : OO} {t : TA} {k : As → OO → Prop} {X : XK} (h : GoA L O t fun l O1 => ∃ c j : Int, l = [it c, it j] ∧ (0 ≤ j ∧ j ≤ 100) ∧ ∀ d : Addr, k (pt d) ((d, .dr 100000) :: O1)) : Go L O (tCall SpDraw [] X t) k := Go.call (fun a x hx => by cases hx) fun E G0 H0 σ G H Q f s z => h _ _ _ _ _ _ _ f s fun l O' G' H' vs q => z _ _ _ _ _ (by
    obtain ⟨c, j, rfl, h1, h2⟩ := q
    refine ⟨(c, j), O', rfl, rfl, h1, ?_⟩
    rintro A O2 ⟨d, rfl, rfl⟩
    exact h2 d)

end
section
variable {P : Program} {w : World} {K : PySem.W.Frag} {mg : Str → Option Value} {base : Heap} [IsP P]
/-! ### _law_digit -/
abbrev sp__law_digit (K : PySem.W.Frag) : Sp := SpDigit
theorem ok__law_digit (T : Txt K mg w) : FnOk P w K mg base CX0 2 T.f__law_digit T.d__law_digit ["_law_state", "_law_size"] (sp__law_digit K) := by
  refine fn_sy T.F__law_digit sc__law_digit (fun _ _ => rfl) fun a cdv A outer s H E hr hp => ⟨_, (C8.pss_cut (ps_if (pt_cmpR op_eq (pe_dget (hu_of hr) (pv 0) pe_str (fun _ _ => rfl)) pe_int (nomark _))
      (pss_one (ps_for PassesOwn.never rfl (pi_range1 (by rfl) T.n_range (pa_cons pe_int pa_nil)) (pg_name (i := 2) sc__law_digit.nd rfl (.inl rfl))
      (pss_cons (ps_dput (hu_of hr) (pv 0) pe_str (pe_op op_add (pe_dget (hu_of hr) (pv 0) pe_str (fun _ _ => rfl)) pe_int) rfl)
      (pss_one (ps_dput (hu_of hr) (pv 0) pe_str (pe_op op_add (pe_op op_mul (pe_dget (hu_of hr) (pv 0) pe_str (fun _ _ => rfl)) pe_int) (pe_call (ok__law_mixed (P := P) T) (hr.mono (by decide)) (by rfl) T.g__law_mixed T.F__law_mixed.kp T.b__law_mixed .nil pass0 (pa_cons (pe_dget (hu_of hr) (pv 0) pe_str (fun _ _ => rfl)) (pa_cons (pe_dget (hu_of hr) (pv 0) pe_str (fun _ _ => rfl)) pa_nil)))) rfl)))))
      pss_nil)
      (pss_cons (ps_set (i := 3) sc__law_digit.nd rfl (.inl rfl) (pe_op op_modN (pe_callTy call_int1 (by rfl) T.n_int (by decide +kernel) (pa_cons (pe_dget (hu_of hr) (pv 0) pe_str (fun _ _ => rfl)) pa_nil)) (pv 1)))
      (pss_cons (ps_dput (hu_of hr) (pv 0) pe_str (pe_op op_fdivW (pe_dget (hu_of hr) (pv 0) pe_str (fun _ _ => rfl)) (pv 1)) rfl)
      (pss_one (ps_ret (pv 3)))))), ?_⟩
  obtain ⟨d, m, n⟩ := a
  obtain ⟨hm0, hm1, hn⟩ := hp
  dsimp only at hm0 hm1 hn
  refine GoS.openDr fun l c u h0 h1 => ?_
  dsimp only at h1 ⊢
  walk_at "cj6"
  · refine GoS.forS (τ := Unit) (n := 4) (fun _ => [some (pt d), some (it m), none, none]) [2, 3] (fun i _ O' => ∃ l' u', O' = [(d, .od true (drA l' c u'))] ∧ 0 ≤ u' ∧ u' ≤ u + i) ?_ ?_
    · refine GoI.rng1 (GoA.cons (Go.c (GoA.nil ⟨4, rfl, by decide, rfl, ⟨(), rfl, l, u, rfl, h0, by omega⟩, fun i A _ O' hA hP => ?_, fun _ O' hP => ?_⟩)))
      · obtain ⟨l', u', rfl, g0, g1⟩ := hP
        have hi : i < 4 := by have := (List.getElem?_eq_some_iff.mp hA).1; simpa [rngA] using this
        walk_at "cj6"
        obtain ⟨j, rfl⟩ := h9
        walk_at "cj6"
        exact ⟨(), rfl, l' * 2147483647 + j, u' + 1, rfl, by omega, by omega⟩
      · obtain ⟨l', u', rfl, g0, g1⟩ := hP
        walk_at "cj6"
        refine GoS.ret (Go.closeDr (Go.var rfl ⟨l' / m, c, u', [], n + 4, rfl, g0, ?_, _, (fmod_in hm0).1, (fmod_in hm0).2, rfl, rfl⟩))
        omega
    · exact fun L' O' h => GoS.weak [2, 3] rfl h
  · refine GoS.ret (Go.closeDr (Go.var rfl ⟨l / m, c, u, [], n + 4, rfl, h0, ?_, _, (fmod_in hm0).1, (fmod_in hm0).2, rfl, rfl⟩))
    omega

/-! ### _law_pick -/
abbrev sp__law_pick (K : PySem.W.Frag) : Sp := SpPick K
theorem ok__law_pick (T : Txt K mg w) : FnOk P w K mg base CX0 3 T.f__law_pick T.d__law_pick ["_law_state", "_law_items"] (sp__law_pick K) := by
  refine fn_sy T.F__law_pick sc__law_pick (fun _ _ => rfl) fun a cdv A outer s H E hr hp => ⟨_, (pss_one (ps_ret (pe_ix (kIxL (K := K) rfl) (pv 1) (pe_call (ok__law_digit (P := P) T) (hr.mono (by decide)) (by rfl) T.g__law_digit T.F__law_digit.kp T.b__law_digit .nil pass0 (pa_cons (pv 0) (pa_cons (pe_callB (kLen (K := K) rfl) (by rfl) T.n_len (by decide +kernel) (pa_cons (pv 1) pa_nil)) pa_nil))) (fun _ _ => rfl)))), ?_⟩
  obtain ⟨d, xs, n⟩ := a
  obtain ⟨h1, h2, h3⟩ := hp
  dsimp only at h1 h2 h3 ⊢
  walk_at "cj1"
  exact v_ixLany l9 u9 fun A hA => ⟨hA, rfl⟩

/-! ### _law_place -/
/-- drawn values, not too large -/
structure Sz (d : DT) (B E : Nat) : Prop where
  ok : dK d = true
  bk : dB d ≤ B
  dp : dE d ≤ E
def szB (B E : Nat) (d : DT) : Bool := dK d && (decide (dB d ≤ B) && decide (dE d ≤ E))
theorem sz_of {B E : Nat} {d : DT} (h : szB B E d = true) : Sz d B E := by
  unfold szB at h
  rw [Bool.and_eq_true, Bool.and_eq_true, decide_eq_true_eq, decide_eq_true_eq] at h
  exact ⟨h.1, h.2.1, h.2.2⟩
/-- the promise of a def that makes a value that is judged right, or wrong, as it is asked -/
abbrev SpMade (K : PySem.W.Frag) (f : DT → Bool) (B E : Nat) : Sp := SpG (fun a : Addr × Nat × Bool => a.2.1 + 100 * B ≤ 90000000) (fun a => [pt a.1, bo a.2.2]) (fun a => [(a.1, .dr a.2.1)]) (fun a A O' => ∃ d m, f d = a.2.2 ∧ Sz d B E ∧ A = dA K d ∧ m ≤ a.2.1 + B / 10 ∧ O' = [(a.1, .dr m)])
theorem dr1 {a : Addr} {n : Nat} : ∀ x ∈ ([(a, .dr n)] : OO), x.2.par = true := fun x hx => by rw [List.mem_singleton.mp hx]; rfl
theorem Go.made {K : PySem.W.Frag} {f : DT → Bool} {B E9 : Nat} {L : LL} {O : OO} {k : As → OO → Prop} {X : XK} {t : TA} (h : GoA L O t fun l O1 => ∃ D n b R, l = [pt D, bo b] ∧ O1 = (D, .dr n) :: R ∧ n + 100 * B ≤ 90000000 ∧ Keep (∀ d m, f d = b → Sz d B E9 → m ≤ n + B / 10 → k (dA K d) ((D, .dr m) :: R))) : Go L O (tCall (SpMade K f B E9) [] X t) k :=
  Go.call (fun a => dr1) fun E G0 H0 σ G H Q f' s z => h _ _ _ _ _ _ _ f' s fun l O' G' H' vs q => z _ _ _ _ _ (by
    obtain ⟨D, n, b, R, rfl, rfl, hn, q⟩ := q
    refine ⟨(D, n, b), R, rfl, rfl, hn, ?_⟩
    rintro A O2 ⟨d, m, h1, h2, rfl, h3, rfl⟩
    exact q.out d m h1 h2 h3)
theorem Go.pickD {K : PySem.W.Frag} {L : LL} {O : OO} {k : As → OO → Prop} {X : XK} {t : TA} (ls : List DT) (h : GoA L O t fun l O1 => ∃ D n R, l = [pt D, lst K (dAs K ls)] ∧ O1 = (D, .dr n) :: R ∧ (0 < ls.length ∧ ls.length ≤ 1000 ∧ n ≤ 100000000) ∧ Keep (∀ d ∈ ls, k (dA K d) ((D, .dr (n + 4)) :: R))) : Go L O (tCall (SpPick K) [] X t) k :=
  Go.pick fun E G0 H0 σ G H Q f' s z => h _ _ _ _ _ _ _ f' s fun l O' G' H' vs q => z _ _ _ _ _ (by
    obtain ⟨D, n, R, rfl, rfl, ⟨h1, h2, h3⟩, q⟩ := q
    refine ⟨D, _, n, R, rfl, rfl, ⟨by rw [dAs_map, List.length_map]; exact h1, by rw [dAs_map, List.length_map]; exact h2, h3⟩, fun A hA => ?_⟩
    rw [dAs_map] at hA
    obtain ⟨d, hd, rfl⟩ := List.mem_map.mp hA
    exact q.out d hd)
abbrev placesG : List DT := [.t [.s [104, 116, 116, 112, 115], .s [97, 46, 99, 111, 109], .s [47]], .t [.s [104, 116, 116, 112], .s [98, 46, 99, 46, 110, 101, 116], .s [47, 112, 47, 113]], .t [.s [104, 116, 116, 112, 115], .s [49, 46, 50, 46, 51, 46, 52], .s [47, 126]], .t [.s [104, 116, 116, 112], .s [108, 111, 99, 97, 108, 104, 111, 115, 116], .s [47]], .t [.s [104, 116, 116, 112, 115], .s [97, 46, 99, 111, 109], .s ([47] ++ repL [120] 199)]]
abbrev placesO : List DT := [.t [.s [102, 116, 112], .s [97, 46, 99, 111, 109], .s [47]], .t [.s [104, 116, 116, 112, 115], .s [65, 46, 99, 111, 109], .s [47]], .t [.s [104, 116, 116, 112, 115], .s [97, 46, 99, 111, 109], .s []], .t [.s [104, 116, 116, 112, 115], .s [97, 46, 99, 111, 109], .s [112]], .n, .i 5, .t [.s [104, 116, 116, 112, 115], .s [97, 46, 99, 111, 109], .s [47, 59]], .t [.s [104, 116, 116, 112, 115], .s [97, 46, 99, 111, 109]], .l [.s [104, 116, 116, 112, 115], .s [97, 46, 99, 111, 109], .s [47]], .s [104, 116, 116, 112, 115, 58, 47, 47, 97, 46, 99, 111, 109, 47], .t [.s [104, 116, 116, 112, 115]], .t [.s [104, 116, 116, 112, 115], .s [97, 46, 46, 99, 111, 109], .s [47]], .t [.s [104, 116, 116, 112, 115], .s [97, 46, 99, 111, 109], .s ([47] ++ repL [120] 200)], .t [.s [104, 116, 116, 112, 115], .s [97, 46, 99, 111, 109], .s [47, 97, 32, 98]], .t [], .e]
theorem places_tab : (∀ d ∈ placesG, isAdr d = true ∧ szB 300 2 d = true) ∧ ∀ d ∈ placesO, isAdr d = false ∧ szB 300 2 d = true := by decide +kernel
abbrev sp__law_place (K : PySem.W.Frag) : Sp := SpMade K isAdr 300 2
theorem ok__law_place (T : Txt K mg w) : FnOk P w K mg base CX0 4 T.f__law_place T.d__law_place ["_law_state", "_law_is_right"] (sp__law_place K) := by
  refine fn_sy T.F__law_place sc__law_place (fun _ _ => rfl) fun a cdv A outer s H E hr hp => ⟨_, (pss_cons (ps_set (i := 2) sc__law_place.nd rfl (.inl rfl) (pe_lst (pa_cons (pe_tup (pa_cons pe_str (pa_cons pe_str (pa_cons pe_str pa_nil)))) (pa_cons (pe_tup (pa_cons pe_str (pa_cons pe_str (pa_cons pe_str pa_nil)))) (pa_cons (pe_tup (pa_cons pe_str (pa_cons pe_str (pa_cons pe_str pa_nil)))) pa_nil)))))
      (pss_cons (ps_set (i := 2) sc__law_place.nd rfl (.inl rfl) (pe_op op_cat (pv 2) (pe_lst (pa_cons (pe_tup (pa_cons pe_str (pa_cons pe_str (pa_cons pe_str pa_nil)))) (pa_cons (pe_tup (pa_cons pe_str (pa_cons pe_str (pa_cons (pe_op op_add_str pe_str (pe_op op_rep_str pe_str pe_int)) pa_nil)))) pa_nil)))))
      (pss_cons (ps_set (i := 3) sc__law_place.nd rfl (.inl rfl) (pe_lst (pa_cons (pe_tup (pa_cons pe_str (pa_cons pe_str (pa_cons pe_str pa_nil)))) (pa_cons (pe_tup (pa_cons pe_str (pa_cons pe_str (pa_cons pe_str pa_nil)))) (pa_cons (pe_tup (pa_cons pe_str (pa_cons pe_str (pa_cons pe_str pa_nil)))) (pa_cons (pe_tup (pa_cons pe_str (pa_cons pe_str (pa_cons pe_str pa_nil)))) (pa_cons pe_non (pa_cons pe_int pa_nil))))))))
      (pss_cons (ps_set (i := 3) sc__law_place.nd rfl (.inl rfl) (pe_op op_cat (pv 3) (pe_lst (pa_cons (pe_tup (pa_cons pe_str (pa_cons pe_str (pa_cons pe_str pa_nil)))) (pa_cons (pe_tup (pa_cons pe_str (pa_cons pe_str pa_nil))) (pa_cons (pe_lstB (pa_cons pe_str (pa_cons pe_str (pa_cons pe_str pa_nil)))) (pa_cons pe_str (pa_cons (pe_tup (pa_cons pe_str pa_nil)) pa_nil))))))))
      (pss_cons (ps_set (i := 3) sc__law_place.nd rfl (.inl rfl) (pe_op op_cat (pv 3) (pe_lst (pa_cons (pe_tup (pa_cons pe_str (pa_cons pe_str (pa_cons pe_str pa_nil)))) (pa_cons (pe_tup (pa_cons pe_str (pa_cons pe_str (pa_cons (pe_op op_add_str pe_str (pe_op op_rep_str pe_str pe_int)) pa_nil)))) (pa_cons (pe_tup (pa_cons pe_str (pa_cons pe_str (pa_cons pe_str pa_nil)))) (pa_cons (pe_tup pa_nil) (pa_cons pe_dnewK pa_nil))))))))
      (pss_one (ps_ret (pe_call (ok__law_pick (P := P) T) (hr.mono (by decide)) (by rfl) T.g__law_pick T.F__law_pick.kp T.b__law_pick .nil pass0 (pa_cons (pv 0) (pa_cons (pe_ifExp (pt_val (pv 1)) (pv 2) (pv 3)) pa_nil)))))))))), ?_⟩
  obtain ⟨D, n, b⟩ := a
  have hp : n + 100 * 300 ≤ 90000000 := hp
  show GoS [some (pt D), some (bo b), none, none] [(D, .dr n)] _ _
  walk_at "cj7"
  cases b with
  | true =>
    refine Go.pickD placesG (GoA.cons (Go.var rfl (GoA.cons (Go.ifT (GoT.b (Go.var rfl ⟨_, rfl, rfl, rfl⟩)) (Go.var rfl (GoA.nil ⟨D, n, [], rfl, rfl, ⟨by decide, by decide, by omega⟩, Keep.mk fun d hd => ?_⟩))))))
    obtain ⟨h1, h2⟩ := places_tab.1 d hd
    exact ⟨d, n + 4, h1, sz_of h2, rfl, by show n + 4 ≤ n + 30; omega, rfl⟩
  | false =>
    refine Go.pickD placesO (GoA.cons (Go.var rfl (GoA.cons (Go.ifF (GoT.b (Go.var rfl ⟨_, rfl, rfl, rfl⟩)) (Go.var rfl (GoA.nil ⟨D, n, [], rfl, rfl, ⟨by decide, by decide, by omega⟩, Keep.mk fun d hd => ?_⟩))))))
    obtain ⟨h1, h2⟩ := places_tab.2 d hd
    exact ⟨d, n + 4, h1, sz_of h2, rfl, by show n + 4 ≤ n + 30; omega, rfl⟩

/-! ### _law_one_line -/
abbrev linesG : List DT := [.t [.s [97, 108, 119, 97, 121, 115], .s [97, 61, 49]], .t [.s [110, 101, 119], .s []], .t [.s [97, 108, 119, 97, 121, 115], .s (repL [120] 400)], .t [.s [110, 101, 119], .s [97, 61, 42, 59, 32, 80, 97, 116, 104, 61, 47]], .t [.s [97, 108, 119, 97, 121, 115], .s [59, 59, 10]]]
abbrev linesO : List DT := [.t [.s [110, 101, 118, 101, 114], .s [97]], .l [.s [97, 108, 119, 97, 121, 115], .s [97]], .t [.s [97, 108, 119, 97, 121, 115]], .t [.s [97, 108, 119, 97, 121, 115], .i 5], .t [.s [110, 101, 119], .s (repL [120] 401)], .n, .t [.s [110, 101, 119], .s [97], .s [98]], .t [.s [65, 108, 119, 97, 121, 115], .s [97]], .t [.b true, .s [97]], .t [.l [.s [110, 101, 119]], .s [97]], .s [97, 98], .t []]
theorem lines_tab : (∀ d ∈ linesG, lineB d = true ∧ szB 500 3 d = true) ∧ ∀ d ∈ linesO, lineB d = false ∧ szB 500 3 d = true := by decide +kernel
abbrev sp__law_one_line (K : PySem.W.Frag) : Sp := SpMade K lineB 500 3
theorem ok__law_one_line (T : Txt K mg w) : FnOk P w K mg base CX0 4 T.f__law_one_line T.d__law_one_line ["_law_state", "_law_is_right"] (sp__law_one_line K) := by
  refine fn_sy T.F__law_one_line sc__law_one_line (fun _ _ => rfl) fun a cdv A outer s H E hr hp => ⟨_, (pss_cons (ps_set (i := 2) sc__law_one_line.nd rfl (.inl rfl) (pe_lst (pa_cons (pe_tup (pa_cons pe_str (pa_cons pe_str pa_nil))) (pa_cons (pe_tup (pa_cons pe_str (pa_cons pe_str pa_nil))) (pa_cons (pe_tup (pa_cons pe_str (pa_cons (pe_op op_rep_str pe_str pe_int) pa_nil))) (pa_cons (pe_tup (pa_cons pe_str (pa_cons pe_str pa_nil))) (pa_cons (pe_tup (pa_cons pe_str (pa_cons pe_str pa_nil))) pa_nil)))))))
      (pss_cons (ps_set (i := 3) sc__law_one_line.nd rfl (.inl rfl) (pe_lst (pa_cons (pe_tup (pa_cons pe_str (pa_cons pe_str pa_nil))) (pa_cons (pe_lstB (pa_cons pe_str (pa_cons pe_str pa_nil))) (pa_cons (pe_tup (pa_cons pe_str pa_nil)) (pa_cons (pe_tup (pa_cons pe_str (pa_cons pe_int pa_nil))) (pa_cons (pe_tup (pa_cons pe_str (pa_cons (pe_op op_rep_str pe_str pe_int) pa_nil))) (pa_cons pe_non (pa_cons (pe_tup (pa_cons pe_str (pa_cons pe_str (pa_cons pe_str pa_nil)))) pa_nil)))))))))
      (pss_one (ps_ret (pe_call (ok__law_pick (P := P) T) (hr.mono (by decide)) (by rfl) T.g__law_pick T.F__law_pick.kp T.b__law_pick .nil pass0 (pa_cons (pv 0) (pa_cons (pe_ifExp (pt_val (pv 1)) (pv 2) (pe_op op_cat (pv 3) (pe_lst (pa_cons (pe_tup (pa_cons pe_str (pa_cons pe_str pa_nil))) (pa_cons (pe_tup (pa_cons pe_bl (pa_cons pe_str pa_nil))) (pa_cons (pe_tup (pa_cons (pe_lstB (pa_cons pe_str pa_nil)) (pa_cons pe_str pa_nil))) (pa_cons pe_str (pa_cons (pe_tup pa_nil) pa_nil)))))))) pa_nil))))))), ?_⟩
  obtain ⟨D, n, b⟩ := a
  have hp : n + 100 * 500 ≤ 90000000 := hp
  show GoS [some (pt D), some (bo b), none, none] [(D, .dr n)] _ _
  walk_at "cj8"
  cases b with
  | true =>
    refine Go.pickD linesG (GoA.cons (Go.var rfl (GoA.cons (Go.ifT (GoT.b (Go.var rfl ⟨_, rfl, rfl, rfl⟩)) (Go.var rfl (GoA.nil ⟨D, n, [], rfl, rfl, ⟨by decide, by decide, by omega⟩, Keep.mk fun d hd => ?_⟩))))))
    obtain ⟨h1, h2⟩ := lines_tab.1 d hd
    exact ⟨d, n + 4, h1, sz_of h2, rfl, by show n + 4 ≤ n + 50; omega, rfl⟩
  | false =>
    refine Go.pickD linesO (GoA.cons (Go.var rfl (GoA.cons (Go.ifF (GoT.b (Go.var rfl ⟨_, rfl, rfl, rfl⟩)) ?_))))
    walk_at "cj8"
    refine ⟨D, n, [], rfl, rfl, ⟨by decide, by decide, by omega⟩, Keep.mk fun d hd => ?_⟩
    obtain ⟨h1, h2⟩ := lines_tab.2 d hd
    exact ⟨d, n + 4, h1, sz_of h2, rfl, by show n + 4 ≤ n + 50; omega, rfl⟩

/-! ### _law_one_part -/
abbrev partsO : List DT := [.t [.s [119, 114, 105, 116, 101], .i 5], .t [.s [115, 99, 114, 105, 112, 116], .s [97]], .t [.s [119, 114, 105, 116, 101], .s (repL [120] 401)], .n, .t [.s [102, 114, 97, 109, 101]], .l [.s [119, 114, 105, 116, 101], .s [97]], .t [.s [119, 114, 105, 116, 101], .s [97], .s [98]], .t [.s [103, 111, 97, 108], .t [.s [104, 116, 116, 112, 115], .s [97, 46, 99, 111, 109], .s [47]]], .t [.e, .s [97]], .s [97, 98], .t [.n, .n]]
abbrev writesG : List DT := [.s [], .s [97, 61, 42], .s (repL [120] 400)]
theorem parts_tab : (∀ d ∈ writesG, textB d = true ∧ szB 400 1 d = true) ∧ ∀ d ∈ partsO, partB6 d = false ∧ szB 500 3 d = true := by decide +kernel
abbrev sp__law_one_part (K : PySem.W.Frag) : Sp := SpMade K partB6 500 3
theorem ok__law_one_part (T : Txt K mg w) : FnOk P w K mg base CX0 5 T.f__law_one_part T.d__law_one_part ["_law_state", "_law_is_right"] (sp__law_one_part K) := by
  refine fn_sy T.F__law_one_part sc__law_one_part (fun _ _ => rfl) fun a cdv A outer s H E hr hp => ⟨_, (pss_cons (ps_set (i := 2) sc__law_one_part.nd rfl (.inl rfl) (pe_call (ok__law_digit (P := P) T) (hr.mono (by decide)) (by rfl) T.g__law_digit T.F__law_digit.kp T.b__law_digit .nil pass0 (pa_cons (pv 0) (pa_cons pe_int pa_nil))))
      (pss_cons (ps_if (PW.pt (pw_and (pt_val (pv 1)) (pw_and1 (pt_cmpR op_lt (pv 2) pe_int (nomark _)))))
      (pss_one (ps_ret (pe_tup (pa_cons (pe_ix (kIxL (K := K) rfl) (pe_lst (pa_cons pe_str (pa_cons pe_str pa_nil))) (pv 2) (fun _ _ => rfl)) (pa_cons (pe_call (ok__law_place (P := P) T) (hr.mono (by decide)) (by rfl) T.g__law_place T.F__law_place.kp T.b__law_place .nil pass0 (pa_cons (pv 0) (pa_cons pe_bl pa_nil))) pa_nil)))))
      pss_nil)
      (pss_cons (ps_if (pt_val (pv 1))
      (pss_one (ps_ret (pe_tup (pa_cons pe_str (pa_cons (pe_call (ok__law_pick (P := P) T) (hr.mono (by decide)) (by rfl) T.g__law_pick T.F__law_pick.kp T.b__law_pick .nil pass0 (pa_cons (pv 0) (pa_cons (pe_lst (pa_cons pe_str (pa_cons pe_str (pa_cons (pe_op op_rep_str pe_str pe_int) pa_nil)))) pa_nil))) pa_nil)))))
      pss_nil)
      (pss_cons (ps_if (pt_cmpR op_eq (pv 2) pe_int (nomark _))
      (pss_one (ps_ret (pe_tup (pa_cons (pe_call (ok__law_pick (P := P) T) (hr.mono (by decide)) (by rfl) T.g__law_pick T.F__law_pick.kp T.b__law_pick .nil pass0 (pa_cons (pv 0) (pa_cons (pe_lst (pa_cons pe_str (pa_cons pe_str pa_nil))) pa_nil))) (pa_cons (pe_call (ok__law_place (P := P) T) (hr.mono (by decide)) (by rfl) T.g__law_place T.F__law_place.kp T.b__law_place .nil pass0 (pa_cons (pv 0) (pa_cons pe_bl pa_nil))) pa_nil)))))
      pss_nil)
      (pss_cons (ps_set (i := 3) sc__law_one_part.nd rfl (.inl rfl) (pe_lst (pa_cons (pe_tup (pa_cons pe_str (pa_cons pe_int pa_nil))) (pa_cons (pe_tup (pa_cons pe_str (pa_cons pe_str pa_nil))) (pa_cons (pe_tup (pa_cons pe_str (pa_cons (pe_op op_rep_str pe_str pe_int) pa_nil))) (pa_cons pe_non (pa_cons (pe_tup (pa_cons pe_str pa_nil)) (pa_cons (pe_lstB (pa_cons pe_str (pa_cons pe_str pa_nil))) (pa_cons (pe_tup (pa_cons pe_str (pa_cons pe_str (pa_cons pe_str pa_nil)))) pa_nil)))))))))
      (pss_one (ps_ret (pe_call (ok__law_pick (P := P) T) (hr.mono (by decide)) (by rfl) T.g__law_pick T.F__law_pick.kp T.b__law_pick .nil pass0 (pa_cons (pv 0) (pa_cons (pe_op op_cat (pv 3) (pe_lst (pa_cons (pe_tup (pa_cons pe_str (pa_cons (pe_tup (pa_cons pe_str (pa_cons pe_str (pa_cons pe_str pa_nil)))) pa_nil))) (pa_cons (pe_tup (pa_cons pe_dnewK (pa_cons pe_str pa_nil))) (pa_cons pe_str (pa_cons (pe_tup (pa_cons pe_non (pa_cons pe_non pa_nil))) pa_nil)))))) pa_nil)))))))))), ?_⟩
  obtain ⟨D, n, b⟩ := a
  have hp : n + 100 * 500 ≤ 90000000 := hp
  show GoS [some (pt D), some (bo b), none, none] [(D, .dr n)] _ _
  refine GoS.seq (GoS.set (Go.digit (GoA.cons (Go.var rfl (GoA.cons (Go.c (GoA.nil ⟨D, 3, n, [], rfl, rfl, ⟨by decide, by decide, by omega⟩, fun w w0 w1 => ?_⟩)))))))
  show GoS [some (pt D), some (bo b), some (it w), none] [(D, .dr (n + 4))] _ _
  cases b with
  | true =>
    refine GoS.seq (GoS.ifB (p := decide (w < 2)) (GoT.join (true && decide (w < 2)) (GoT.andJ (p := true) (q := decide (w < 2)) (GoT.b (Go.var rfl ⟨_, rfl, rfl, rfl⟩)) (fun _ => GoT.test (Go.op (Go.var rfl (Go.c (v_lt ⟨_, rfl, rfl, rfl⟩))))) ⟨rfl, rfl⟩) ⟨rfl, rfl⟩) (fun z => ?_) (fun z => GoS.nil ?_))
    · obtain ⟨j, rfl⟩ := Int.eq_ofNat_of_zero_le w0
      have z := of_decide_eq_true z
      have hj : j < 2 := by omega
      obtain ⟨x, e1, e2⟩ : ∃ x, ([wFrame, wPicture] : List (List Nat))[j]? = some x ∧ x ∈ [wFrame, wPicture] := ⟨_, List.getElem?_eq_getElem (by show j < 2; exact hj), List.getElem_mem _⟩
      refine GoS.ret (Go.tup (K := K) (GoA.cons (Go.op (Go.lst (K := K) (GoA.cons (Go.cS (l := wFrame) LitS.eq (GoA.cons (Go.cS (l := wPicture) LitS.eq (GoA.nil ⟨Nat.le_of_ble_eq_true rfl, Go.var rfl ?_⟩)))))))))
      refine v_ixLS (ws := [wFrame, wPicture]) rfl e1 ?_
      refine GoA.cons (Go.made (GoA.cons (Go.var rfl (GoA.cons (Go.c (GoA.nil ⟨D, n + 4, true, [], rfl, rfl, by omega, Keep.mk fun d m h1 h2 h3 => ?_⟩))))))
      refine GoA.nil ⟨Nat.le_of_ble_eq_true rfl, .t [.s x, d], m, ?_, ?_, rfl, by show m ≤ n + 50; omega, ?_⟩
      · show (if decide (x ∈ [wFrame, wPicture]) = true then isAdr d else _) = true
        rw [if_pos (decide_eq_true e2), h1]
      · have hx : dK (.s x) = true ∧ x.length ≤ 10 := by
          simp only [List.mem_cons, List.not_mem_nil, or_false] at e2
          rcases e2 with rfl | rfl <;> decide
        refine ⟨?_, ?_, ?_⟩
        · show (decide (2 ≤ 100) && (dK (.s x) && (dK d && true))) = true
          rw [hx.1, h2.ok]
          rfl
        · show x.length + 1 + (dB d + 1 + 0) ≤ 500
          have := h2.bk
          omega
        · show max 0 (max (dE d) 0) + 1 ≤ 3
          have := h2.dp
          omega
      · rfl
    show GoS [some (pt D), some (bo true), some (it w), none] [(D, .dr (n + 4))] _ _
    refine GoS.seq (GoS.ifT (GoT.b (Go.var rfl ⟨_, rfl, rfl, rfl⟩)) ?_)
    refine GoS.ret (Go.tup (K := K) (GoA.cons (Go.cS (l := wWrite) LitS.eq (GoA.cons ?_))))
    refine Go.pickD writesG (GoA.cons (Go.var rfl (GoA.cons ?_)))
    walk_at "cj9"
    refine ⟨D, n + 4, [], rfl, rfl, ⟨by decide, by decide, by omega⟩, Keep.mk fun d hd => ?_⟩
    obtain ⟨h1, h2⟩ := parts_tab.1 d hd
    have h2 := sz_of h2
    refine GoA.nil ⟨Nat.le_of_ble_eq_true rfl, .t [.s wWrite, d], n + 8, ?_, ?_, rfl, by show n + 8 ≤ n + 50; omega, rfl⟩
    · show (if decide (wWrite ∈ [wFrame, wPicture]) = true then isAdr d else decide (wWrite ∈ [wWrite]) && textB d) = true
      rw [h1]
      rfl
    · refine ⟨?_, ?_, ?_⟩
      · show (decide (2 ≤ 100) && (dK (.s wWrite) && (dK d && true))) = true
        rw [h2.ok]
        rfl
      · show 5 + 1 + (dB d + 1 + 0) ≤ 500
        have := h2.bk
        omega
      · show max 0 (max (dE d) 0) + 1 ≤ 3
        have := h2.dp
        omega
  | false =>
    refine GoS.seq (GoS.ifF (GoT.join (false && true) (GoT.andJ (p := false) (q := true) (GoT.b (Go.var rfl ⟨_, rfl, rfl, rfl⟩)) (fun z => (by cases z)) ⟨rfl, rfl⟩) ⟨rfl, rfl⟩) (GoS.nil ?_))
    show GoS [some (pt D), some (bo false), some (it w), none] [(D, .dr (n + 4))] _ _
    refine GoS.seq (GoS.ifF (GoT.b (Go.var rfl ⟨_, rfl, rfl, rfl⟩)) (GoS.nil ?_))
    show GoS [some (pt D), some (bo false), some (it w), none] [(D, .dr (n + 4))] _ _
    refine GoS.seq (GoS.ifB (p := decide (w = 2)) (GoT.test (Go.op (Go.var rfl (Go.c (v_eqI ⟨_, rfl, rfl, rfl⟩))))) (fun z => ?_) (fun z => GoS.nil ?_))
    · refine GoS.ret (Go.tup (K := K) (GoA.cons (Go.pickD [.s wFrame, .s wPicture] (GoA.cons (Go.var rfl (GoA.cons ?_))))))
      walk_at "cj9"
      refine ⟨D, n + 4, [], rfl, rfl, ⟨by decide, by decide, by omega⟩, Keep.mk fun x hx => ?_⟩
      refine GoA.cons (Go.made (GoA.cons (Go.var rfl (GoA.cons (Go.c (GoA.nil ⟨D, n + 8, false, [], rfl, rfl, by omega, Keep.mk fun d m h1 h2 h3 => ?_⟩))))))
      have hx2 : (dK x = true ∧ dB x ≤ 10 ∧ dE x = 0) ∧ strB (fun l => decide (l ∈ [wFrame, wPicture])) x = true := by
        simp only [List.mem_cons, List.not_mem_nil, or_false] at hx
        rcases hx with rfl | rfl <;> decide
      refine GoA.nil ⟨Nat.le_of_ble_eq_true rfl, .t [x, d], m, ?_, ?_, rfl, by show m ≤ n + 50; omega, rfl⟩
      · show (if strB (fun l => decide (l ∈ [wFrame, wPicture])) x = true then isAdr d else _) = false
        rw [if_pos hx2.2, h1]
      · refine ⟨?_, ?_, ?_⟩
        · show (decide (2 ≤ 100) && (dK x && (dK d && true))) = true
          rw [hx2.1.1, h2.ok]
          rfl
        · show dB x + 1 + (dB d + 1 + 0) ≤ 500
          have := h2.bk
          have := hx2.1.2.1
          omega
        · show max (dE x) (max (dE d) 0) + 1 ≤ 3
          have := h2.dp
          have := hx2.1.2.2
          omega
    show GoS [some (pt D), some (bo false), some (it w), none] [(D, .dr (n + 4))] _ _
    walk_at "cj9"
    refine Go.pickD partsO (GoA.cons (Go.var rfl (GoA.cons ?_)))
    walk_at "cj9"
    refine ⟨D, n + 4, [], rfl, rfl, ⟨by decide, by decide, by omega⟩, Keep.mk fun d hd => ?_⟩
    obtain ⟨h1, h2⟩ := parts_tab.2 d hd
    exact ⟨d, n + 8, h1, sz_of h2, rfl, by show n + 8 ≤ n + 50; omega, rfl⟩

/-! ### _law_some -/
abbrev madeF (T : Txt K mg w) (b : Bool) : Addr := if b = true then T.f__law_one_line else T.f__law_one_part
def judge : Bool → DT → Bool
  | true => lineB
  | false => partB6
/-- arguments: draw source, its count, how many, whether one is wrong, what is made -/
structure SomeV where
  D : Addr
  n : Nat
  c : Nat
  w : Bool
  f : Bool
theorem rel_all {f : DT → Bool} {s : Int} : ∀ {c o : Nat} {ys : List DT}, Rel2 (fun (j : Nat) (d : DT) => f d = !decide ((j : Int) = s) ∧ Sz d 500 3) (List.range' o c) ys → ys.all f = !decide ((o : Int) ≤ s ∧ s < o + c) ∧ ys.length = c ∧ ∀ d ∈ ys, Sz d 500 3
  | 0, o, _, .nil => ⟨by
    show true = _
    rw [decide_eq_false (by omega)]
    rfl, rfl, fun d h => (by cases h)⟩
  | c + 1, o, _, .cons (y := y) (m := ys) h t => by
    obtain ⟨h1, h2, h3⟩ := rel_all t
    refine ⟨?_, congrArg (· + 1) h2, fun d hd => ?_⟩
    · show (f y && ys.all f) = _
      rw [h.1, h1]
      by_cases e : (o : Int) = s
      · rw [decide_eq_true e, decide_eq_true (show (o : Int) ≤ s ∧ s < o + (c + 1 : Nat) by omega)]
        rfl
      · rw [decide_eq_false e]
        show (!decide (((o + 1 : Nat) : Int) ≤ s ∧ s < (o + 1 : Nat) + c)) = _
        congr 1
        exact decide_eq_decide.mpr (by omega)
    · rcases List.mem_cons.mp hd with rfl | hd
      · exact h.2
      · exact h3 d hd
abbrev sp__law_some (T : Txt K mg w) : Sp := SpG (fun a : SomeV => a.n ≤ 80000000 ∧ a.c ≤ 6) (fun a => [pt a.D, it (a.c : Int), bo a.w, pt (madeF T a.f)]) (fun a => [(a.D, .dr a.n)]) (fun a A O' => ∃ (xs : List DT) (m : Nat), A = tup K [dA K (.t xs), bo (xs.all (judge a.f))] ∧ xs.length = a.c ∧ (a.w = false → xs.all (judge a.f) = true) ∧ (∀ d ∈ xs, Sz d 500 3) ∧ m ≤ a.n + 400 ∧ O' = [(a.D, .dr m)])
theorem ok__law_some (T : Txt K mg w) : FnOk P w K mg base CX0 6 T.f__law_some T.d__law_some ["_law_state", "_law_many", "_law_is_wrong", "_law_made"] (sp__law_some T) := by
  refine fn_sy T.F__law_some sc__law_some (fun _ _ => rfl) fun a cdv A outer s H E hr hp => ?_
  obtain ⟨D, n, c, w, f⟩ := a
  cases f with
  | true =>
    refine ⟨_, (pss_cons (ps_set (i := 4) sc__law_some.nd rfl (.inr rfl) (pe_ifExp (PW.pt (pw_and (pt_val (pv 2)) (pw_and1 (pt_cmpR op_gt (pv 1) pe_int (nomark _))))) (pe_call (ok__law_digit (P := P) T) (hr.mono (by decide)) (by rfl) T.g__law_digit T.F__law_digit.kp T.b__law_digit .nil pass0 (pa_cons (pv 0) (pa_cons (pv 1) pa_nil))) (pe_un un_neg pe_int)))
      (pss_one (ps_ret (pe_tup (pa_cons (pe_callTy (kTup (K := K) rfl) (by rfl) T.n_tuple (by decide +kernel) (pa_cons (pe_lc (own := [("_law_at", 5)]) (g := gName 5) (tt := tYes) (by rfl) sc__law_some.nd (pi_range1 (by rfl) T.n_range (pa_cons (pv 1) pa_nil)) (blkOk_by (own := [("_law_at", 5)]) (N := N__law_some) (sc := defScope S__law_some) (by decide +kernel)) (fun _ _ _ _ _ => (pg_name (i := 5) sc__law_some.nd rfl (.inl rfl))) (fun _ _ _ _ _ => pts_nil) (fun _ _ _ _ _ => (pe_callW (i := 3) (ok__law_one_line (P := P) T) (hr.mono (by decide)) T.F__law_one_line.kp T.b__law_one_line pass0 rfl (.inr <| .inl rfl) (pa_cons (pv 0) (pa_cons (pe_cmpR op_ne (pv 5) (pv 4) (nomark _)) pa_nil))))) pa_nil)) (pa_cons (pe_cmpR op_lt (pv 4) pe_int (nomark _)) pa_nil)))))), ?_⟩
    obtain ⟨hn, hc⟩ := hp
    dsimp only at hn hc
    show GoS [some (pt D), some (it (c : Int)), some (bo w), some (pt T.f__law_one_line), none, none] [(D, .dr n)] _ _
    refine GoS.seq (GoS.mid (fun L' O' => ∃ (s : Int) (m : Nat), L' = [some (pt D), some (it (c : Int)), some (bo w), some (pt T.f__law_one_line), some (it s), none] ∧ O' = [(D, .dr m)] ∧ (s = -1 ∨ 0 ≤ s ∧ s < c) ∧ (w = false → s = -1) ∧ m ≤ n + 4) ?_ ?_)
    · refine GoS.set (Go.ite (GoT.join (w && decide ((c : Int) > 0)) (GoT.andJ (p := w) (q := decide ((c : Int) > 0)) (GoT.b (Go.var rfl ⟨_, rfl, rfl, rfl⟩)) (fun _ => GoT.test (Go.op (Go.var rfl (Go.c (v_gt ⟨_, rfl, rfl, rfl⟩))))) ⟨rfl, rfl⟩) ⟨fun z => ?_, fun z => ?_⟩))
      · rw [Bool.and_eq_true, decide_eq_true_eq] at z
        refine Go.digit (GoA.cons (Go.var rfl (GoA.cons (Go.var rfl (GoA.nil ⟨D, _, n, [], rfl, rfl, ⟨by omega, by omega, by omega⟩, fun s s0 s1 => ?_⟩)))))
        exact ⟨s, n + 4, rfl, rfl, .inr ⟨s0, s1⟩, fun e => (by rw [e] at z; cases z.1), Nat.le_refl _⟩
      · refine Go.un (Go.c (v_rU ?_))
        exact ⟨-1, n, rfl, rfl, .inl rfl, fun _ => rfl, by omega⟩
    rintro _ _ ⟨s, m, rfl, rfl, hs, hw, hm⟩
    show GoS _ _ _ _
    refine GoS.ret (Go.tup (K := K) (GoA.cons (Go.cb (GoA.cons (Go.lcW (K := K) hg1 (fun j : Nat => it (0 + (j : Int))) (dA K) (fun (j : Nat) (d : DT) => judge true d = !decide ((j : Int) = s) ∧ Sz d 500 3) 50 (GoI.rng1 (GoA.cons (Go.var rfl (GoA.nil ?_)))))))))
    refine ⟨(c : Int), rfl, ⟨by omega, by omega⟩, List.range c, D, m, [], rfl, rfl, by rw [List.length_range]; omega, fun x hx m' T hm' => ?_, fun ys m' hr hm' => ?_⟩
    · rw [List.length_range] at hm'
      refine GoG.name (Go.callW rfl (Go.made (GoA.cons (Go.var rfl (GoA.cons (Go.op (Go.var rfl (Go.var rfl (v_neI (GoA.nil ⟨D, m', _, T, rfl, rfl, by omega, Keep.mk fun d m9 h1 h2 h3 => ?_⟩))))))))))
      refine ⟨d, m9, rfl, ⟨?_, h2⟩, by omega, rfl⟩
      rw [Int.zero_add] at h1
      exact h1
    · rw [List.length_range] at hm'
      rw [List.range_eq_range'] at hr
      obtain ⟨a1, a2, a3⟩ := rel_all hr
      refine GoA.nil (v_tupL (GoA.cons (Go.op (Go.var rfl (Go.c (v_lt (GoA.nil ⟨Nat.le_of_ble_eq_true rfl, ?_⟩)))))))
      have e : ys.all (judge true) = decide (s < 0) := by
        rw [a1]
        by_cases h : s < 0
        · rw [decide_eq_true h, decide_eq_false (by omega)]
          rfl
        · rw [decide_eq_false h, decide_eq_true (by omega)]
          rfl
      refine ⟨ys, m', ?_, a2, fun h => ?_, a3, by show m' ≤ n + 400; omega, rfl⟩
      · rw [← e]
        show tup K [tup K (ys.map (dA K)), _] = tup K [tup K (dAs K ys), _]
        rw [dAs_map]
      · show ys.all (judge true) = true
        rw [e, hw h]
        rfl
  | false =>
    refine ⟨_, (pss_cons (ps_set (i := 4) sc__law_some.nd rfl (.inr rfl) (pe_ifExp (PW.pt (pw_and (pt_val (pv 2)) (pw_and1 (pt_cmpR op_gt (pv 1) pe_int (nomark _))))) (pe_call (ok__law_digit (P := P) T) (hr.mono (by decide)) (by rfl) T.g__law_digit T.F__law_digit.kp T.b__law_digit .nil pass0 (pa_cons (pv 0) (pa_cons (pv 1) pa_nil))) (pe_un un_neg pe_int)))
      (pss_one (ps_ret (pe_tup (pa_cons (pe_callTy (kTup (K := K) rfl) (by rfl) T.n_tuple (by decide +kernel) (pa_cons (pe_lc (own := [("_law_at", 5)]) (g := gName 5) (tt := tYes) (by rfl) sc__law_some.nd (pi_range1 (by rfl) T.n_range (pa_cons (pv 1) pa_nil)) (blkOk_by (own := [("_law_at", 5)]) (N := N__law_some) (sc := defScope S__law_some) (by decide +kernel)) (fun _ _ _ _ _ => (pg_name (i := 5) sc__law_some.nd rfl (.inl rfl))) (fun _ _ _ _ _ => pts_nil) (fun _ _ _ _ _ => (pe_callW (i := 3) (ok__law_one_part (P := P) T) (hr.mono (by decide)) T.F__law_one_part.kp T.b__law_one_part pass0 rfl (.inr <| .inl rfl) (pa_cons (pv 0) (pa_cons (pe_cmpR op_ne (pv 5) (pv 4) (nomark _)) pa_nil))))) pa_nil)) (pa_cons (pe_cmpR op_lt (pv 4) pe_int (nomark _)) pa_nil)))))), ?_⟩
    obtain ⟨hn, hc⟩ := hp
    dsimp only at hn hc
    show GoS [some (pt D), some (it (c : Int)), some (bo w), some (pt T.f__law_one_part), none, none] [(D, .dr n)] _ _
    refine GoS.seq (GoS.mid (fun L' O' => ∃ (s : Int) (m : Nat), L' = [some (pt D), some (it (c : Int)), some (bo w), some (pt T.f__law_one_part), some (it s), none] ∧ O' = [(D, .dr m)] ∧ (s = -1 ∨ 0 ≤ s ∧ s < c) ∧ (w = false → s = -1) ∧ m ≤ n + 4) ?_ ?_)
    · refine GoS.set (Go.ite (GoT.join (w && decide ((c : Int) > 0)) (GoT.andJ (p := w) (q := decide ((c : Int) > 0)) (GoT.b (Go.var rfl ⟨_, rfl, rfl, rfl⟩)) (fun _ => GoT.test (Go.op (Go.var rfl (Go.c (v_gt ⟨_, rfl, rfl, rfl⟩))))) ⟨rfl, rfl⟩) ⟨fun z => ?_, fun z => ?_⟩))
      · rw [Bool.and_eq_true, decide_eq_true_eq] at z
        refine Go.digit (GoA.cons (Go.var rfl (GoA.cons (Go.var rfl (GoA.nil ⟨D, _, n, [], rfl, rfl, ⟨by omega, by omega, by omega⟩, fun s s0 s1 => ?_⟩)))))
        exact ⟨s, n + 4, rfl, rfl, .inr ⟨s0, s1⟩, fun e => (by rw [e] at z; cases z.1), Nat.le_refl _⟩
      · refine Go.un (Go.c (v_rU ?_))
        exact ⟨-1, n, rfl, rfl, .inl rfl, fun _ => rfl, by omega⟩
    rintro _ _ ⟨s, m, rfl, rfl, hs, hw, hm⟩
    show GoS _ _ _ _
    refine GoS.ret (Go.tup (K := K) (GoA.cons (Go.cb (GoA.cons (Go.lcW (K := K) hg1 (fun j : Nat => it (0 + (j : Int))) (dA K) (fun (j : Nat) (d : DT) => judge false d = !decide ((j : Int) = s) ∧ Sz d 500 3) 50 (GoI.rng1 (GoA.cons (Go.var rfl (GoA.nil ?_)))))))))
    refine ⟨(c : Int), rfl, ⟨by omega, by omega⟩, List.range c, D, m, [], rfl, rfl, by rw [List.length_range]; omega, fun x hx m' T hm' => ?_, fun ys m' hr hm' => ?_⟩
    · rw [List.length_range] at hm'
      refine GoG.name (Go.callW rfl (Go.made (GoA.cons (Go.var rfl (GoA.cons (Go.op (Go.var rfl (Go.var rfl (v_neI (GoA.nil ⟨D, m', _, T, rfl, rfl, by omega, Keep.mk fun d m9 h1 h2 h3 => ?_⟩))))))))))
      refine ⟨d, m9, rfl, ⟨?_, h2⟩, by omega, rfl⟩
      rw [Int.zero_add] at h1
      exact h1
    · rw [List.length_range] at hm'
      rw [List.range_eq_range'] at hr
      obtain ⟨a1, a2, a3⟩ := rel_all hr
      refine GoA.nil (v_tupL (GoA.cons (Go.op (Go.var rfl (Go.c (v_lt (GoA.nil ⟨Nat.le_of_ble_eq_true rfl, ?_⟩)))))))
      have e : ys.all (judge false) = decide (s < 0) := by
        rw [a1]
        by_cases h : s < 0
        · rw [decide_eq_true h, decide_eq_false (by omega)]
          rfl
        · rw [decide_eq_false h, decide_eq_true (by omega)]
          rfl
      refine ⟨ys, m', ?_, a2, fun h => ?_, a3, by show m' ≤ n + 400; omega, rfl⟩
      · rw [← e]
        show tup K [tup K (ys.map (dA K)), _] = tup K [tup K (dAs K ys), _]
        rw [dAs_map]
      · show ys.all (judge false) = true
        rw [e, hw h]
        rfl

/-! ### _law_response -/
theorem dBs_le {b : Nat} : ∀ {xs : List DT}, (∀ d ∈ xs, dB d ≤ b) → dBs xs ≤ xs.length * (b + 1)
  | [], _ => Nat.zero_le _
  | x :: r, h => by
    have h1 := h x List.mem_cons_self
    have h2 := dBs_le fun d hd => h d (List.mem_cons_of_mem _ hd)
    show dB x + 1 + dBs r ≤ _
    rw [List.length_cons, Nat.succ_mul]
    omega
theorem dEs_le {b : Nat} : ∀ {xs : List DT}, (∀ d ∈ xs, dE d ≤ b) → dEs xs ≤ b
  | [], _ => Nat.zero_le _
  | x :: r, h => by
    have h1 := h x List.mem_cons_self
    have h2 := dEs_le fun d hd => h d (List.mem_cons_of_mem _ hd)
    show max (dE x) (dEs r) ≤ b
    omega
theorem sz_tup {xs : List DT} {c : Nat} (hc : xs.length ≤ c) (h6 : c ≤ 6) (h : ∀ d ∈ xs, Sz d 500 3) : dK (.t xs) = true ∧ dBs xs ≤ 3006 ∧ dEs xs ≤ 3 := by
  refine ⟨?_, ?_, dEs_le fun d hd => (h d hd).dp⟩
  · show (decide (xs.length ≤ 100) && dKs xs) = true
    rw [decide_eq_true (by omega), dKs_of fun d hd => (h d hd).ok]
    rfl
  · have h1 := dBs_le fun d hd => (h d hd).bk
    have h2 := Nat.mul_le_mul_right 501 (show xs.length ≤ 6 by omega)
    omega
def formOf (xs ps : List DT) (y : DT) : Nat → DT
  | 3 => .t [.l xs, y, .t ps]
  | 4 => .t [.t xs, y, .l ps]
  | 5 => .t [.t xs, y]
  | 6 => .n
  | _ => .t [.t xs, y, .t ps]
abbrev formIx : List Int := [0, 0, 0, 1, 2, 3, 4, 0, 0, 0, 0, 0]
abbrev formsL (xs ps : List DT) (y : DT) : List DT := [.t [.t xs, y, .t ps], .t [.l xs, y, .t ps], .t [.t xs, y, .l ps], .t [.t xs, y], .n]
theorem form_at {K : PySem.W.Frag} (xs ps : List DT) (y : DT) : ∀ j : Nat, j < 12 → ∃ e : Int, atI (formIx.map it) (j : Int) = some (it e) ∧ atI (dAs K (formsL xs ps y)) e = some (dA K (formOf xs ps y j))
  | 0, _ => ⟨0, rfl, rfl⟩
  | 1, _ => ⟨0, rfl, rfl⟩
  | 2, _ => ⟨0, rfl, rfl⟩
  | 3, _ => ⟨1, rfl, rfl⟩
  | 4, _ => ⟨2, rfl, rfl⟩
  | 5, _ => ⟨3, rfl, rfl⟩
  | 6, _ => ⟨4, rfl, rfl⟩
  | 7, _ => ⟨0, rfl, rfl⟩
  | 8, _ => ⟨0, rfl, rfl⟩
  | 9, _ => ⟨0, rfl, rfl⟩
  | 10, _ => ⟨0, rfl, rfl⟩
  | 11, _ => ⟨0, rfl, rfl⟩
  | j + 12, h => absurd h (by omega)
theorem form_ans {xs ps : List DT} {y : DT} {q : Bool} (hq : (isNB y || isAdr y) = q) : ∀ j : Nat, (xs.all lineB && (ps.all partB6 && (q && (decide ((xs.length : Int) < 6) && (decide ((ps.length : Int) < 5) && !decide ((j : Int) ∈ ([3, 4, 5, 6] : List Int))))))) = ansB (formOf xs ps y j) := by
  have h0 : (xs.all lineB && (ps.all partB6 && (q && (decide ((xs.length : Int) < 6) && (decide ((ps.length : Int) < 5) && true))))) = ansB (.t [.t xs, y, .t ps]) := by
    show _ = ((decide (xs.length ≤ 5) && xs.all lineB) && ((isNB y || isAdr y) && (decide (ps.length ≤ 4) && ps.all partB6)))
    rw [hq, show decide ((xs.length : Int) < 6) = decide (xs.length ≤ 5) from decide_eq_decide.mpr (by omega), show decide ((ps.length : Int) < 5) = decide (ps.length ≤ 4) from decide_eq_decide.mpr (by omega)]
    cases xs.all lineB <;> cases ps.all partB6 <;> cases q <;> cases decide (xs.length ≤ 5) <;> cases decide (ps.length ≤ 4) <;> rfl
  have hz : ∀ {z : Bool}, z = false → (xs.all lineB && (ps.all partB6 && (q && (decide ((xs.length : Int) < 6) && (decide ((ps.length : Int) < 5) && z))))) = false := fun h => by rw [h]; simp
  intro j
  match j with
  | 3 => exact hz (by decide)
  | 4 =>
    rw [hz (by decide)]
    show false = (linesB (.t xs) && ((isNB y || isAdr y) && false))
    simp
  | 5 => exact hz (by decide)
  | 6 => exact hz (by decide)
  | 0 => exact h0
  | 1 => exact h0
  | 2 => exact h0
  | j + 7 =>
    rw [show (!decide (((j + 7 : Nat) : Int) ∈ ([3, 4, 5, 6] : List Int))) = true from by
      rw [decide_eq_false (by simp only [List.mem_cons, List.not_mem_nil, or_false]; omega)]; rfl]
    exact h0
theorem form_item {xs ps : List DT} {y : DT} (h : xs.length ≠ 3) : ∀ j, itemB (formOf xs ps y j) = false := by
  intro j
  match j with
  | 5 =>
    show (isAdr (.t xs) && ansB y) = false
    rw [show isAdr (.t xs) = false from by
      match xs, h with
      | [], _ => rfl
      | [_], _ => rfl
      | [_, _], _ => rfl
      | [_, _, _], h => exact absurd rfl h
      | _ :: _ :: _ :: _ :: _, _ => rfl]
    rfl
  | 0 => rfl
  | 1 => rfl
  | 2 => rfl
  | 3 => rfl
  | 4 => rfl
  | 6 => rfl
  | j + 7 => rfl
theorem form_sz {xs ps : List DT} {y : DT} (hx : dK (.t xs) = true ∧ dBs xs ≤ 3006 ∧ dEs xs ≤ 3) (hp : dK (.t ps) = true ∧ dBs ps ≤ 3006 ∧ dEs ps ≤ 3) (hy : Sz y 300 2) : ∀ j, Sz (formOf xs ps y j) 7000 5 := by
  have k1 : ∀ {a b : DT}, dK a = true → dK b = true → dK (.t [a, y, b]) = true := fun {a b} h1 h2 => by
    show (decide (3 ≤ 100) && (dK a && (dK y && (dK b && true)))) = true
    rw [h1, hy.ok, h2]
    rfl
  have b1 := hx.2.1
  have b2 := hp.2.1
  have b3 := hy.bk
  have e1 := hx.2.2
  have e2 := hp.2.2
  have e3 := hy.dp
  have h0 : Sz (.t [.t xs, y, .t ps]) 7000 5 := ⟨k1 hx.1 hp.1, by show dBs xs + 1 + (dB y + 1 + (dBs ps + 1 + 0)) ≤ 7000; omega, by show max (dEs xs + 1) (max (dE y) (max (dEs ps + 1) 0)) + 1 ≤ 5; omega⟩
  intro j
  match j with
  | 3 => exact ⟨k1 hx.1 hp.1, by show dBs xs + 1 + (dB y + 1 + (dBs ps + 1 + 0)) ≤ 7000; omega, by show max (dEs xs + 1) (max (dE y) (max (dEs ps + 1) 0)) + 1 ≤ 5; omega⟩
  | 4 => exact ⟨k1 hx.1 hp.1, by show dBs xs + 1 + (dB y + 1 + (dBs ps + 1 + 0)) ≤ 7000; omega, by show max (dEs xs + 1) (max (dE y) (max (dEs ps + 1) 0)) + 1 ≤ 5; omega⟩
  | 5 =>
    refine ⟨?_, by show dBs xs + 1 + (dB y + 1 + 0) ≤ 7000; omega, by show max (dEs xs + 1) (max (dE y) 0) + 1 ≤ 5; omega⟩
    show (decide (2 ≤ 100) && (dK (.t xs) && (dK y && true))) = true
    rw [hx.1, hy.ok]
    rfl
  | 6 => exact ⟨rfl, by show 0 ≤ 7000; omega, by show 0 ≤ 5; omega⟩
  | 0 => exact h0
  | 1 => exact h0
  | 2 => exact h0
  | j + 7 => exact h0
abbrev sp__law_response (T : Txt K mg w) : Sp := SpG (fun a : Addr × Nat => a.2 ≤ 70000000) (fun a => [pt a.1]) (fun a => [(a.1, .dr a.2)]) (fun a A O' => ∃ (d : DT) (m : Nat), A = tup K [dA K d, bo (ansB d)] ∧ itemB d = false ∧ Sz d 7000 5 ∧ m ≤ a.2 + 1000 ∧ O' = [(a.1, .dr m)])
theorem Go.someR {w : World} {K : PySem.W.Frag} {mg : Str → Option Value} {T : Txt K mg w} {L : LL} {O : OO} {k : As → OO → Prop} {X : XK} {t : TA} (h : GoA L O t fun l O1 => ∃ a : SomeV, l = [pt a.D, it (a.c : Int), bo a.w, pt (madeF T a.f)] ∧ O1 = [(a.D, .dr a.n)] ∧ (a.n ≤ 80000000 ∧ a.c ≤ 6) ∧ Keep (∀ (xs : List DT) (m : Nat), xs.length = a.c → (a.w = false → xs.all (judge a.f) = true) → (∀ d ∈ xs, Sz d 500 3) → m ≤ a.n + 400 → k (tup K [dA K (.t xs), bo (xs.all (judge a.f))]) [(a.D, .dr m)])) : Go L O (tCall (sp__law_some T) [] X t) k :=
  Go.call (fun a => dr1) fun E G0 H0 σ G H Q f' s z => h _ _ _ _ _ _ _ f' s fun l O' G' H' vs q => z _ _ _ _ _ (by
    obtain ⟨a, rfl, rfl, hp, q⟩ := q
    refine ⟨a, [], rfl, rfl, hp, ?_⟩
    rintro A O2 ⟨xs, m, rfl, h1, h2, h3, h4, rfl⟩
    exact q.out xs m h1 h2 h3 h4)
theorem ok__law_response (T : Txt K mg w) : FnOk P w K mg base CX0 7 T.f__law_response T.d__law_response ["_law_state"] (sp__law_response T) := by
  refine fn_sy T.F__law_response sc__law_response (fun _ _ => rfl) fun a cdv A outer s H E hr hp => ⟨_, (pss_cons (ps_set (i := 1) sc__law_response.nd rfl (.inl rfl) (pe_call (ok__law_digit (P := P) T) (hr.mono (by decide)) (by rfl) T.g__law_digit T.F__law_digit.kp T.b__law_digit .nil pass0 (pa_cons (pv 0) (pa_cons pe_int pa_nil))))
      (pss_cons (ps_set (i := 2) sc__law_response.nd rfl (.inl rfl) (pe_ix (kIxL (K := K) rfl) (pe_lst (pa_cons pe_int (pa_cons pe_int (pa_cons pe_int (pa_cons pe_int (pa_cons pe_int pa_nil)))))) (pe_call (ok__law_digit (P := P) T) (hr.mono (by decide)) (by rfl) T.g__law_digit T.F__law_digit.kp T.b__law_digit .nil pass0 (pa_cons (pv 0) (pa_cons pe_int pa_nil))) (fun _ _ => rfl)))
      (pss_cons (ps_asg (pe_call (ok__law_some (P := P) T) (hr.mono (by decide)) (by rfl) T.g__law_some T.F__law_some.kp T.b__law_some .nil pass0 (pa_cons (pv 0) (pa_cons (pv 2) (pa_cons (pe_cmpR op_eq (pv 1) pe_int (nomark _)) (pa_cons (pe_glob (v := .ref T.f__law_one_line) (by rfl) T.g__law_one_line rfl) pa_nil))))) (kgTup (K := K) (n := 2) rfl rfl (pgs_cons (pg_name (i := 3) sc__law_response.nd rfl (.inl rfl)) (pgs_cons (pg_name (i := 4) sc__law_response.nd rfl (.inl rfl)) pgs_nil)) rfl rfl))
      (pss_cons (ps_set (i := 5) sc__law_response.nd rfl (.inl rfl) (pe_ix (kIxL (K := K) rfl) (pe_lst (pa_cons pe_int (pa_cons pe_int (pa_cons pe_int (pa_cons pe_int (pa_cons pe_int pa_nil)))))) (pe_call (ok__law_digit (P := P) T) (hr.mono (by decide)) (by rfl) T.g__law_digit T.F__law_digit.kp T.b__law_digit .nil pass0 (pa_cons (pv 0) (pa_cons pe_int pa_nil))) (fun _ _ => rfl)))
      (pss_cons (ps_asg (pe_call (ok__law_some (P := P) T) (hr.mono (by decide)) (by rfl) T.g__law_some T.F__law_some.kp T.b__law_some .nil pass0 (pa_cons (pv 0) (pa_cons (pv 5) (pa_cons (pe_cmpR op_eq (pv 1) pe_int (nomark _)) (pa_cons (pe_glob (v := .ref T.f__law_one_part) (by rfl) T.g__law_one_part rfl) pa_nil))))) (kgTup (K := K) (n := 2) rfl rfl (pgs_cons (pg_name (i := 6) sc__law_response.nd rfl (.inl rfl)) (pgs_cons (pg_name (i := 7) sc__law_response.nd rfl (.inl rfl)) pgs_nil)) rfl rfl))
      (pss_cons (ps_set (i := 8) sc__law_response.nd rfl (.inl rfl) (pe_ifExp (PW.pt (pw_or (pt_cmpR op_eq (pv 1) pe_int (nomark _)) (pw_or1 (pt_cmpR op_eq (pe_call (ok__law_digit (P := P) T) (hr.mono (by decide)) (by rfl) T.g__law_digit T.F__law_digit.kp T.b__law_digit .nil pass0 (pa_cons (pv 0) (pa_cons pe_int pa_nil))) pe_int (nomark _))))) (pe_call (ok__law_place (P := P) T) (hr.mono (by decide)) (by rfl) T.g__law_place T.F__law_place.kp T.b__law_place .nil pass0 (pa_cons (pv 0) (pa_cons (pe_cmpR op_ne (pv 1) pe_int (nomark _)) pa_nil))) pe_non))
      (pss_cons (ps_set (i := 9) sc__law_response.nd rfl (.inl rfl) (pe_or (pe_cmpR op_isN (pv 8) pe_non (nomark _)) (pe_one (pe_cmpR op_ne (pv 1) pe_int (nomark _)))))
      (pss_cons (ps_set (i := 10) sc__law_response.nd rfl (.inl rfl) (pe_lst (pa_cons (pe_tup (pa_cons (pv 3) (pa_cons (pv 8) (pa_cons (pv 6) pa_nil)))) (pa_cons (pe_tup (pa_cons (pe_callTy (kLstB (K := K) rfl) (by rfl) T.n_list (by decide +kernel) (pa_cons (pv 3) pa_nil)) (pa_cons (pv 8) (pa_cons (pv 6) pa_nil)))) (pa_cons (pe_tup (pa_cons (pv 3) (pa_cons (pv 8) (pa_cons (pe_callTy (kLstB (K := K) rfl) (by rfl) T.n_list (by decide +kernel) (pa_cons (pv 6) pa_nil)) pa_nil)))) (pa_cons (pe_tup (pa_cons (pv 3) (pa_cons (pv 8) pa_nil))) (pa_cons pe_non pa_nil)))))))
      (pss_cons (ps_set (i := 11) sc__law_response.nd rfl (.inl rfl) (pe_ix (kIxL (K := K) rfl) (pv 10) (pe_ix (kIxL (K := K) rfl) (pe_lst (pa_cons pe_int (pa_cons pe_int (pa_cons pe_int (pa_cons pe_int (pa_cons pe_int (pa_cons pe_int (pa_cons pe_int (pa_cons pe_int (pa_cons pe_int (pa_cons pe_int (pa_cons pe_int (pa_cons pe_int pa_nil))))))))))))) (pv 1) (fun _ _ => rfl)) (fun _ _ => rfl)))
      (pss_one (ps_ret (pe_tup (pa_cons (pv 11) (pa_cons (pe_and (pv 4) (pe_and (pv 7) (pe_and (pv 9) (pe_and (pe_cmpR op_lt (pv 2) pe_int (nomark _)) (pe_and (pe_cmpR op_lt (pv 5) pe_int (nomark _)) (pe_one (pe_cmpR (kNi (K := K) rfl) (pv 1) (pe_tup (pa_cons pe_int (pa_cons pe_int (pa_cons pe_int (pa_cons pe_int pa_nil))))) (by rfl)))))))) pa_nil)))))))))))))), ?_⟩
  obtain ⟨D, n⟩ := a
  have hp : n ≤ 70000000 := hp
  show GoS [some (pt D), none, none, none, none, none, none, none, none, none, none, none] [(D, .dr n)] _ _
  refine GoS.seq (GoS.set (Go.digit (GoA.cons (Go.var rfl (GoA.cons (Go.c (GoA.nil ⟨D, 12, n, [], rfl, rfl, ⟨by decide, by decide, by omega⟩, fun w w0 w1 => ?_⟩)))))))
  obtain ⟨j, rfl⟩ := Int.eq_ofNat_of_zero_le w0
  have hj : j < 12 := by omega
  show GoS [some (pt D), some (it (j : Int)), none, none, none, none, none, none, none, none, none, none] [(D, .dr (n + 4))] _ _
  refine GoS.seq (GoS.set (Go.op (Go.lst (K := K) ?_)))
  walk_at "cj10"
  refine v_ixLany (xs := [it 0, it 1, it 2, it 5, it 6]) l9 u9 fun A hA => ?_
  obtain ⟨c, hc6, hc3, rfl⟩ : ∃ c : Nat, c ≤ 6 ∧ c ≠ 3 ∧ A = it (c : Int) := by
    simp only [List.mem_cons, List.not_mem_nil, or_false] at hA
    rcases hA with rfl | rfl | rfl | rfl | rfl
    · exact ⟨0, by decide, by decide, rfl⟩
    · exact ⟨1, by decide, by decide, rfl⟩
    · exact ⟨2, by decide, by decide, rfl⟩
    · exact ⟨5, by decide, by decide, rfl⟩
    · exact ⟨6, by decide, by decide, rfl⟩
  clear hA
  show GoS [some (pt D), some (it (j : Int)), some (it (c : Int)), none, none, none, none, none, none, none, none, none] [(D, .dr (n + 8))] _ _
  refine GoS.seq (GoS.asg (Go.someR (GoA.cons (Go.var rfl (GoA.cons (Go.var rfl (GoA.cons (Go.op (Go.var rfl (Go.c (v_eqI (GoA.cons (Go.c (GoA.nil ⟨⟨D, n + 8, c, decide ((j : Int) = 0), true⟩, rfl, rfl, ⟨by show n + 8 ≤ 80000000; omega, hc6⟩, Keep.mk fun xs m1 x1 x2 x3 hm1 => ?_⟩))))))))))))))
  have x1 : xs.length = c := x1
  have hm1 : m1 ≤ n + 8 + 400 := hm1
  refine GoG.tup rfl (GoGs.cons (GoG.name (GoGs.cons (GoG.name (GoGs.nil ?_)))))
  show GoS [some (pt D), some (it (j : Int)), some (it (c : Int)), some (dA K (.t xs)), some (bo (xs.all lineB)), none, none, none, none, none, none, none] [(D, .dr m1)] _ _
  refine GoS.seq (GoS.set (Go.op (Go.lst (K := K) ?_)))
  walk_at "cj10"
  refine v_ixLany (xs := [it 0, it 1, it 2, it 4, it 5]) l9 u9 fun A hA => ?_
  obtain ⟨c2, hd6, rfl⟩ : ∃ c : Nat, c ≤ 6 ∧ A = it (c : Int) := by
    simp only [List.mem_cons, List.not_mem_nil, or_false] at hA
    rcases hA with rfl | rfl | rfl | rfl | rfl
    · exact ⟨0, by decide, rfl⟩
    · exact ⟨1, by decide, rfl⟩
    · exact ⟨2, by decide, rfl⟩
    · exact ⟨4, by decide, rfl⟩
    · exact ⟨5, by decide, rfl⟩
  clear hA
  show GoS [some (pt D), some (it (j : Int)), some (it (c : Int)), some (dA K (.t xs)), some (bo (xs.all lineB)), some (it (c2 : Int)), none, none, none, none, none, none] [(D, .dr (m1 + 4))] _ _
  refine GoS.seq (GoS.asg (Go.someR (GoA.cons (Go.var rfl (GoA.cons (Go.var rfl (GoA.cons (Go.op (Go.var rfl (Go.c (v_eqI (GoA.cons (Go.c (GoA.nil ⟨⟨D, m1 + 4, c2, decide ((j : Int) = 1), false⟩, rfl, rfl, ⟨by show m1 + 4 ≤ 80000000; omega, hd6⟩, Keep.mk fun ps m2 y1 y2 y3 hm2 => ?_⟩))))))))))))))
  have y1 : ps.length = c2 := y1
  have hm2 : m2 ≤ m1 + 4 + 400 := hm2
  refine GoG.tup rfl (GoGs.cons (GoG.name (GoGs.cons (GoG.name (GoGs.nil ?_)))))
  show GoS [some (pt D), some (it (j : Int)), some (it (c : Int)), some (dA K (.t xs)), some (bo (xs.all lineB)), some (it (c2 : Int)), some (dA K (.t ps)), some (bo (ps.all partB6)), none, none, none, none] [(D, .dr m2)] _ _
  refine GoS.seq (GoS.mid (fun L' O' => ∃ (y : DT) (m3 : Nat), L' = [some (pt D), some (it (j : Int)), some (it (c : Int)), some (dA K (.t xs)), some (bo (xs.all lineB)), some (it (c2 : Int)), some (dA K (.t ps)), some (bo (ps.all partB6)), some (dA K y), none, none, none] ∧ O' = [(D, .dr m3)] ∧ Sz y 300 2 ∧ (isNB y || isAdr y) = (isNB y || !decide ((j : Int) = 2)) ∧ m3 ≤ m2 + 100) ?_ ?_)
  · have pl : ∀ m : Nat, m ≤ m2 + 4 → Go [some (pt D), some (it (j : Int)), some (it (c : Int)), some (dA K (.t xs)), some (bo (xs.all lineB)), some (it (c2 : Int)), some (dA K (.t ps)), some (bo (ps.all partB6)), none, none, none, none] [(D, .dr m)] (tCall (sp__law_place K) [] E0 (tCons (tVar 0) (tCons (tOp rNe (tVar 1) (tC (.int 2))) tNil))) fun A O1 => ∃ (y : DT) (m3 : Nat), setL [some (pt D), some (it (j : Int)), some (it (c : Int)), some (dA K (.t xs)), some (bo (xs.all lineB)), some (it (c2 : Int)), some (dA K (.t ps)), some (bo (ps.all partB6)), none, none, none, none] 8 A = [some (pt D), some (it (j : Int)), some (it (c : Int)), some (dA K (.t xs)), some (bo (xs.all lineB)), some (it (c2 : Int)), some (dA K (.t ps)), some (bo (ps.all partB6)), some (dA K y), none, none, none] ∧ O1 = [(D, .dr m3)] ∧ Sz y 300 2 ∧ (isNB y || isAdr y) = (isNB y || !decide ((j : Int) = 2)) ∧ m3 ≤ m2 + 100 := fun m hm => by
      refine Go.made (GoA.cons (Go.var rfl (GoA.cons (Go.op (Go.var rfl (Go.c (v_neI (GoA.nil ⟨D, m, _, [], rfl, rfl, by omega, Keep.mk fun y m3 h1 h2 h3 => ?_⟩))))))))
      exact ⟨y, m3, rfl, rfl, h2, by rw [h1], by omega⟩
    refine GoS.set (Go.ite (GoT.or (GoT.test (Go.op (Go.var rfl (Go.c (v_eqI ⟨_, rfl, fun z => ⟨fun _ => pl m2 (by omega), fun z => (by cases z)⟩, fun z => ?_⟩)))))))
    refine GoT.test (Go.op (Go.digit (GoA.cons (Go.var rfl (GoA.cons (Go.c (GoA.nil ⟨D, 2, m2, [], rfl, rfl, ⟨by decide, by decide, by omega⟩, fun i i0 i1 => Go.c (v_eqI ⟨_, rfl, fun z2 => pl (m2 + 4) (Nat.le_refl _), fun z2 => Go.c ?_⟩)⟩)))))))
    exact ⟨.n, m2 + 4, rfl, rfl, ⟨rfl, by show 0 ≤ 300; omega, by show 0 ≤ 2; omega⟩, rfl, by omega⟩
  rintro _ _ ⟨y, m3, rfl, rfl, hy, hq, hm3⟩
  show GoS _ _ _ _
  refine GoS.seq (GoS.set (Go.orVJ (p := isNB y) (q := !decide ((j : Int) = 2)) (Go.op (Go.var rfl (Go.c (v_isND y ⟨rfl, rfl⟩)))) (fun _ => Go.op (Go.var rfl (Go.c (v_neI ⟨rfl, rfl⟩)))) ?_))
  generalize hqq : (isNB y || !decide ((j : Int) = 2)) = q at hq
  show GoS [some (pt D), some (it (j : Int)), some (it (c : Int)), some (dA K (.t xs)), some (bo (xs.all lineB)), some (it (c2 : Int)), some (dA K (.t ps)), some (bo (ps.all partB6)), some (dA K y), some (bo q), none, none] [(D, .dr m3)] _ _
  refine GoS.seq (GoS.set (Go.lst (K := K) (GoA.cons (Go.tup (K := K) (GoA.cons (Go.var rfl (GoA.cons (Go.var rfl (GoA.cons (Go.var rfl (GoA.nil ⟨Nat.le_of_ble_eq_true rfl, ?_⟩)))))))))))
  refine GoA.cons (Go.tup (K := K) (GoA.cons (Go.cb (GoA.cons (Go.var rfl (GoA.nil (v_lstTB (GoA.cons (Go.var rfl (GoA.cons (Go.var rfl (GoA.nil ⟨Nat.le_of_ble_eq_true rfl, ?_⟩))))))))))))
  refine GoA.cons (Go.tup (K := K) (GoA.cons (Go.var rfl (GoA.cons (Go.var rfl (GoA.cons (Go.cb (GoA.cons (Go.var rfl (GoA.nil (v_lstTB (GoA.nil ⟨Nat.le_of_ble_eq_true rfl, ?_⟩))))))))))))
  refine GoA.cons (Go.tup (K := K) (GoA.cons (Go.var rfl (GoA.cons (Go.var rfl (GoA.nil ⟨Nat.le_of_ble_eq_true rfl, ?_⟩))))))
  refine GoA.cons (Go.c (GoA.nil ⟨Nat.le_of_ble_eq_true rfl, ?_⟩))
  show GoS [some (pt D), some (it (j : Int)), some (it (c : Int)), some (dA K (.t xs)), some (bo (xs.all lineB)), some (it (c2 : Int)), some (dA K (.t ps)), some (bo (ps.all partB6)), some (dA K y), some (bo q), some (lst K (dAs K (formsL xs ps y))), none] [(D, .dr m3)] _ _
  obtain ⟨e, f1, f2⟩ := form_at (K := K) xs ps y j hj
  refine GoS.seq (GoS.set (Go.op (Go.var rfl (Go.op (Go.lst (K := K) ?_)))))
  walk_at "cj10"
  refine v_ixL (xs := formIx.map it) f1 (v_ixL f2 ?_)
  show GoS [some (pt D), some (it (j : Int)), some (it (c : Int)), some (dA K (.t xs)), some (bo (xs.all lineB)), some (it (c2 : Int)), some (dA K (.t ps)), some (bo (ps.all partB6)), some (dA K y), some (bo q), some (lst K (dAs K (formsL xs ps y))), some (dA K (formOf xs ps y j))] [(D, .dr m3)] _ _
  refine GoS.ret (Go.tup (K := K) (GoA.cons (Go.var rfl (GoA.cons (Go.join (A := bo (ansB (formOf xs ps y j))) ?_ (GoA.nil ⟨Nat.le_of_ble_eq_true rfl, formOf xs ps y j, m3, rfl, form_item (by omega) j, form_sz (sz_tup (Nat.le_of_eq x1) hc6 x3) (sz_tup (Nat.le_of_eq y1) hd6 y3) hy j, by show m3 ≤ n + 1000; omega, rfl⟩))))))
  rw [← form_ans hq j]
  refine Go.andVJ (p := xs.all lineB) (q := ps.all partB6 && (q && (decide ((xs.length : Int) < 6) && (decide ((ps.length : Int) < 5) && !decide ((j : Int) ∈ ([3, 4, 5, 6] : List Int)))))) (Go.var rfl ⟨rfl, rfl⟩) (fun _ => Go.andVJ (p := ps.all partB6) (q := q && (decide ((xs.length : Int) < 6) && (decide ((ps.length : Int) < 5) && !decide ((j : Int) ∈ ([3, 4, 5, 6] : List Int))))) (Go.var rfl ⟨rfl, rfl⟩) (fun _ => Go.andVJ (p := q) (q := decide ((xs.length : Int) < 6) && (decide ((ps.length : Int) < 5) && !decide ((j : Int) ∈ ([3, 4, 5, 6] : List Int)))) (Go.var rfl ⟨rfl, rfl⟩) (fun _ => Go.andVJ (p := decide ((xs.length : Int) < 6)) (q := decide ((ps.length : Int) < 5) && !decide ((j : Int) ∈ ([3, 4, 5, 6] : List Int))) ?_ (fun _ => Go.andVJ (p := decide ((ps.length : Int) < 5)) (q := !decide ((j : Int) ∈ ([3, 4, 5, 6] : List Int))) ?_ (fun _ => ?_) ⟨rfl, rfl⟩) ⟨rfl, rfl⟩) ⟨rfl, rfl⟩) ⟨rfl, rfl⟩) ⟨rfl, rfl⟩
  · rw [x1]
    exact Go.op (Go.var rfl (Go.c (v_lt ⟨rfl, rfl⟩)))
  · rw [y1]
    exact Go.op (Go.var rfl (Go.c (v_lt ⟨rfl, rfl⟩)))
  · exact Go.op (Go.var rfl (Go.tup (K := K) (GoA.cons (Go.c (GoA.cons (Go.c (GoA.cons (Go.c (GoA.cons (Go.c (GoA.nil ⟨Nat.le_of_ble_eq_true rfl, v_niTI (ns := [3, 4, 5, 6]) ⟨rfl, rfl⟩⟩)))))))))))

/-! ### _law_error -/
theorem GoWT.test {L : LL} {O : OO} {W : WX} {x : XP} {te : TE} {kb : Bool → OO → Prop} (h : GoW W x L O te fun A O1 => ∃ b, A = bo b ∧ kb b O1) : GoWT W x L O (tTest te) kb := fun E G0 H0 σ G H Q f s z c =>
  h _ _ _ _ _ _ _ f s (fun A O1 G1 H1 x hr f1 s1 a => by
    obtain ⟨b, rfl, hk⟩ := hr
    exact ⟨b, a, z _ _ _ _ hk f1 s1⟩) c
def errL (d : DT) : List As := match tabBad d with
  | none => []
  | some o => [idxA o]
abbrev sp__law_error (T : Txt K mg w) : Sp := SpP (fun d : DT => dK d = true) (fun d => [dA K d]) (fun d => lst K (errL d))
theorem ok__law_error (T : Txt K mg w) : FnOk P w K mg base CX0 11 T.f__law_error T.d__law_error ["_law_value"] (sp__law_error T) := by
  refine fn_sy T.F__law_error sc__law_error (fun _ _ => rfl) fun a cdv A outer s H E hr hp => ⟨_, (pss_cons (ps_set (i := 1) sc__law_error.nd rfl (.inl rfl) pe_non)
      (pss_cons (ps_tryV (K := K) rfl rfl rfl rfl sc__law_error.nd takes0
      (fun W pn xe tk po => (pss_one (ps_if (pt_cmpR op_notN (pe_callS (ok_check_table (P := P) T) (hr.mono (by decide)) (by rfl) T.g_check_table T.F_check_table.kp T.b_check_table (fun σ => passAt tk σ) (pa_cons (pv 0) pa_nil)) pe_non (nomark _))
      (pss_one (ps_ret (pe_lst (pa_cons pe_str pa_nil))))
      pss_nil)))
      (ExS.HdV.cons (i := 2) ⟨by rfl, by decide, Or.inl T.B_CrumbError.g⟩ rfl rfl (fun ea pn => (pss_one (ps_set (i := 1) sc__law_error.nd rfl (.inl rfl) (pv 2)))) ExS.HdV.nil))
      (pss_cons (ps_if (pt_cmpR op_isN (pv 1) pe_non (nomark _))
      (pss_one (ps_ret (pe_lst pa_nil)))
      pss_nil)
      (pss_one (ps_ret (pe_ifExp (pt_val (pe_callB (ExS.kIsV (K := K) rfl) (by rfl) T.n_isinstance (by decide +kernel) (pa_cons (pv 1) (pa_cons (pe_glob (v := .ref T.C_BadTable) (by rfl) T.E_BadTable.g rfl) pa_nil)))) (pe_lst (pa_cons (ExS.pe_xv (K := K) rfl (pv 1)) pa_nil)) (pe_lst (pa_cons pe_str pa_nil)))))))), ?_⟩
  show GoS [some (dA K a), none, none] [] _ _
  refine GoS.seq (GoS.set (Go.c ?_))
  show GoS [some (dA K a), some no, none] [] _ _
  refine GoS.seq (GoS.tryV fun W' => GoSW.ite (GoWT.test (GoW.op (GoW.call (fun _ _ h => nomatch h) (GoWA.up (GoA.cons (Go.var rfl (GoA.nil ⟨a, [], rfl, rfl, hp, fun cls fs O' q => ?_, fun A O' q => ?_⟩))))))))
  · obtain ⟨o, e1, rfl, rfl, rfl⟩ := q
    have e2 : errL a = [idxA o] := by unfold errL; rw [e1]
    refine ⟨true, T.B_CrumbError.exm T.y_BadTable_CrumbError, fun _ => ?_, fun z => (by cases z)⟩
    refine GoS.set (Go.var rfl ?_)
    show GoS [some (dA K a), some (exV (.ref T.C_BadTable) [(("index" : Str), idxA o)]), none] [] _ _
    refine GoS.seq (GoS.ifF (GoT.test (Go.op (Go.var rfl (Go.c (v_isNV ⟨_, rfl, rfl, rfl⟩))))) (GoS.nil ?_))
    show GoS [some (dA K a), some (exV (.ref T.C_BadTable) [(("index" : Str), idxA o)]), none] [] _ _
    refine GoS.ret (Go.ifT (GoT.b (Go.cb (GoA.cons (Go.var rfl (GoA.cons (Go.c (GoA.nil (v_isV T.X_BadTable (b := true) ExS.kit_self ⟨_, rfl, rfl, rfl⟩)))))))) ?_)
    refine Go.lst (K := K) (GoA.cons (Go.xv T.E_BadTable.xf T.E_BadTable.no (Go.var rfl ⟨rfl, rfl, GoA.nil ⟨Nat.le_of_ble_eq_true rfl, ?_, rfl⟩⟩)))
    show lst K [idxA o] = lst K (errL a)
    rw [e2]
  · obtain ⟨e1, rfl, rfl⟩ := q
    have e2 : errL a = [] := by unfold errL; rw [e1]
    refine GoW.up (Go.c (v_notN (x := .non) ⟨_, rfl, fun z => (by cases z), fun _ => GoSW.up (GoS.nil ?_)⟩))
    show GoS [some (dA K a), some no, none] [] _ _
    refine GoS.seq (GoS.ifT (GoT.test (Go.op (Go.var rfl (Go.c (v_isN (x := .non) ⟨_, rfl, rfl, rfl⟩))))) (GoS.ret (Go.lst (K := K) (GoA.nil ⟨Nat.le_of_ble_eq_true rfl, ?_, rfl⟩))))
    show lst K [] = lst K (errL a)
    rw [e2]

/-! ### _law_item -/
/-- the place of the item of a number -/
def hPl (i : Int) : DT := .t [.s [104, 116, 116, 112, 115], .s (([104] ++ numS i) ++ [46, 99, 111, 109]), .s [47]]
theorem hPl_tab : ∀ j ∈ List.range 33, isAdr (hPl (j : Int)) = true ∧ szB 40 1 (hPl (j : Int)) = true := by decide +kernel
theorem hPl_ne : ∀ i ∈ List.range 33, ∀ j ∈ List.range 33, PyData.eqv (dP (hPl (i : Int))) (dP (hPl (j : Int))) = decide (i = j) := by decide +kernel
abbrev sp__law_item (K : PySem.W.Frag) : Sp := SpG (fun a : Addr × Nat × Nat => a.2.1 ≤ 60000000 ∧ a.2.2 ≤ 30) (fun a => [pt a.1, it (a.2.2 : Int)]) (fun a => [(a.1, .dr a.2.1)]) (fun a A O' => ∃ (d : DT) (m : Nat), A = tup K [dA K d, bo (itemB d)] ∧ (itemB d = true → ∃ y, d = .t [hPl (a.2.2 : Int), y]) ∧ Sz d 8000 6 ∧ m ≤ a.2.1 + 2000 ∧ O' = [(a.1, .dr m)])
theorem ok__law_item (T : Txt K mg w) : FnOk P w K mg base CX0 8 T.f__law_item T.d__law_item ["_law_state", "_law_at"] (sp__law_item K) := by
  refine fn_sy T.F__law_item sc__law_item (fun _ _ => rfl) fun a cdv A outer s H E hr hp => ⟨_, (pss_cons (ps_asg (pe_call (ok__law_response (P := P) T) (hr.mono (by decide)) (by rfl) T.g__law_response T.F__law_response.kp T.b__law_response .nil pass0 (pa_cons (pv 0) pa_nil)) (kgTup (K := K) (n := 2) rfl rfl (pgs_cons (pg_name (i := 2) sc__law_item.nd rfl (.inl rfl)) (pgs_cons (pg_name (i := 3) sc__law_item.nd rfl (.inl rfl)) pgs_nil)) rfl rfl))
      (pss_cons (ps_set (i := 4) sc__law_item.nd rfl (.inl rfl) (pe_tup (pa_cons pe_str (pa_cons (pe_op op_add_str (pe_op op_add_str pe_str (pe_callTy call_str_int (by rfl) T.n_str (by decide +kernel) (pa_cons (pv 1) pa_nil))) pe_str) (pa_cons pe_str pa_nil)))))
      (pss_cons (ps_set (i := 5) sc__law_item.nd rfl (.inl rfl) (pe_call (ok__law_digit (P := P) T) (hr.mono (by decide)) (by rfl) T.g__law_digit T.F__law_digit.kp T.b__law_digit .nil pass0 (pa_cons (pv 0) (pa_cons pe_int pa_nil))))
      (pss_cons (ps_if (pt_cmpR op_eq (pv 5) pe_int (nomark _))
      (pss_one (ps_ret (pe_tup (pa_cons (pe_tup (pa_cons (pe_call (ok__law_place (P := P) T) (hr.mono (by decide)) (by rfl) T.g__law_place T.F__law_place.kp T.b__law_place .nil pass0 (pa_cons (pv 0) (pa_cons pe_bl pa_nil))) (pa_cons (pv 2) pa_nil))) (pa_cons pe_bl pa_nil)))))
      pss_nil)
      (pss_cons (ps_set (i := 6) sc__law_item.nd rfl (.inl rfl) (pe_lst (pa_cons (pe_lstB (pa_cons (pv 4) (pa_cons (pv 2) pa_nil))) (pa_cons (pe_tup (pa_cons (pv 4) pa_nil)) (pa_cons (pe_tup (pa_cons (pv 4) (pa_cons (pv 2) (pa_cons pe_non pa_nil)))) (pa_cons pe_non (pa_cons (pv 2) pa_nil)))))))
      (pss_one (ps_ret (pe_ifExp (pt_cmpR op_eq (pv 5) pe_int (nomark _)) (pe_tup (pa_cons (pe_ix (kIxL (K := K) rfl) (pv 6) (pe_call (ok__law_digit (P := P) T) (hr.mono (by decide)) (by rfl) T.g__law_digit T.F__law_digit.kp T.b__law_digit .nil pass0 (pa_cons (pv 0) (pa_cons pe_int pa_nil))) (fun _ _ => rfl)) (pa_cons pe_bl pa_nil))) (pe_tup (pa_cons (pe_tup (pa_cons (pv 4) (pa_cons (pv 2) pa_nil))) (pa_cons (pv 3) pa_nil))))))))))), ?_⟩
  obtain ⟨D, n, j⟩ := a
  obtain ⟨hn, hj⟩ := hp
  dsimp only at hn hj
  obtain ⟨p1, p2⟩ := hPl_tab j (List.mem_range.mpr (by omega))
  have p2 := sz_of p2
  show GoS [some (pt D), some (it (j : Int)), none, none, none, none, none] [(D, .dr n)] _ _
  refine GoS.seq (GoS.asg (Go.call (fun a => dr1) (GoA.cons (Go.var rfl (GoA.nil ⟨(D, n), [], rfl, rfl, (by show n ≤ 70000000; omega), ?_⟩)))))
  rintro _ _ ⟨r, m, rfl, hr, hz, hm, rfl⟩
  dsimp only at hm
  refine GoG.tup rfl (GoGs.cons (GoG.name (GoGs.cons (GoG.name (GoGs.nil ?_)))))
  show GoS [some (pt D), some (it (j : Int)), some (dA K r), some (bo (ansB r)), none, none, none] [(D, .dr m)] _ _
  refine GoS.seq (GoS.set ?_)
  walk_at "cj9"
  show GoS [some (pt D), some (it (j : Int)), some (dA K r), some (bo (ansB r)), some (dA K (hPl (j : Int))), some (it i9), none] [(D, .dr (m + 4))] _ _
  have k2 : ∀ {a b : DT}, dK a = true → dK b = true → dK (.t [a, b]) = true := fun {a b} h1 h2 => by
    show (decide (2 ≤ 100) && (dK a && (dK b && true))) = true
    rw [h1, h2]
    rfl
  have b1 := hz.bk
  have b2 := p2.bk
  have e1 := hz.dp
  have e2 := p2.dp
  refine GoS.ifB (p := decide (i9 = 0)) (GoT.test (Go.op (Go.var rfl (Go.c (v_eqI ⟨_, rfl, rfl, rfl⟩))))) (fun z => ?_) (fun z => GoS.nil ?_)
  · refine GoS.ret (Go.tup (K := K) (GoA.cons (Go.tup (K := K) (GoA.cons (Go.made (GoA.cons (Go.var rfl (GoA.cons (Go.c (GoA.nil ⟨D, m + 4, false, [], rfl, rfl, by omega, Keep.mk fun d m2 h1 h2 h3 => ?_⟩))))))))))
    have b3 := h2.bk
    have e3 := h2.dp
    refine GoA.cons (Go.var rfl (GoA.nil ⟨Nat.le_of_ble_eq_true rfl, GoA.cons (Go.c (GoA.nil ⟨Nat.le_of_ble_eq_true rfl, .t [d, r], m2, ?_, ?_, ⟨k2 h2.ok hz.ok, by show dB d + 1 + (dB r + 1 + 0) ≤ 8000; omega, by show max (dE d) (max (dE r) 0) + 1 ≤ 6; omega⟩, by show m2 ≤ n + 2000; omega, rfl⟩))⟩))
    · show tup K [tup K [dA K d, dA K r], bo false] = tup K [tup K [dA K d, dA K r], bo (isAdr d && ansB r)]
      rw [h1]
      rfl
    · intro h
      have h : (isAdr d && ansB r) = true := h
      rw [h1] at h
      cases h
  show GoS [some (pt D), some (it (j : Int)), some (dA K r), some (bo (ansB r)), some (dA K (hPl (j : Int))), some (it i9), none] [(D, .dr (m + 4))] _ _
  refine GoS.seq (GoS.set (Go.lst (K := K) ?_))
  walk_at "cj9"
  show Go [some (pt D), some (it (j : Int)), some (dA K r), some (bo (ansB r)), some (dA K (hPl (j : Int))), some (it i9), some (lst K (dAs K [.l [(hPl (j : Int)), r], .t [(hPl (j : Int))], .t [(hPl (j : Int)), r, .n], .n, r]))] [(D, .dr (m + 4))] _ _
  refine Go.ite (GoT.join (decide (i9 = 1)) (GoT.test (Go.op (Go.var rfl (Go.c (v_eqI ⟨_, rfl, rfl, rfl⟩))))) ⟨fun z2 => ?_, fun z2 => ?_⟩)
  · refine Go.tup (K := K) (GoA.cons (Go.op (Go.var rfl (Go.digit (GoA.cons (Go.var rfl (GoA.cons (Go.c (GoA.nil ⟨D, 5, m + 4, [], rfl, rfl, ⟨by decide, by decide, by omega⟩, fun i i0 i1 => ?_⟩)))))))))
    refine v_ixLany (xs := dAs K [.l [(hPl (j : Int)), r], .t [(hPl (j : Int))], .t [(hPl (j : Int)), r, .n], .n, r]) i0 i1 fun A hA => ?_
    rw [dAs_map] at hA
    obtain ⟨d, hd, rfl⟩ := List.mem_map.mp hA
    have hd2 : itemB d = false ∧ Sz d 8000 6 := by
      simp only [List.mem_cons, List.not_mem_nil, or_false] at hd
      rcases hd with rfl | rfl | rfl | rfl | rfl
      · exact ⟨rfl, by show (decide (2 ≤ 100) && (dK (hPl (j : Int)) && (dK r && true))) = true; rw [p2.ok, hz.ok]; rfl, by show dB (hPl (j : Int)) + 1 + (dB r + 1 + 0) ≤ 8000; omega, by show max (dE (hPl (j : Int))) (max (dE r) 0) + 1 ≤ 6; omega⟩
      · exact ⟨rfl, by show (decide (1 ≤ 100) && (dK (hPl (j : Int)) && true)) = true; rw [p2.ok]; rfl, by show dB (hPl (j : Int)) + 1 + 0 ≤ 8000; omega, by show max (dE (hPl (j : Int))) 0 + 1 ≤ 6; omega⟩
      · exact ⟨rfl, by show (decide (3 ≤ 100) && (dK (hPl (j : Int)) && (dK r && (true && true)))) = true; rw [p2.ok, hz.ok]; rfl, by show dB (hPl (j : Int)) + 1 + (dB r + 1 + (0 + 1 + 0)) ≤ 8000; omega, by show max (dE (hPl (j : Int))) (max (dE r) (max 0 0)) + 1 ≤ 6; omega⟩
      · exact ⟨rfl, rfl, by show 0 ≤ 8000; omega, by show 0 ≤ 6; omega⟩
      · exact ⟨hr, hz.ok, by omega, by omega⟩
    refine GoA.cons (Go.c (GoA.nil ⟨Nat.le_of_ble_eq_true rfl, d, m + 8, ?_, fun h => (by rw [hd2.1] at h; cases h), hd2.2, by show m + 8 ≤ n + 2000; omega, rfl⟩))
    rw [hd2.1]
  · refine Go.tup (K := K) (GoA.cons (Go.tup (K := K) (GoA.cons (Go.var rfl (GoA.cons (Go.var rfl (GoA.nil ⟨Nat.le_of_ble_eq_true rfl, GoA.cons (Go.var rfl (GoA.nil ⟨Nat.le_of_ble_eq_true rfl, .t [(hPl (j : Int)), r], m + 4, ?_, fun _ => ⟨r, rfl⟩, ⟨k2 p2.ok hz.ok, by show dB (hPl (j : Int)) + 1 + (dB r + 1 + 0) ≤ 8000; omega, by show max (dE (hPl (j : Int))) (max (dE r) 0) + 1 ≤ 6; omega⟩, by show m + 4 ≤ n + 2000; omega, rfl⟩))⟩)))))))
    show tup K [tup K [dA K (hPl (j : Int)), dA K r], bo (ansB r)] = tup K [tup K [dA K (hPl (j : Int)), dA K r], bo (isAdr (hPl (j : Int)) && ansB r)]
    rw [p1]
    rfl

end
section
/-! the first wrong item of a drawn table -/
def firstF : Nat → List Bool → Option Nat
  | _, [] => none
  | o, b :: r => if b = true then firstF (o + 1) r else some o
def hPls (o : Nat) : List DT := (List.range o).map fun i : Nat => hPl (i : Int)
theorem hPls_succ (o : Nat) : hPls (o + 1) = hPls o ++ [hPl (o : Int)] := by
  unfold hPls
  rw [List.range_succ, List.map_append]
  rfl
theorem dPs_map : ∀ xs, dPs xs = xs.map dP
  | [] => rfl
  | x :: r => by rw [List.map_cons, ← dPs_map r]; rfl
theorem kn_no {o : Nat} (h : o < 33) (y : DT) : knB (hPls o) (.t [hPl (o : Int), y]) = false := by
  unfold knB
  rw [List.any_eq_false, dPs_map]
  intro z hz
  obtain ⟨d, hd, rfl⟩ := List.mem_map.mp hz
  obtain ⟨i, hi, rfl⟩ := List.mem_map.mp hd
  have hi := List.mem_range.mp hi
  have := hPl_ne i (List.mem_range.mpr (by omega)) o (List.mem_range.mpr h)
  show ¬ PyData.eqv (dP (hPl (i : Int))) (dP (hPl (o : Int))) = true
  rw [this, decide_eq_false (by omega)]
  decide
theorem kn_yes {o : Nat} (h : 0 < o) (y : DT) : knB (hPls o) (.t [hPl ((0 : Nat) : Int), y]) = true := by
  unfold knB
  rw [List.any_eq_true, dPs_map]
  refine ⟨dP (hPl ((0 : Nat) : Int)), List.mem_map.mpr ⟨_, List.mem_map.mpr ⟨0, List.mem_range.mpr h, rfl⟩, rfl⟩, ?_⟩
  have := hPl_ne 0 (List.mem_range.mpr (by decide)) 0 (List.mem_range.mpr (by decide))
  show PyData.eqv (dP (hPl ((0 : Nat) : Int))) (dP (hPl ((0 : Nat) : Int))) = true
  rw [this]
  rfl
def ItemsFrom (o : Nat) (ds : List DT) : Prop := ∀ k d, ds[k]? = some d → itemB d = true → ∃ y, d = .t [hPl ((o + k : Nat) : Int), y]
theorem ItemsFrom.tail {o : Nat} {d : DT} {ds : List DT} (h : ItemsFrom o (d :: ds)) : ItemsFrom (o + 1) ds := fun k x hx hi => by
  have := h (k + 1) x (by simpa using hx) hi
  rw [show o + (k + 1) = o + 1 + k by omega] at this
  exact this
theorem tab_from : ∀ (ds tl : List DT) (o : Nat), ItemsFrom o ds → o + ds.length ≤ 30 → tabFrom (hPls o) o (ds ++ tl) = match firstF o (ds.map itemB) with
    | some i => some i
    | none => tabFrom (hPls (o + ds.length)) (o + ds.length) tl
  | [], tl, o, _, _ => rfl
  | d :: ds, tl, o, h, hl => by
    rw [List.length_cons] at hl
    show (if (decide (o = 30) || (!itemB d || knB (hPls o) d)) = true then some o else tabFrom (hPls o ++ [placeOf d]) (o + 1) (ds ++ tl)) = match (if itemB d = true then firstF (o + 1) (ds.map itemB) else some o) with
      | some i => some i
      | none => _
    cases hi : itemB d with
    | false =>
      rw [if_pos (by simp), if_neg (by decide)]
    | true =>
      obtain ⟨y, e⟩ := h 0 d rfl hi
      have e : d = .t [hPl (o : Int), y] := e
      subst e
      rw [kn_no (by omega) y, if_neg (by rw [decide_eq_false (by omega)]; decide), if_pos rfl]
      show tabFrom (hPls o ++ [hPl (o : Int)]) (o + 1) (ds ++ tl) = _
      rw [← hPls_succ, tab_from ds tl (o + 1) h.tail (by omega), show o + 1 + ds.length = o + (ds.length + 1) by omega]
      rfl
theorem first_app (l : List Bool) (o : Nat) : firstF o (l ++ [false]) = match firstF o l with
    | some i => some i
    | none => some (o + l.length) := by
  induction l generalizing o with
  | nil => rfl
  | cons b r ih =>
    show (if b = true then firstF (o + 1) (r ++ [false]) else some o) = match (if b = true then firstF (o + 1) r else some o) with
      | some i => some i
      | none => _
    cases b with
    | true =>
      rw [if_pos rfl, if_pos rfl, ih]
      cases firstF (o + 1) r with
      | none => show some _ = some _; rw [List.length_cons]; congr 1; omega
      | some i => rfl
    | false => rfl
theorem first_none : ∀ {l : List Bool} {o : Nat}, firstF o l = none → ∀ b ∈ l, b = true
  | b :: r, o, h, c, hc => by
    cases b with
    | false => cases h
    | true =>
      rcases List.mem_cons.mp hc with rfl | hc
      · rfl
      · exact first_none (l := r) h c hc
theorem tab_plain {ds : List DT} (h : ItemsFrom 0 ds) (hl : ds.length ≤ 30) : tabFrom [] 0 ds = firstF 0 (ds.map itemB) := by
  have := tab_from ds [] 0 h (by omega)
  rw [List.append_nil] at this
  show tabFrom (hPls 0) 0 ds = _
  rw [this]
  cases firstF 0 (ds.map itemB) <;> rfl
theorem tab_again {d : DT} {ds : List DT} (h : ItemsFrom 0 (d :: ds)) (hl : (d :: ds).length ≤ 29) : tabFrom [] 0 ((d :: ds) ++ [d]) = firstF 0 ((d :: ds).map itemB ++ [false]) := by
  show tabFrom (hPls 0) 0 _ = _
  rw [tab_from (d :: ds) [d] 0 h (by omega), first_app]
  cases hf : firstF 0 ((d :: ds).map itemB) with
  | some i => rfl
  | none =>
    have hi := first_none hf (itemB d) List.mem_cons_self
    obtain ⟨y, e⟩ := h 0 d rfl hi
    have e : d = .t [hPl ((0 : Nat) : Int), y] := e
    show (if (decide (0 + (d :: ds).length = 30) || (!itemB d || knB (hPls (0 + (d :: ds).length)) d)) = true then some (0 + (d :: ds).length) else _) = some (0 + ((d :: ds).map itemB).length)
    rw [show knB (hPls (0 + (d :: ds).length)) d = true by rw [e]; exact kn_yes (by simp) y, if_pos (by simp), List.length_map]
theorem wrong_take (l : List (DT × Bool)) (o : Nat) : (((l.zipIdx o).filter fun x => !x.1.2).map fun x => (x.2 : Int)).take 1 = match firstF o (l.map (·.2)) with
    | some i => [(i : Int)]
    | none => [] := by
  induction l generalizing o with
  | nil => rfl
  | cons p r ih =>
    obtain ⟨d, b⟩ := p
    rw [List.zipIdx_cons]
    cases b with
    | true => exact ih (o + 1)
    | false => rfl
theorem enA_zip {K : PySem.W.Frag} {α : Type} (l : List α) (f : α → As) : enA K (l.map f) = l.zipIdx.map fun x => tup K [it (x.2 : Int), f x.1] := by
  refine List.ext_getElem? fun i => ?_
  rw [List.getElem?_map, List.getElem?_zipIdx]
  cases h : l[i]? with
  | none =>
    have h1 : l.length ≤ i := List.getElem?_eq_none_iff.mp h
    rw [List.getElem?_eq_none_iff.mpr (by rw [enA_len, List.length_map]; exact h1)]
    rfl
  | some x =>
    have h1 : i < (enA K (l.map f)).length := by rw [enA_len, List.length_map]; exact (List.getElem?_eq_some_iff.mp h).1
    have h2 := List.getElem?_eq_getElem h1
    obtain ⟨B, hB, e⟩ := enA_at h2
    rw [h2, e]
    rw [List.getElem?_map, h] at hB
    cases hB
    show some _ = some _
    rw [Nat.zero_add]

end
section
variable {P : Program} {w : World} {K : PySem.W.Frag} {mg : Str → Option Value} {base : Heap} [IsP P]
/-! ### _law_table_right -/
def pA2 (K : PySem.W.Frag) (p : DT × Bool) : As := tup K [dA K p.1, bo p.2]
structure TabOk (ps : List (DT × Bool)) : Prop where
  ok : tabFrom [] 0 (ps.map (·.1)) = firstF 0 (ps.map (·.2))
  ln : ps.length ≤ 6
  sz : ∀ p ∈ ps, Sz p.1 8000 6
theorem tab_sz {ps : List (DT × Bool)} (h : TabOk ps) : Sz (.t (ps.map (·.1))) 50000 7 := by
  have hm : ∀ d ∈ ps.map (·.1), Sz d 8000 6 := fun d hd => by
    obtain ⟨p, hp, rfl⟩ := List.mem_map.mp hd
    exact h.sz p hp
  have hl : (ps.map (·.1)).length ≤ 6 := by rw [List.length_map]; exact h.ln
  refine ⟨?_, ?_, ?_⟩
  · show (decide ((ps.map (·.1)).length ≤ 100) && dKs (ps.map (·.1))) = true
    rw [decide_eq_true (by omega), dKs_of fun d hd => (hm d hd).ok]
    rfl
  · show dBs (ps.map (·.1)) ≤ 50000
    have h1 := dBs_le fun d hd => (hm d hd).bk
    have h2 := Nat.mul_le_mul_right 8001 hl
    omega
  · show dEs (ps.map (·.1)) + 1 ≤ 7
    have := dEs_le fun d hd => (hm d hd).dp
    omega
theorem err_tab {ps : List (DT × Bool)} (h : TabOk ps) : errL (.t (ps.map (·.1))) = ((((ps.zipIdx 0).filter fun x => !x.1.2).map fun x => (x.2 : Int)).take 1).map it := by
  rw [wrong_take]
  unfold errL
  show (match (tabFrom [] 0 (ps.map (·.1))).map some with
    | none => []
    | some o => [idxA o]) = _
  rw [h.ok]
  cases firstF 0 (ps.map (·.2)) <;> rfl
theorem its_sh {K : PySem.W.Frag} : ∀ {l : List Int}, (∀ i ∈ l, 0 ≤ i ∧ i < 1000) → ∃ ds, ShDs K (l.map it) ds 0 (l.length * 1)
  | [], _ => ⟨_, ShDs.nil.le (by decide) (by decide)⟩
  | i :: r, h => by
    obtain ⟨ds, hd⟩ := its_sh (l := r) fun x hx => h x (List.mem_cons_of_mem _ hx)
    have := h i List.mem_cons_self
    exact ⟨_, (ShDs.cons (ShD.it this.1 (by omega)) hd).le (by decide) (by rw [List.length_cons]; omega)⟩
abbrev sp__law_table_right (T : Txt K mg w) : Sp := SpG (fun a : Addr × Nat => a.2 ≤ 50000000) (fun a => [pt a.1]) (fun a => [(a.1, .dr a.2)]) (fun a A O' => A = bo true ∧ ∃ m, m ≤ a.2 + 20000 ∧ O' = [(a.1, .dr m)])
theorem ok__law_table_right (T : Txt K mg w) : FnG P w K mg base CX0 12 T.f__law_table_right T.d__law_table_right ["_law_state"] (sp__law_table_right T) := by
  refine fnG_sy T.F__law_table_right sc__law_table_right (fun _ _ => rfl) fun a cdv A outer s H E hr gd hp => ⟨_, (pss_cons (ps_setLc (i := 1) (own := [("_law_at", 6)]) (g := gName 6) (tt := tYes) (by rfl) sc__law_table_right.nd rfl rfl (sw_true rfl rfl rfl (by decide +kernel)) (pi_range1 (by rfl) T.n_range (pa_cons (pe_call (ok__law_digit (P := P) T) (hr.mono (by decide)) (by rfl) T.g__law_digit T.F__law_digit.kp T.b__law_digit .nil pass0 (pa_cons (pv 0) (pa_cons pe_int pa_nil))) pa_nil)) (blkOk_by (own := [("_law_at", 6)]) (N := N__law_table_right) (sc := defScope S__law_table_right) (by decide +kernel)) (fun _ _ _ _ _ => (pg_name (i := 6) sc__law_table_right.nd rfl (.inl rfl))) (fun _ _ _ _ _ => pts_nil) (fun _ _ _ _ _ => (pe_call (ok__law_item (P := P) T) (hr.mono (by decide)) (by rfl) T.g__law_item T.F__law_item.kp T.b__law_item .nil pass0 (pa_cons (pv 0) (pa_cons (pv 6) pa_nil)))))
      (C8.pss_cut (ps_if (PW.pt (pw_and (pt_cmpR op_gt (pe_callB (kLen (K := K) rfl) (by rfl) T.n_len (by decide +kernel) (pa_cons (pv 1) pa_nil)) pe_int (nomark _)) (pw_and1 (pt_cmpR op_eq (pe_call (ok__law_digit (P := P) T) (hr.mono (by decide)) (by rfl) T.g__law_digit T.F__law_digit.kp T.b__law_digit .nil pass0 (pa_cons (pv 0) (pa_cons pe_int pa_nil))) pe_int (nomark _)))))
      (pss_cons (ps_set (i := 2) sc__law_table_right.nd rfl (.inl rfl) (pe_ix (kIxL (K := K) rfl) (pv 1) pe_int (fun _ _ => rfl)))
      (pss_one (ps_expr (kBm (K := K) rfl PySem.F.plainAttrs_list PySem.F.slot_list_append PySem.F.type_list_append mt_append (pv 1) (pa_cons (pe_ifExp (pt_val (pe_ix (kIxT (K := K) rfl) (pv 2) pe_int (fun _ _ => rfl))) (pe_tup (pa_cons (pe_ix (kIxT (K := K) rfl) (pv 2) pe_int (fun _ _ => rfl)) (pa_cons pe_bl pa_nil))) (pv 2)) pa_nil)))))
      pss_nil)
      (pss_cons (ps_set (i := 3) sc__law_table_right.nd rfl (.inl rfl) (pe_callTy (kTup (K := K) rfl) (by rfl) T.n_tuple (by decide +kernel) (pa_cons (pe_lc (own := [("_law_item_here", 7), ("_law_is_right", 8)]) (g := gTup K 2 (gCons (gName 7) (gCons (gName 8) gNil))) (tt := tYes) (by rfl) sc__law_table_right.nd (kpList (K := K) rfl (pv 1)) (blkOk_by (own := [("_law_item_here", 7), ("_law_is_right", 8)]) (N := N__law_table_right) (sc := defScope S__law_table_right) (by decide +kernel)) (fun _ _ _ _ _ => (kgTup (K := K) (n := 2) rfl rfl (pgs_cons (pg_name (i := 7) sc__law_table_right.nd rfl (.inl rfl)) (pgs_cons (pg_name (i := 8) sc__law_table_right.nd rfl (.inl rfl)) pgs_nil)) rfl rfl)) (fun _ _ _ _ _ => pts_nil) (fun _ _ _ _ _ => (pv 7))) pa_nil)))
      (pss_cons (ps_setLc (i := 4) (own := [("_law_at", 6), ("_law_pair", 9)]) (g := gTup K 2 (gCons (gName 6) (gCons (gName 9) gNil))) (by rfl) sc__law_table_right.nd rfl rfl (sw_true rfl rfl rfl (by decide +kernel)) (kpEnum (K := K) rfl (by rfl) T.n_enumerate (pa_cons (pv 1) pa_nil)) (blkOk_by (own := [("_law_at", 6), ("_law_pair", 9)]) (N := N__law_table_right) (sc := defScope S__law_table_right) (by decide +kernel)) (fun _ _ _ _ _ => (kgTup (K := K) (n := 2) rfl rfl (pgs_cons (pg_name (i := 6) sc__law_table_right.nd rfl (.inl rfl)) (pgs_cons (pg_name (i := 9) sc__law_table_right.nd rfl (.inl rfl)) pgs_nil)) rfl rfl)) (fun _ _ _ _ _ => (pts_one (pt_not (pt_val (pe_ix (kIxT (K := K) rfl) (pv 9) pe_int (fun _ _ => rfl)))))) (fun _ _ _ _ _ => (pv 6)))
      (pss_cons (ps_set (i := 5) sc__law_table_right.nd rfl (.inl rfl) (pe_callB (call_reprX K rfl gd hr.units) (by rfl) T.n_repr (by decide +kernel) (pa_cons (pv 3) pa_nil)))
      (pss_cons (ps_if (PW.pt (pw_or (pt_cmpR (kNe (K := K) rfl hr.units) (pe_call (ok__law_error (P := P) T) (hr.mono (by decide)) (by rfl) T.g__law_error T.F__law_error.kp T.b__law_error .nil pass0 (pa_cons (pv 3) pa_nil)) (pe_slice (kSlL (K := K) rfl) (pv 4) po_none (po_some pe_int)) (nomark _)) (pw_or1 (pt_cmpR op_ne (pe_callB (call_reprX K rfl gd hr.units) (by rfl) T.n_repr (by decide +kernel) (pa_cons (pv 3) pa_nil)) (pv 5) (nomark _)))))
      (pss_one (ps_ret pe_bl))
      pss_nil)
      (pss_one (ps_ret (pe_cmpR (kEq (K := K) rfl hr.units) (pe_call (ok__law_error (P := P) T) (hr.mono (by decide)) (by rfl) T.g__law_error T.F__law_error.kp T.b__law_error .nil pass0 (pa_cons (pe_callTy (kLstB (K := K) rfl) (by rfl) T.n_list (by decide +kernel) (pa_cons (pv 3) pa_nil)) pa_nil)) (pe_lst (pa_cons pe_non pa_nil)) (nomark _)))))))))), ?_⟩
  obtain ⟨D, n⟩ := a
  have hp : n ≤ 50000000 := hp
  show GoS [some (pt D), none, none, none, none, none, none, none, none, none] [(D, .dr n)] _ _
  refine GoS.seq (GoS.set (Go.lcOwn hg1 (GoI.rng1 (GoA.cons (Go.digit (GoA.cons (Go.var rfl (GoA.cons (Go.c (GoA.nil ⟨D, 6, n, [], rfl, rfl, ⟨by decide, by decide, by omega⟩, fun c c0 c1 => GoA.nil ⟨c, rfl, ⟨by omega, by omega⟩, ?_⟩⟩))))))))))
  refine ⟨fun i acc O' => ∃ (ds : List DT) (m : Nat), acc = ds.map (fun d => pA2 K (d, itemB d)) ∧ ds.length = i ∧ ItemsFrom 0 ds ∧ (∀ d ∈ ds, Sz d 8000 6) ∧ m ≤ n + 4 + 2000 * i ∧ O' = [(D, .dr m)], ⟨[], n + 4, rfl, rfl, fun k d h => (by simp at h), fun d h => (by cases h), by omega, rfl⟩, ?_, ?_⟩
  · rintro i A acc O' T9 hA ⟨ds, m, rfl, hl, hI, hS, hm, rfl⟩
    obtain ⟨hi, rfl⟩ := rngA_at hA
    have hi6 : i < 6 := by omega
    refine GoG.name (GoT.yes ?_)
    rw [if_pos rfl]
    refine Go.call (fun a => dr1) (GoA.cons (Go.var rfl (GoA.cons (Go.var rfl (GoA.nil ⟨(D, m, i), T9, ?_, rfl, ⟨by show m ≤ 60000000; omega, by show i ≤ 30; omega⟩, ?_⟩)))))
    · rw [Int.zero_add]
    · rintro _ _ ⟨d, m2, rfl, h1, h2, h3, rfl⟩
      have h3 : m2 ≤ m + 2000 := h3
      refine ⟨[(D, .dr m2)], rfl, by rw [List.length_map]; omega, ds ++ [d], m2, by rw [List.map_append]; rfl, by rw [List.length_append, hl]; rfl, fun k x hx hit => ?_, fun x hx => ?_, by omega, rfl⟩
      · by_cases hk : k < ds.length
        · rw [List.getElem?_append_left hk] at hx
          exact hI k x hx hit
        · rw [List.getElem?_append_right (by omega)] at hx
          have hk2 : k - ds.length = 0 := by
            have := (List.getElem?_eq_some_iff.mp hx).1
            simpa using this
          rw [hk2] at hx
          cases hx
          have := h1 hit
          rw [show 0 + k = i by omega]
          exact this
      · rcases List.mem_append.mp hx with hx | hx
        · exact hS x hx
        · rw [List.mem_singleton.mp hx]
          exact h2
  rintro acc O' ⟨ds, m, rfl, hl, hI, hS, hm, rfl⟩ DL
  have hl5 : ds.length ≤ 5 := by
    rw [hl]
    simp [rngA]
    omega
  have hm : m ≤ n + 20000 - 100 := by
    have : (rngA 0 c.toNat).length ≤ 5 := by
      simp [rngA]
      omega
    omega
  show GoS [some (pt D), some (pt DL), none, none, none, none, none, none, none, none] [(D, .dr m), (DL, .ol (ds.map fun d => pA2 K (d, itemB d)))] _ _
  have hS2 : ∀ p ∈ ds.map (fun d => (d, itemB d)), Sz p.1 8000 6 := fun p hp => by
    obtain ⟨d, hd, rfl⟩ := List.mem_map.mp hp
    exact hS d hd
  have t0 : TabOk (ds.map fun d => (d, itemB d)) := by
    refine ⟨?_, by rw [List.length_map]; omega, hS2⟩
    rw [List.map_map, List.map_map]
    have e1 : (ds.map ((fun p : DT × Bool => p.1) ∘ fun d => (d, itemB d))) = ds := by
      show ds.map (fun d => d) = ds
      exact List.map_id _
    rw [e1, tab_plain hI (by omega)]
    rfl
  refine GoS.cut (GoS.mid (fun L' O' => ∃ (ps : List (DT × Bool)) (B2 : Option As) (m' : Nat), L' = [some (pt D), some (pt DL), B2, none, none, none, none, none, none, none] ∧ O' = [(D, .dr m'), (DL, .ol (ps.map (pA2 K)))] ∧ TabOk ps ∧ m' ≤ n + 20000) ?_ ?_)
  · have keep : ∀ m', m' ≤ m + 4 → ∃ (ps : List (DT × Bool)) (B2 : Option As) (m9 : Nat), [some (pt D), some (pt DL), none, none, none, none, none, none, none, none] = [some (pt D), some (pt DL), B2, none, none, none, none, none, none, none] ∧ ([(D, .dr m'), (DL, .ol (ds.map fun d => pA2 K (d, itemB d)))] : OO) = [(D, .dr m9), (DL, .ol (ps.map (pA2 K)))] ∧ TabOk ps ∧ m9 ≤ n + 20000 := fun m' hm' => ⟨_, none, m', rfl, by rw [List.map_map]; rfl, t0, by omega⟩
    refine GoS.ite (GoT.and (GoT.test (Go.op (Go.cb (GoA.cons (Go.var rfl (GoA.nil (v_lenO (pre := [(D, .dr m)]) (post := []) (Go.c (v_gt ⟨_, rfl, fun z => ?_, fun z => ⟨fun z => (by cases z), fun _ => GoS.nil (keep m (by omega))⟩⟩))))))))))
    rw [List.length_map, decide_eq_true_eq] at z
    refine GoT.test (Go.op (Go.digit (GoA.cons (Go.var rfl (GoA.cons (Go.c (GoA.nil ⟨D, 3, m, [(DL, .ol (ds.map fun d => pA2 K (d, itemB d)))], rfl, rfl, ⟨by decide, by decide, by omega⟩, fun i i0 i1 => Go.c (v_eqI ⟨_, rfl, fun z2 => ?_, fun z2 => GoS.nil (keep (m + 4) (Nat.le_refl _))⟩)⟩)))))))
    cases ds with
    | nil => simp at z
    | cons d0 r =>
      refine GoS.seq (GoS.set (Go.op (Go.var rfl (Go.c (v_ixO (pre := [(D, .dr (m + 4))]) (post := []) (A := pA2 K (d0, itemB d0)) (at0 _ _) ?_)))))
      show GoS [some (pt D), some (pt DL), some (tup K [dA K d0, bo (itemB d0)]), none, none, none, none, none, none, none] [(D, .dr (m + 4)), (DL, .ol ((d0 :: r).map fun d => pA2 K (d, itemB d)))] _ _
      refine GoS.drop (Go.bm (Go.var rfl ⟨ty_o (pre := [(D, .dr (m + 4))]), GoA.cons (Go.join (A := pA2 K (d0, false)) (Go.ite (GoT.b (Go.op (Go.var rfl (Go.c (v_ixT (A := bo (itemB d0)) rfl ⟨_, rfl, fun z3 => ?_, fun z3 => ?_⟩)))))) (GoA.nil (v_append (pre := [(D, .dr (m + 4))]) (post := []) ?_ ?_)))⟩))
      · refine Go.tup (K := K) (GoA.cons (Go.op (Go.var rfl (Go.c (v_ixT (A := dA K d0) rfl (GoA.cons (Go.c (GoA.nil ⟨Nat.le_of_ble_eq_true rfl, rfl, rfl⟩))))))))
      · refine Go.var rfl ⟨?_, rfl⟩
        rw [z3]
        rfl
      · rw [List.length_map]
        omega
      · refine ⟨((d0 :: r).map fun d => (d, itemB d)) ++ [(d0, false)], _, m + 4, rfl, ?_, ?_, by omega⟩
        · rw [List.map_append, List.map_map]
          rfl
        · refine ⟨?_, ?_, fun p hp => ?_⟩
          · rw [List.map_append, List.map_append, List.map_map, List.map_map]
            have e1 : ((d0 :: r).map ((fun p : DT × Bool => p.1) ∘ fun d => (d, itemB d))) = d0 :: r := by
              show (d0 :: r).map (fun d => d) = d0 :: r
              exact List.map_id _
            rw [e1]
            exact tab_again hI (by omega)
          · rw [List.length_append, List.length_map]
            show _ + 1 ≤ 6
            omega
          · rcases List.mem_append.mp hp with h | h
            · exact hS2 p h
            · rw [List.mem_singleton.mp h]
              exact hS d0 List.mem_cons_self
  rintro _ _ ⟨ps, B2, m', rfl, rfl, ht, hm'⟩
  have hz := tab_sz ht
  have hln := ht.ln
  show GoS _ _ _ _
  refine GoS.frzS (K := K) (i := 1) [(D, .dr m')] [] rfl ?_
  show GoS [some (pt D), some (lst K (ps.map (pA2 K))), B2, none, none, none, none, none, none, none] [(D, .dr m')] _ _
  refine GoS.seq (GoS.set (Go.cb (GoA.cons (Go.lcM2 (K := K) (by decide) (l := ps) (f := fun p => dA K p.1) (g := fun p => bo p.2) (B := fun p => dA K p.1) (O9 := [(D, .dr m')]) (GoI.ofL (Go.var rfl ⟨_, rfl, rfl, rfl⟩)) (fun p hp T9 => Go.var rfl ⟨rfl, rfl⟩) (by omega) (GoA.nil (v_tupL ?_))))))
  have eT : tup K (ps.map fun p => dA K p.1) = dA K (.t (ps.map (·.1))) := by
    show _ = tup K (dAs K (ps.map (·.1)))
    rw [dAs_map, List.map_map]
    rfl
  rw [eT]
  show GoS [some (pt D), some (lst K (ps.map (pA2 K))), B2, some (dA K (.t (ps.map (·.1)))), none, none, none, none, none, none] [(D, .dr m')] _ _
  refine GoS.seq (GoS.set (Go.lcF2 (K := K) (by decide) (l := ps.zipIdx 0) (f := fun x => it (x.2 : Int)) (g := fun x => pA2 K x.1) (p := fun x => !x.1.2) (B := fun x => it (x.2 : Int)) (O9 := [(D, .dr m')]) (GoI.enum (GoA.cons (Go.var rfl (GoA.nil ⟨_, rfl, rfl, enA_zip ps (pA2 K)⟩)))) (fun x hx T9 => GoT.not (GoT.b (Go.op (Go.var rfl (Go.c (v_ixT (A := bo x.1.2) rfl ⟨_, rfl, rfl, rfl⟩)))))) (fun x hx hb T9 => Go.var rfl ⟨rfl, rfl⟩) (by rw [List.length_zipIdx]; omega) ?_))
  generalize hW : (((ps.zipIdx 0).filter fun x => !x.1.2).map fun x => (x.2 : Int)) = W
  have hWi : ∀ i ∈ W, 0 ≤ i ∧ i < 1000 := fun i hi => by
    rw [← hW] at hi
    obtain ⟨x, hx, rfl⟩ := List.mem_map.mp hi
    have hx := List.mem_filter.mp hx
    have := List.mem_zipIdx hx.1
    omega
  have eW : ((ps.zipIdx 0).filter fun x => !x.1.2).map (fun x => it (x.2 : Int)) = W.map it := by
    rw [← hW, List.map_map]
    rfl
  rw [eW]
  have eE : errL (.t (ps.map (·.1))) = (W.take 1).map it := by rw [err_tab ht, hW]
  show GoS [some (pt D), some (lst K (ps.map (pA2 K))), B2, some (dA K (.t (ps.map (·.1)))), some (lst K (W.map it)), none, none, none, none, none] [(D, .dr m')] _ _
  have hsh := dSh (K := K) _ hz.ok
  have hb := hz.bk
  have he := hz.dp
  refine GoS.seq (GoS.set (Go.cb (GoA.cons (Go.var rfl (GoA.nil (v_reprY hsh (by omega) (by omega) ?_))))))
  show GoS [some (pt D), some (lst K (ps.map (pA2 K))), B2, some (dA K (.t (ps.map (·.1)))), some (lst K (W.map it)), some (tx (shw (dP (.t (ps.map (·.1)))))), none, none, none, none] [(D, .dr m')] _ _
  obtain ⟨ws, hws⟩ := its_sh (K := K) (l := W.take 1) fun i hi => hWi i (List.mem_of_mem_take hi)
  have hwl := ShD.lst (K := K) hws
  refine GoS.seq (GoS.ifF (GoT.join (false || false) (GoT.orJ (p := false) (q := false) (GoT.test (Go.op (Go.callP (GoA.cons (Go.var rfl (GoA.nil ⟨_, rfl, hz.ok, Go.sl (Go.var rfl (GoO.none (GoO.part (Go.c ⟨1, rfl, v_slL ?_⟩))))⟩)))))) (fun _ => GoT.test (Go.op (Go.cb (GoA.cons (Go.var rfl (GoA.nil (v_reprY hsh (by omega) (by omega) (Go.var rfl (v_neS ⟨_, rfl, by simp, rfl⟩))))))))) ⟨rfl, rfl⟩) ⟨rfl, rfl⟩) (GoS.nil ?_))
  · rw [eE, show (1 : Int) = ((1 : Nat) : Int) from rfl, cut_to, ← List.map_take]
    exact v_neSh hwl hwl (by decide) ⟨_, rfl, rfl, rfl⟩
  show GoS _ _ _ _
  have hzl : dK (.l (ps.map fun p : DT × Bool => p.1)) = true := hz.ok
  have hnone := ShD.lst (K := K) (.cons .no .nil)
  refine GoS.ret (Go.op (Go.callP (GoA.cons (Go.cb (GoA.cons (Go.var rfl (GoA.nil (v_lstTB (GoA.nil ⟨.l (ps.map fun p : DT × Bool => p.1), rfl, hzl, Go.lst (K := K) (GoA.cons (Go.c (GoA.nil ⟨Nat.le_of_ble_eq_true rfl, ?_⟩)))⟩))))))))) 
  exact v_eqSh hnone hnone (by decide) ⟨rfl, m', hm', rfl⟩

/-! ### law -/
def wideD (j : Int) : DT := .t [hPl j, .t [.t [], .n, .t []]]
def wides (c : Nat) : List DT := (List.range c).map fun j : Nat => wideD (j : Int)
theorem wide_tab : ∀ c ∈ [29, 30, 31, 32], tabFrom [] 0 (wides c) = (if 30 < c then some 30 else none) ∧ szB 3000 5 (.t (wides c)) = true := by decide +kernel
theorem strJ : ∀ j ∈ List.range 33, (j : Int).natAbs.log2 < 1920 ∧ (numS (j : Int)).length ≤ 2 := by decide +kernel
theorem v_notBl7 {O : OO} {k : As → OO → Prop} (q : k (bo false) O) : V2 O (fun x y H Q => ∃ i j, x = .bl i ∧ y = .bl j ∧ Q (.bl (!(i == j))) H) (bo false) (cst (.bl false)) k := V2.sc (z := .bl false) (fun _ _ q => ⟨_, _, rfl, rfl, q⟩) q
abbrev sp_law (K : PySem.W.Frag) : Sp := SpG (fun cs : List Int => cs.length ≤ 63) (fun cs => [sql K (cs.map it)]) (fun _ => []) (fun _ A _ => A = bo true)
theorem ok_law (T : Txt K mg w) : FnG P w K mg base CX0 13 T.f_law T.d_law ["_law_script"] (sp_law K) := by
  refine fnG_sy T.F_law sc_law (fun _ _ => rfl) fun a cdv A outer s H E hr gd hp => ⟨_, (pss_cons (ps_for PassesOwn.never rfl (kpEnum (K := K) rfl (by rfl) T.n_enumerate (pa_cons (pe_op op_cat (pe_slice (kSlL (K := K) rfl) (pv 0) po_none (po_some pe_int)) (pe_lst (pa_cons (pe_callB (kSum (K := K) rfl rfl) (by rfl) T.n_sum (by decide +kernel) (pa_cons (pv 0) pa_nil)) pa_nil))) pa_nil)) (kgTup (K := K) (n := 2) rfl rfl (pgs_cons (pg_name (i := 1) sc_law.nd rfl (.inl rfl)) (pgs_cons (pg_name (i := 2) sc_law.nd rfl (.inl rfl)) pgs_nil)) rfl rfl)
      (pss_cons (ps_set (i := 3) sc_law.nd rfl (.inl rfl) (pe_call (ok__law_draw (P := P) T) (hr.mono (by decide)) (by rfl) T.g__law_draw T.F__law_draw.kp T.b__law_draw .nil pass0 (pa_cons (pv 2) (pa_cons (pv 1) pa_nil))))
      (pss_cons (ps_asg (pe_call (ok__law_response (P := P) T) (hr.mono (by decide)) (by rfl) T.g__law_response T.F__law_response.kp T.b__law_response .nil pass0 (pa_cons (pv 3) pa_nil)) (kgTup (K := K) (n := 2) rfl rfl (pgs_cons (pg_name (i := 4) sc_law.nd rfl (.inl rfl)) (pgs_cons (pg_name (i := 5) sc_law.nd rfl (.inl rfl)) pgs_nil)) rfl rfl))
      (pss_cons (ps_if (PW.pt (pw_or (pt_cmpR op_ne (pe_callB (call_reprX K rfl gd hr.units) (by rfl) T.n_repr (by decide +kernel) (pa_cons (pe_call (ok_is_answer (P := P) T) (hr.mono (by decide)) (by rfl) T.g_is_answer T.F_is_answer.kp T.b_is_answer .nil pass0 (pa_cons (pv 4) pa_nil)) pa_nil)) (pe_callB (call_reprX K rfl gd hr.units) (by rfl) T.n_repr (by decide +kernel) (pa_cons (pv 5) pa_nil)) (nomark _)) (pw_or1 (pt_not (pt_val (pe_callG (ok__law_table_right (P := P) T) (hr.mono (by decide)) gd (by rfl) T.g__law_table_right T.F__law_table_right.kp T.b__law_table_right .nil pass0 (pa_cons (pv 3) pa_nil)))))))
      (pss_one (ps_ret pe_bl))
      pss_nil)
      (pss_cons (ps_set (i := 6) sc_law.nd rfl (.inl rfl) (pe_op op_add pe_int (pe_call (ok__law_digit (P := P) T) (hr.mono (by decide)) (by rfl) T.g__law_digit T.F__law_digit.kp T.b__law_digit .nil pass0 (pa_cons (pv 3) (pa_cons pe_int pa_nil)))))
      (pss_cons (ps_set (i := 7) sc_law.nd rfl (.inl rfl) (pe_callTy (kTup (K := K) rfl) (by rfl) T.n_tuple (by decide +kernel) (pa_cons (pe_lc (own := [("_law_at", 9)]) (g := gName 9) (tt := tYes) (by rfl) sc_law.nd (pi_range1 (by rfl) T.n_range (pa_cons (pv 6) pa_nil)) (blkOk_by (own := [("_law_at", 9)]) (N := N_law) (sc := defScope S_law) (by decide +kernel)) (fun _ _ _ _ _ => (pg_name (i := 9) sc_law.nd rfl (.inl rfl))) (fun _ _ _ _ _ => pts_nil) (fun _ _ _ _ _ => (pe_tup (pa_cons (pe_tup (pa_cons pe_str (pa_cons (pe_op op_add_str (pe_op op_add_str pe_str (pe_callTy call_str_int (by rfl) T.n_str (by decide +kernel) (pa_cons (pv 9) pa_nil))) pe_str) (pa_cons pe_str pa_nil)))) (pa_cons (pe_tup (pa_cons (pe_tup pa_nil) (pa_cons pe_non (pa_cons (pe_tup pa_nil) pa_nil)))) pa_nil))))) pa_nil)))
      (pss_cons (ps_if (pt_cmpR (kNe (K := K) rfl hr.units) (pe_call (ok__law_error (P := P) T) (hr.mono (by decide)) (by rfl) T.g__law_error T.F__law_error.kp T.b__law_error .nil pass0 (pa_cons (pv 7) pa_nil)) (pe_ifExp (pt_cmpR op_gt (pv 6) pe_int (nomark _)) (pe_lst (pa_cons pe_int pa_nil)) (pe_lstB pa_nil)) (nomark _))
      (pss_one (ps_ret pe_bl))
      pss_nil)
      (pss_cons (ps_set (i := 8) sc_law.nd rfl (.inl rfl) (pe_call (ok__law_pick (P := P) T) (hr.mono (by decide)) (by rfl) T.g__law_pick T.F__law_pick.kp T.b__law_pick .nil pass0 (pa_cons (pv 3) (pa_cons (pe_lst (pa_cons pe_non (pa_cons pe_int (pa_cons pe_dnewK (pa_cons (pe_lstB pa_nil) (pa_cons pe_str (pa_cons pe_bl pa_nil))))))) pa_nil))))
      (pss_one (ps_if (PW.pt (pw_or (pt_cmpR (kNe (K := K) rfl hr.units) (pe_call (ok__law_error (P := P) T) (hr.mono (by decide)) (by rfl) T.g__law_error T.F__law_error.kp T.b__law_error .nil pass0 (pa_cons (pv 8) pa_nil)) (pe_lst (pa_cons pe_non pa_nil)) (nomark _)) (pw_or1 (pt_cmpR op_notBl (pe_call (ok_is_answer (P := P) T) (hr.mono (by decide)) (by rfl) T.g_is_answer T.F_is_answer.kp T.b_is_answer .nil pass0 (pa_cons (pv 8) pa_nil)) pe_bl (nomark _)))))
      (pss_one (ps_ret pe_bl))
      pss_nil))))))))))
      (pss_one (ps_ret pe_bl))), ?_⟩
  refine GoS.seq ?_
  refine GoS.forE [1, 2, 3, 4, 5, 6, 7, 8, 9] ?_ fun L' O' h => GoS.weak [1, 2, 3, 4, 5, 6, 7, 8, 9] rfl h
  walk_at "cj11"
  · have := cut_len (a.map it) none (some 4)
    rw [List.length_map] at this
    simp only [List.length_singleton]
    omega
  have hc6 : (cut (a.map it) none (some 4)) = (a.take 4).map it := by rw [show (4 : Int) = ((4 : Nat) : Int) from rfl, cut_to, List.map_take]
  rw [hc6, show (a.take 4).map it ++ [it a.sum] = (a.take 4 ++ [a.sum]).map it by rw [List.map_append]; rfl]
  have hnl : (a.take 4 ++ [a.sum]).length ≤ 5 := by rw [List.length_append, List.length_take, List.length_singleton]; omega
  generalize a.take 4 ++ [a.sum] = ns at hnl
  refine ⟨[some (sql K (a.map it)), none, none, none, none, none, none, none, none, none], fun i O' => O' = [], rfl, rfl, ?_, ?_⟩
  · rintro i A O' hi rfl
    obtain ⟨B, hB, rfl⟩ := enA_at hi
    rw [List.getElem?_map] at hB
    obtain ⟨c, hc, rfl⟩ := Option.map_eq_some_iff.mp hB
    have hlt : i < 5 := by
      have := (List.getElem?_eq_some_iff.mp hc).1
      omega
    refine GoG.tup rfl (GoGs.cons (GoG.name (GoGs.cons (GoG.name (GoGs.nil ?_)))))
    refine GoS.post (GoS.seq (GoS.set (Go.drawR (GoA.cons (Go.var rfl (GoA.cons (Go.var rfl (GoA.nil ⟨c, i, rfl, ⟨by omega, by omega⟩, fun D => ?_⟩))))))))
    show GoS [some (sql K (a.map it)), some (it (i : Int)), some (it c), some (pt D), none, none, none, none, none, none] [(D, .dr 100000)] _ _
    refine GoS.seq (GoS.asg (Go.call (fun _ => dr1) (GoA.cons (Go.var rfl (GoA.nil ⟨(D, 100000), [], rfl, rfl, (by show 100000 ≤ 70000000; decide), ?_⟩)))))
    rintro _ _ ⟨d, m, rfl, _, hz, hm, rfl⟩
    have hm : m ≤ 101000 := hm
    refine GoG.tup rfl (GoGs.cons (GoG.name (GoGs.cons (GoG.name (GoGs.nil ?_)))))
    show GoS [some (sql K (a.map it)), some (it (i : Int)), some (it c), some (pt D), some (dA K d), some (bo (ansB d)), none, none, none, none] [(D, .dr m)] _ _
    refine GoS.seq (GoS.mid (fun L' O' => L' = [some (sql K (a.map it)), some (it (i : Int)), some (it c), some (pt D), some (dA K d), some (bo (ansB d)), none, none, none, none] ∧ ∃ m', m' ≤ 130000 ∧ O' = [(D, .dr m')]) ?_ ?_)
    · refine GoS.ite (GoT.or (GoT.test (Go.op (Go.cb (GoA.cons (Go.callP (GoA.cons (Go.var rfl (GoA.nil ⟨d, rfl, hz.ok, GoA.nil (v_reprS (ShD.bo (x := ansB d)) (by decide) (by decide) (Go.cb (GoA.cons (Go.var rfl (GoA.nil (v_reprS (ShD.bo (x := ansB d)) (by decide) (by decide) (v_neS ⟨_, rfl, fun z => (by simp at z), fun _ => ?_⟩)))))))⟩)))))))))
      refine GoT.not (GoT.b (Go.call (fun _ => dr1) (GoA.cons (Go.var rfl (GoA.nil ⟨(D, m), [], rfl, rfl, (by show m ≤ 50000000; omega), ?_⟩)))))
      rintro _ _ ⟨rfl, m2, hm2, rfl⟩
      have hm2 : m2 ≤ m + 20000 := hm2
      exact ⟨true, rfl, fun z => (by cases z), fun _ => GoS.nil ⟨rfl, m2, by omega, rfl⟩⟩
    rintro _ _ ⟨rfl, m2, hm2, rfl⟩
    show GoS _ _ _ _
    refine GoS.seq (GoS.set (Go.op (Go.c (Go.digit (GoA.cons (Go.var rfl (GoA.cons (Go.c (GoA.nil ⟨D, 4, m2, [], rfl, rfl, ⟨by decide, by decide, by omega⟩, fun x x0 x1 => v_addI ?_⟩)))))))))
    obtain ⟨w, hw, hwm⟩ : ∃ w : Nat, 29 + x = (w : Int) ∧ w ∈ [29, 30, 31, 32] := by
      refine ⟨(29 + x).toNat, by omega, ?_⟩
      simp only [List.mem_cons, List.not_mem_nil, or_false]
      omega
    rw [hw]
    obtain ⟨w1, w2⟩ := wide_tab w hwm
    have w2 := sz_of w2
    have w33 : w < 33 := by
      simp only [List.mem_cons, List.not_mem_nil, or_false] at hwm
      omega
    show GoS [some (sql K (a.map it)), some (it (i : Int)), some (it c), some (pt D), some (dA K d), some (bo (ansB d)), some (it (w : Int)), none, none, none] [(D, .dr (m2 + 4))] _ _
    refine GoS.seq (GoS.set (Go.cb (GoA.cons (Go.lcM1 (K := K) (O9 := [(D, .dr (m2 + 4))]) (l := List.range w) (f := fun j : Nat => it (0 + (j : Int))) (B := fun j : Nat => dA K (wideD (j : Int))) (GoI.rng1 (GoA.cons (Go.var rfl (GoA.nil ⟨(w : Int), rfl, ⟨by omega, by omega⟩, rfl, rfl⟩)))) (fun j hj T9 => ?_) (by rw [List.length_range]; omega) (GoA.nil (v_tupL ?_))))))
    · have hj33 : j < 33 := Nat.lt_trans (List.mem_range.mp hj) w33
      obtain ⟨s1, s2⟩ := strJ j (List.mem_range.mpr hj33)
      refine Go.tup (K := K) (GoA.cons (Go.tup (K := K) (GoA.cons (Go.cS (l := [104, 116, 116, 112, 115]) LitS.eq (GoA.cons ?_)))))
      refine Go.op (Go.op (Go.cS (l := [104]) LitS.eq (Go.cb (GoA.cons (Go.var rfl (GoA.nil ?_))))))
      rw [Int.zero_add]
      refine v_strI s1 (v_catS (by show 1 + (numS (j : Int)).length ≤ 100000; omega) (Go.cS (l := [46, 99, 111, 109]) LitS.eq (v_catS (by rw [List.length_append]; show 1 + (numS (j : Int)).length + 4 ≤ 100000; omega) ?_)))
      refine GoA.cons (Go.cS (l := [47]) LitS.eq (GoA.nil ⟨Nat.le_of_ble_eq_true rfl, ?_⟩))
      exact GoA.cons (Go.tup (K := K) (GoA.cons (Go.tup (K := K) (GoA.nil ⟨Nat.le_of_ble_eq_true rfl, GoA.cons (Go.c (GoA.cons (Go.tup (K := K) (GoA.nil ⟨Nat.le_of_ble_eq_true rfl, GoA.nil ⟨Nat.le_of_ble_eq_true rfl, GoA.nil ⟨Nat.le_of_ble_eq_true rfl, rfl, rfl⟩⟩⟩))))⟩))))
    have eT : tup K ((List.range w).map fun j : Nat => dA K (wideD (j : Int))) = dA K (.t (wides w)) := by
      show _ = tup K (dAs K (wides w))
      rw [dAs_map]
      unfold wides
      rw [List.map_map]
      rfl
    rw [eT]
    show GoS [some (sql K (a.map it)), some (it (i : Int)), some (it c), some (pt D), some (dA K d), some (bo (ansB d)), some (it (w : Int)), some (dA K (.t (wides w))), none, none] [(D, .dr (m2 + 4))] _ _
    refine GoS.seq (GoS.ifF (GoT.test (Go.op (Go.callP (GoA.cons (Go.var rfl (GoA.nil ⟨.t (wides w), rfl, w2.ok, Go.ite (GoT.test (Go.op (Go.var rfl (Go.c (v_gt ⟨_, rfl, fun z => ?_, fun z => ?_⟩)))))⟩)))))) (GoS.nil ?_))
    · have z := of_decide_eq_true z
      have e : errL (.t (wides w)) = [it 30] := by
        unfold errL
        show (match (tabFrom [] 0 (wides w)).map some with
          | none => []
          | some o => [idxA o]) = _
        rw [w1, if_pos (by omega)]
        rfl
      rw [e]
      have hs := ShD.lst (K := K) (.cons (.it (i := 30) (by decide) (by decide)) .nil)
      exact Go.lst (K := K) (GoA.cons (Go.c (GoA.nil ⟨Nat.le_of_ble_eq_true rfl, v_neSh hs hs (by decide) ⟨_, rfl, rfl, rfl⟩⟩)))
    · have z := of_decide_eq_false z
      have e : errL (.t (wides w)) = [] := by
        unfold errL
        show (match (tabFrom [] 0 (wides w)).map some with
          | none => []
          | some o => [idxA o]) = _
        rw [w1, if_neg (by omega)]
        rfl
      rw [e]
      have hs := ShD.lst (K := K) .nil
      exact Go.lstB (K := K) (GoA.nil ⟨Nat.le_of_ble_eq_true rfl, v_neSame hs.is (isD_lstB .nil) (hs.shp (by decide)) ⟨_, rfl, rfl, rfl⟩⟩)
    show GoS [some (sql K (a.map it)), some (it (i : Int)), some (it c), some (pt D), some (dA K d), some (bo (ansB d)), some (it (w : Int)), some (dA K (.t (wides w))), none, none] [(D, .dr (m2 + 4))] _ _
    refine GoS.seq (GoS.set (Go.pickD [.n, .i 5, .e, .l [], .s [116, 97, 98, 108, 101], .b true] (GoA.cons (Go.var rfl (GoA.cons (Go.lst (K := K) ?_))))))
    refine GoA.cons (Go.c (GoA.cons (Go.c (GoA.cons ?_))))
    walk_at "cj11"
    refine ⟨D, m2 + 4, [], rfl, rfl, ⟨by decide, by decide, by omega⟩, Keep.mk fun x hx => ?_⟩
    have hx2 : dK x = true ∧ ansB x = false ∧ errL x = [no] := by
      simp only [List.mem_cons, List.not_mem_nil, or_false] at hx
      rcases hx with rfl | rfl | rfl | rfl | rfl | rfl <;> exact ⟨by decide, rfl, rfl⟩
    obtain ⟨x1, x2, x3⟩ := hx2
    have hnone := ShD.lst (K := K) (.cons .no .nil)
    show GoS [some (sql K (a.map it)), some (it (i : Int)), some (it c), some (pt D), some (dA K d), some (bo (ansB d)), some (it (w : Int)), some (dA K (.t (wides w))), some (dA K x), none] [(D, .dr (m2 + 8))] _ _
    refine GoS.ifF (GoT.join (false || false) (GoT.orJ (p := false) (q := false) ?_ (fun _ => ?_) ⟨rfl, rfl⟩) ⟨rfl, rfl⟩) (GoS.nil ?_)
    · refine GoT.test (Go.op (Go.callP (GoA.cons (Go.var rfl (GoA.nil ⟨x, rfl, x1, ?_⟩)))))
      rw [x3]
      exact Go.lst (K := K) (GoA.cons (Go.c (GoA.nil ⟨Nat.le_of_ble_eq_true rfl, v_neSh hnone hnone (by decide) ⟨_, rfl, rfl, rfl⟩⟩)))
    · refine GoT.test (Go.op (Go.callP (GoA.cons (Go.var rfl (GoA.nil ⟨x, rfl, x1, ?_⟩)))))
      rw [x2]
      exact Go.c (v_notBl7 ⟨_, rfl, rfl, rfl⟩)
    · exact ⟨[], FrLe.drop _, rfl, rfl⟩
  · rintro O' rfl
    exact GoS.ret (Go.c rfl)

end
section
def spz_law (K : PySem.W.Frag) : Sp := fun vs H Q _ => ∃ (a : Addr) (ns : List Int), vs = [.ref a] ∧ SqL K H a (ns.map V.int) ∧ ns.length ≤ 63 ∧ ∀ H', Q (.bl true) H'
theorem okz_law {P : Program} {w : World} {K : PySem.W.Frag} {mg : Str → Option Value} {base : Heap} [IsP P] (T : Txt K mg w) : FnG P w K mg base CX0 13 T.f_law T.d_law ["_law_script"] (spz_law K) := (ok_law T).imp fun vs H Q E h => by
  obtain ⟨a, ns, rfl, hS, hl, q⟩ := h
  refine ⟨ns, H, hl, .cons ⟨a, _, rfl, hS, all2_it ns⟩ .nil, ⟨Same.refl _, Same.refl _, fun _ _ _ h => h, fun _ h => h, fun b h n => absurd h n, fun x hx => (by cases hx), .nil⟩, fun A O' G' H' v hA f hv => ?_⟩
  obtain rfl : A = bo true := hA
  obtain rfl : v = .bl true := hv
  exact q H'

end
section
variable {P : Program} {w : World} {K : PySem.W.Frag} {mg : Str → Option Value} {base : Heap} [IsP P]
end
theorem all_mk {w : World} {K : PySem.W.Frag} {h : Heap} {mg : Str → Option Value} {fa : Addr} (X : K.In h) (G : h.Ns mainGlobals mg) (hfa : mg "law" = some (.ref fa))
    {f0 : Addr} {od0 an0 : Option Addr} {sl0 : Array (Option Value)} {oc0 kV0 dc0 pm0 cd0 ct0 : Value}
    (a0 : PySem.W.nsIn K mainGlobals "s1_is_number_word" = some (some (.ref f0))) (l0 : K.lookup f0 = some ⟨oc0, od0, .func (PySem.W.fnOf "s1_is_number_word" "s1_is_number_word" (defArgs S_s1_is_number_word) (defBody S_s1_is_number_word) (defScope S_s1_is_number_word) .none kV0 dc0 pm0 an0 cd0 ct0), sl0⟩) (c0 : PySem.W.codeIn K cd0 "s1_is_number_word" = true) (k0 : PySem.W.keepIn K (.ref f0) = true)
    {f1 : Addr} {od1 an1 : Option Addr} {sl1 : Array (Option Value)} {oc1 kV1 dc1 pm1 cd1 ct1 : Value}
    (a1 : PySem.W.nsIn K mainGlobals "s1_is_small" = some (some (.ref f1))) (l1 : K.lookup f1 = some ⟨oc1, od1, .func (PySem.W.fnOf "s1_is_small" "s1_is_small" (defArgs S_s1_is_small) (defBody S_s1_is_small) (defScope S_s1_is_small) .none kV1 dc1 pm1 an1 cd1 ct1), sl1⟩) (c1 : PySem.W.codeIn K cd1 "s1_is_small" = true) (k1 : PySem.W.keepIn K (.ref f1) = true)
    {f2 : Addr} {od2 an2 : Option Addr} {sl2 : Array (Option Value)} {oc2 kV2 dc2 pm2 cd2 ct2 : Value}
    (a2 : PySem.W.nsIn K mainGlobals "s1_is_label" = some (some (.ref f2))) (l2 : K.lookup f2 = some ⟨oc2, od2, .func (PySem.W.fnOf "s1_is_label" "s1_is_label" (defArgs S_s1_is_label) (defBody S_s1_is_label) (defScope S_s1_is_label) .none kV2 dc2 pm2 an2 cd2 ct2), sl2⟩) (c2 : PySem.W.codeIn K cd2 "s1_is_label" = true) (k2 : PySem.W.keepIn K (.ref f2) = true)
    {f3 : Addr} {od3 an3 : Option Addr} {sl3 : Array (Option Value)} {oc3 kV3 dc3 pm3 cd3 ct3 : Value}
    (a3 : PySem.W.nsIn K mainGlobals "is_address_host" = some (some (.ref f3))) (l3 : K.lookup f3 = some ⟨oc3, od3, .func (PySem.W.fnOf "is_address_host" "is_address_host" (defArgs S_is_address_host) (defBody S_is_address_host) (defScope S_is_address_host) .none kV3 dc3 pm3 an3 cd3 ct3), sl3⟩) (c3 : PySem.W.codeIn K cd3 "is_address_host" = true) (k3 : PySem.W.keepIn K (.ref f3) = true)
    {f4 : Addr} {od4 an4 : Option Addr} {sl4 : Array (Option Value)} {oc4 kV4 dc4 pm4 cd4 ct4 : Value}
    (a4 : PySem.W.nsIn K mainGlobals "is_host" = some (some (.ref f4))) (l4 : K.lookup f4 = some ⟨oc4, od4, .func (PySem.W.fnOf "is_host" "is_host" (defArgs S_is_host) (defBody S_is_host) (defScope S_is_host) .none kV4 dc4 pm4 an4 cd4 ct4), sl4⟩) (c4 : PySem.W.codeIn K cd4 "is_host" = true) (k4 : PySem.W.keepIn K (.ref f4) = true)
    {f5 : Addr} {od5 an5 : Option Addr} {sl5 : Array (Option Value)} {oc5 kV5 dc5 pm5 cd5 ct5 : Value}
    (a5 : PySem.W.nsIn K mainGlobals "s1_is_path_sign" = some (some (.ref f5))) (l5 : K.lookup f5 = some ⟨oc5, od5, .func (PySem.W.fnOf "s1_is_path_sign" "s1_is_path_sign" (defArgs S_s1_is_path_sign) (defBody S_s1_is_path_sign) (defScope S_s1_is_path_sign) .none kV5 dc5 pm5 an5 cd5 ct5), sl5⟩) (c5 : PySem.W.codeIn K cd5 "s1_is_path_sign" = true) (k5 : PySem.W.keepIn K (.ref f5) = true)
    {f6 : Addr} {od6 an6 : Option Addr} {sl6 : Array (Option Value)} {oc6 kV6 dc6 pm6 cd6 ct6 : Value}
    (a6 : PySem.W.nsIn K mainGlobals "is_path" = some (some (.ref f6))) (l6 : K.lookup f6 = some ⟨oc6, od6, .func (PySem.W.fnOf "is_path" "is_path" (defArgs S_is_path) (defBody S_is_path) (defScope S_is_path) .none kV6 dc6 pm6 an6 cd6 ct6), sl6⟩) (c6 : PySem.W.codeIn K cd6 "is_path" = true) (k6 : PySem.W.keepIn K (.ref f6) = true)
    {f7 : Addr} {od7 an7 : Option Addr} {sl7 : Array (Option Value)} {oc7 kV7 dc7 pm7 cd7 ct7 : Value}
    (a7 : PySem.W.nsIn K mainGlobals "is_origin" = some (some (.ref f7))) (l7 : K.lookup f7 = some ⟨oc7, od7, .func (PySem.W.fnOf "is_origin" "is_origin" (defArgs S_is_origin) (defBody S_is_origin) (defScope S_is_origin) .none kV7 dc7 pm7 an7 cd7 ct7), sl7⟩) (c7 : PySem.W.codeIn K cd7 "is_origin" = true) (k7 : PySem.W.keepIn K (.ref f7) = true)
    {f8 : Addr} {od8 an8 : Option Addr} {sl8 : Array (Option Value)} {oc8 kV8 dc8 pm8 cd8 ct8 : Value}
    (a8 : PySem.W.nsIn K mainGlobals "is_address" = some (some (.ref f8))) (l8 : K.lookup f8 = some ⟨oc8, od8, .func (PySem.W.fnOf "is_address" "is_address" (defArgs S_is_address) (defBody S_is_address) (defScope S_is_address) .none kV8 dc8 pm8 an8 cd8 ct8), sl8⟩) (c8 : PySem.W.codeIn K cd8 "is_address" = true) (k8 : PySem.W.keepIn K (.ref f8) = true)
    {f9 : Addr} {od9 an9 : Option Addr} {sl9 : Array (Option Value)} {oc9 kV9 dc9 pm9 cd9 ct9 : Value}
    (a9 : PySem.W.nsIn K mainGlobals "s6_is_text" = some (some (.ref f9))) (l9 : K.lookup f9 = some ⟨oc9, od9, .func (PySem.W.fnOf "s6_is_text" "s6_is_text" (defArgs S_s6_is_text) (defBody S_s6_is_text) (defScope S_s6_is_text) .none kV9 dc9 pm9 an9 cd9 ct9), sl9⟩) (c9 : PySem.W.codeIn K cd9 "s6_is_text" = true) (k9 : PySem.W.keepIn K (.ref f9) = true)
    {f10 : Addr} {od10 an10 : Option Addr} {sl10 : Array (Option Value)} {oc10 kV10 dc10 pm10 cd10 ct10 : Value}
    (a10 : PySem.W.nsIn K mainGlobals "s6_is_pair" = some (some (.ref f10))) (l10 : K.lookup f10 = some ⟨oc10, od10, .func (PySem.W.fnOf "s6_is_pair" "s6_is_pair" (defArgs S_s6_is_pair) (defBody S_s6_is_pair) (defScope S_s6_is_pair) .none kV10 dc10 pm10 an10 cd10 ct10), sl10⟩) (c10 : PySem.W.codeIn K cd10 "s6_is_pair" = true) (k10 : PySem.W.keepIn K (.ref f10) = true)
    {f11 : Addr} {od11 an11 : Option Addr} {sl11 : Array (Option Value)} {oc11 kV11 dc11 pm11 cd11 ct11 : Value}
    (a11 : PySem.W.nsIn K mainGlobals "s6_is_line" = some (some (.ref f11))) (l11 : K.lookup f11 = some ⟨oc11, od11, .func (PySem.W.fnOf "s6_is_line" "s6_is_line" (defArgs S_s6_is_line) (defBody S_s6_is_line) (defScope S_s6_is_line) .none kV11 dc11 pm11 an11 cd11 ct11), sl11⟩) (c11 : PySem.W.codeIn K cd11 "s6_is_line" = true) (k11 : PySem.W.keepIn K (.ref f11) = true)
    {f12 : Addr} {od12 an12 : Option Addr} {sl12 : Array (Option Value)} {oc12 kV12 dc12 pm12 cd12 ct12 : Value}
    (a12 : PySem.W.nsIn K mainGlobals "s6_is_part" = some (some (.ref f12))) (l12 : K.lookup f12 = some ⟨oc12, od12, .func (PySem.W.fnOf "s6_is_part" "s6_is_part" (defArgs S_s6_is_part) (defBody S_s6_is_part) (defScope S_s6_is_part) .none kV12 dc12 pm12 an12 cd12 ct12), sl12⟩) (c12 : PySem.W.codeIn K cd12 "s6_is_part" = true) (k12 : PySem.W.keepIn K (.ref f12) = true)
    {f13 : Addr} {od13 an13 : Option Addr} {sl13 : Array (Option Value)} {oc13 kV13 dc13 pm13 cd13 ct13 : Value}
    (a13 : PySem.W.nsIn K mainGlobals "is_answer" = some (some (.ref f13))) (l13 : K.lookup f13 = some ⟨oc13, od13, .func (PySem.W.fnOf "is_answer" "is_answer" (defArgs S_is_answer) (defBody S_is_answer) (defScope S_is_answer) .none kV13 dc13 pm13 an13 cd13 ct13), sl13⟩) (c13 : PySem.W.codeIn K cd13 "is_answer" = true) (k13 : PySem.W.keepIn K (.ref f13) = true)
    {f14 : Addr} {od14 an14 : Option Addr} {sl14 : Array (Option Value)} {oc14 kV14 dc14 pm14 cd14 ct14 : Value}
    (a14 : PySem.W.nsIn K mainGlobals "s6_is_item" = some (some (.ref f14))) (l14 : K.lookup f14 = some ⟨oc14, od14, .func (PySem.W.fnOf "s6_is_item" "s6_is_item" (defArgs S_s6_is_item) (defBody S_s6_is_item) (defScope S_s6_is_item) .none kV14 dc14 pm14 an14 cd14 ct14), sl14⟩) (c14 : PySem.W.codeIn K cd14 "s6_is_item" = true) (k14 : PySem.W.keepIn K (.ref f14) = true)
    {f15 : Addr} {od15 an15 : Option Addr} {sl15 : Array (Option Value)} {oc15 kV15 dc15 pm15 cd15 ct15 : Value}
    (a15 : PySem.W.nsIn K mainGlobals "check_table" = some (some (.ref f15))) (l15 : K.lookup f15 = some ⟨oc15, od15, .func (PySem.W.fnOf "check_table" "check_table" (defArgs S_check_table) (defBody S_check_table) (defScope S_check_table) .none kV15 dc15 pm15 an15 cd15 ct15), sl15⟩) (c15 : PySem.W.codeIn K cd15 "check_table" = true) (k15 : PySem.W.keepIn K (.ref f15) = true)
    {f16 : Addr} {od16 an16 : Option Addr} {sl16 : Array (Option Value)} {oc16 kV16 dc16 pm16 cd16 ct16 : Value}
    (a16 : PySem.W.nsIn K mainGlobals "_law_mixed" = some (some (.ref f16))) (l16 : K.lookup f16 = some ⟨oc16, od16, .func (PySem.W.fnOf "_law_mixed" "_law_mixed" (defArgs S__law_mixed) (defBody S__law_mixed) (defScope S__law_mixed) .none kV16 dc16 pm16 an16 cd16 ct16), sl16⟩) (c16 : PySem.W.codeIn K cd16 "_law_mixed" = true) (k16 : PySem.W.keepIn K (.ref f16) = true)
    {f17 : Addr} {od17 an17 : Option Addr} {sl17 : Array (Option Value)} {oc17 kV17 dc17 pm17 cd17 ct17 : Value}
    (a17 : PySem.W.nsIn K mainGlobals "_law_draw" = some (some (.ref f17))) (l17 : K.lookup f17 = some ⟨oc17, od17, .func (PySem.W.fnOf "_law_draw" "_law_draw" (defArgs S__law_draw) (defBody S__law_draw) (defScope S__law_draw) .none kV17 dc17 pm17 an17 cd17 ct17), sl17⟩) (c17 : PySem.W.codeIn K cd17 "_law_draw" = true) (k17 : PySem.W.keepIn K (.ref f17) = true)
    {f18 : Addr} {od18 an18 : Option Addr} {sl18 : Array (Option Value)} {oc18 kV18 dc18 pm18 cd18 ct18 : Value}
    (a18 : PySem.W.nsIn K mainGlobals "_law_digit" = some (some (.ref f18))) (l18 : K.lookup f18 = some ⟨oc18, od18, .func (PySem.W.fnOf "_law_digit" "_law_digit" (defArgs S__law_digit) (defBody S__law_digit) (defScope S__law_digit) .none kV18 dc18 pm18 an18 cd18 ct18), sl18⟩) (c18 : PySem.W.codeIn K cd18 "_law_digit" = true) (k18 : PySem.W.keepIn K (.ref f18) = true)
    {f19 : Addr} {od19 an19 : Option Addr} {sl19 : Array (Option Value)} {oc19 kV19 dc19 pm19 cd19 ct19 : Value}
    (a19 : PySem.W.nsIn K mainGlobals "_law_pick" = some (some (.ref f19))) (l19 : K.lookup f19 = some ⟨oc19, od19, .func (PySem.W.fnOf "_law_pick" "_law_pick" (defArgs S__law_pick) (defBody S__law_pick) (defScope S__law_pick) .none kV19 dc19 pm19 an19 cd19 ct19), sl19⟩) (c19 : PySem.W.codeIn K cd19 "_law_pick" = true) (k19 : PySem.W.keepIn K (.ref f19) = true)
    {f20 : Addr} {od20 an20 : Option Addr} {sl20 : Array (Option Value)} {oc20 kV20 dc20 pm20 cd20 ct20 : Value}
    (a20 : PySem.W.nsIn K mainGlobals "_law_place" = some (some (.ref f20))) (l20 : K.lookup f20 = some ⟨oc20, od20, .func (PySem.W.fnOf "_law_place" "_law_place" (defArgs S__law_place) (defBody S__law_place) (defScope S__law_place) .none kV20 dc20 pm20 an20 cd20 ct20), sl20⟩) (c20 : PySem.W.codeIn K cd20 "_law_place" = true) (k20 : PySem.W.keepIn K (.ref f20) = true)
    {f21 : Addr} {od21 an21 : Option Addr} {sl21 : Array (Option Value)} {oc21 kV21 dc21 pm21 cd21 ct21 : Value}
    (a21 : PySem.W.nsIn K mainGlobals "_law_one_line" = some (some (.ref f21))) (l21 : K.lookup f21 = some ⟨oc21, od21, .func (PySem.W.fnOf "_law_one_line" "_law_one_line" (defArgs S__law_one_line) (defBody S__law_one_line) (defScope S__law_one_line) .none kV21 dc21 pm21 an21 cd21 ct21), sl21⟩) (c21 : PySem.W.codeIn K cd21 "_law_one_line" = true) (k21 : PySem.W.keepIn K (.ref f21) = true)
    {f22 : Addr} {od22 an22 : Option Addr} {sl22 : Array (Option Value)} {oc22 kV22 dc22 pm22 cd22 ct22 : Value}
    (a22 : PySem.W.nsIn K mainGlobals "_law_one_part" = some (some (.ref f22))) (l22 : K.lookup f22 = some ⟨oc22, od22, .func (PySem.W.fnOf "_law_one_part" "_law_one_part" (defArgs S__law_one_part) (defBody S__law_one_part) (defScope S__law_one_part) .none kV22 dc22 pm22 an22 cd22 ct22), sl22⟩) (c22 : PySem.W.codeIn K cd22 "_law_one_part" = true) (k22 : PySem.W.keepIn K (.ref f22) = true)
    {f23 : Addr} {od23 an23 : Option Addr} {sl23 : Array (Option Value)} {oc23 kV23 dc23 pm23 cd23 ct23 : Value}
    (a23 : PySem.W.nsIn K mainGlobals "_law_some" = some (some (.ref f23))) (l23 : K.lookup f23 = some ⟨oc23, od23, .func (PySem.W.fnOf "_law_some" "_law_some" (defArgs S__law_some) (defBody S__law_some) (defScope S__law_some) .none kV23 dc23 pm23 an23 cd23 ct23), sl23⟩) (c23 : PySem.W.codeIn K cd23 "_law_some" = true) (k23 : PySem.W.keepIn K (.ref f23) = true)
    {f24 : Addr} {od24 an24 : Option Addr} {sl24 : Array (Option Value)} {oc24 kV24 dc24 pm24 cd24 ct24 : Value}
    (a24 : PySem.W.nsIn K mainGlobals "_law_response" = some (some (.ref f24))) (l24 : K.lookup f24 = some ⟨oc24, od24, .func (PySem.W.fnOf "_law_response" "_law_response" (defArgs S__law_response) (defBody S__law_response) (defScope S__law_response) .none kV24 dc24 pm24 an24 cd24 ct24), sl24⟩) (c24 : PySem.W.codeIn K cd24 "_law_response" = true) (k24 : PySem.W.keepIn K (.ref f24) = true)
    {f25 : Addr} {od25 an25 : Option Addr} {sl25 : Array (Option Value)} {oc25 kV25 dc25 pm25 cd25 ct25 : Value}
    (a25 : PySem.W.nsIn K mainGlobals "_law_error" = some (some (.ref f25))) (l25 : K.lookup f25 = some ⟨oc25, od25, .func (PySem.W.fnOf "_law_error" "_law_error" (defArgs S__law_error) (defBody S__law_error) (defScope S__law_error) .none kV25 dc25 pm25 an25 cd25 ct25), sl25⟩) (c25 : PySem.W.codeIn K cd25 "_law_error" = true) (k25 : PySem.W.keepIn K (.ref f25) = true)
    {f26 : Addr} {od26 an26 : Option Addr} {sl26 : Array (Option Value)} {oc26 kV26 dc26 pm26 cd26 ct26 : Value}
    (a26 : PySem.W.nsIn K mainGlobals "_law_item" = some (some (.ref f26))) (l26 : K.lookup f26 = some ⟨oc26, od26, .func (PySem.W.fnOf "_law_item" "_law_item" (defArgs S__law_item) (defBody S__law_item) (defScope S__law_item) .none kV26 dc26 pm26 an26 cd26 ct26), sl26⟩) (c26 : PySem.W.codeIn K cd26 "_law_item" = true) (k26 : PySem.W.keepIn K (.ref f26) = true)
    {f27 : Addr} {od27 an27 : Option Addr} {sl27 : Array (Option Value)} {oc27 kV27 dc27 pm27 cd27 ct27 : Value}
    (a27 : PySem.W.nsIn K mainGlobals "_law_table_right" = some (some (.ref f27))) (l27 : K.lookup f27 = some ⟨oc27, od27, .func (PySem.W.fnOf "_law_table_right" "_law_table_right" (defArgs S__law_table_right) (defBody S__law_table_right) (defScope S__law_table_right) .none kV27 dc27 pm27 an27 cd27 ct27), sl27⟩) (c27 : PySem.W.codeIn K cd27 "_law_table_right" = true) (k27 : PySem.W.keepIn K (.ref f27) = true)
    {f28 : Addr} {od28 an28 : Option Addr} {sl28 : Array (Option Value)} {oc28 kV28 dc28 pm28 cd28 ct28 : Value}
    (a28 : PySem.W.nsIn K mainGlobals "law" = some (some (.ref f28))) (l28 : K.lookup f28 = some ⟨oc28, od28, .func (PySem.W.fnOf "law" "law" (defArgs S_law) (defBody S_law) (defScope S_law) .none kV28 dc28 pm28 an28 cd28 ct28), sl28⟩) (c28 : PySem.W.codeIn K cd28 "law" = true) (k28 : PySem.W.keepIn K (.ref f28) = true)
    {t_DIGITS : Tok} (v_DIGITS : PySem.W.nsIn K mainGlobals "DIGITS" = some (some (.str cs_DIGITS t_DIGITS)))
    {t_MOST_SIGNS : Tok} (v_MOST_SIGNS : PySem.W.nsIn K mainGlobals "MOST_SIGNS" = some (some (.int (100) t_MOST_SIGNS)))
    {t_MOST_LABELS : Tok} (v_MOST_LABELS : PySem.W.nsIn K mainGlobals "MOST_LABELS" = some (some (.int (10) t_MOST_LABELS)))
    {t_MOST_LABEL : Tok} (v_MOST_LABEL : PySem.W.nsIn K mainGlobals "MOST_LABEL" = some (some (.int (20) t_MOST_LABEL)))
    {t_LABEL_SIGNS : Tok} (v_LABEL_SIGNS : PySem.W.nsIn K mainGlobals "LABEL_SIGNS" = some (some (.str cs_LABEL_SIGNS t_LABEL_SIGNS)))
    {t_MOST_PATH : Tok} (v_MOST_PATH : PySem.W.nsIn K mainGlobals "MOST_PATH" = some (some (.int (200) t_MOST_PATH)))
    {t_PATH_SIGNS : Tok} (v_PATH_SIGNS : PySem.W.nsIn K mainGlobals "PATH_SIGNS" = some (some (.str cs_PATH_SIGNS t_PATH_SIGNS)))
    {t_S6_MOST_ITEMS : Tok} (v_S6_MOST_ITEMS : PySem.W.nsIn K mainGlobals "S6_MOST_ITEMS" = some (some (.int (30) t_S6_MOST_ITEMS)))
    {t_S6_MOST_LINES : Tok} (v_S6_MOST_LINES : PySem.W.nsIn K mainGlobals "S6_MOST_LINES" = some (some (.int (5) t_S6_MOST_LINES)))
    {t_S6_MOST_PARTS : Tok} (v_S6_MOST_PARTS : PySem.W.nsIn K mainGlobals "S6_MOST_PARTS" = some (some (.int (4) t_S6_MOST_PARTS)))
    {t_S6_MOST_SIGNS : Tok} (v_S6_MOST_SIGNS : PySem.W.nsIn K mainGlobals "S6_MOST_SIGNS" = some (some (.int (400) t_S6_MOST_SIGNS)))
    {ca_SCHEMES : Addr} {cn_SCHEMES : Nat} {cl_SCHEMES : Array (Option Value)} {ck_SCHEMES_0 ck_SCHEMES_1 : Tok}
    (v_SCHEMES : PySem.W.nsIn K mainGlobals "SCHEMES" = some (some (.ref ca_SCHEMES))) (l_SCHEMES : K.lookup ca_SCHEMES = some ⟨.type "tuple", none, .seq #[.str ⟨#[104, 116, 116, 112]⟩ ck_SCHEMES_0, .str ⟨#[104, 116, 116, 112, 115]⟩ ck_SCHEMES_1] cn_SCHEMES, cl_SCHEMES⟩)
    {C_BadTable I_BadTable cda_BadTable cc_BadTable N_BadTable : Addr} {nm_BadTable qn_BadTable fi_BadTable : Str} {bs_BadTable bm_BadTable sub_BadTable : List Value} {sn_BadTable : List Str} {ab_BadTable : Bool} {col_BadTable : Option Bool} {dd_BadTable odi_BadTable ani_BadTable cdd_BadTable cld_BadTable : Option Addr} {m0_BadTable m1_BadTable m2_BadTable m3_BadTable m5_BadTable : Option Value} {oci_BadTable kVi_BadTable doci_BadTable pmi_BadTable cti_BadTable ccl_BadTable clv_BadTable : Value} {osl_BadTable ccs_BadTable csl_BadTable : Array (Option Value)} {vs_BadTable : Array Value} {tf_BadTable : Tok}
    (aC_BadTable : PySem.W.nsIn K mainGlobals "BadTable" = some (some (.ref C_BadTable))) (xL_BadTable : K.lookup C_BadTable = some (excClassObj nm_BadTable qn_BadTable C_BadTable N_BadTable bs_BadTable bm_BadTable true sn_BadTable sub_BadTable ab_BadTable col_BadTable dd_BadTable m0_BadTable m1_BadTable m2_BadTable m3_BadTable m5_BadTable "ValueError.__new__")) (rv_BadTable : PySem.HandSPX.refsVE bm_BadTable = true)
    (sa_BadTable : PySem.W.findIn K (.ref C_BadTable) "__setattr__" = some (some (.builtin "object.__setattr__"))) (ga_BadTable : PySem.W.findIn K (.ref C_BadTable) "__getattribute__" = some (some (.builtin "BaseException.__getattribute__"))) (gg_BadTable : PySem.W.findIn K (.ref C_BadTable) "__getattr__" = some none) (no_BadTable : PySem.W.findIn K (.ref C_BadTable) "index" = some none)
    (fi1_BadTable : PySem.W.findIn K (.ref C_BadTable) "__init__" = some (some (.ref I_BadTable))) (ti_BadTable : PySem.W.typeIn K (.ref I_BadTable) = some (.type "function")) (me_BadTable : PySem.W.mroIn K C_BadTable (.ref C_BadTable) = some true) (an_BadTable : PySem.W.nsIn K cStatics "thirdparty.any" = some none) (up_BadTable : PySem.W.ks_superIn K C_BadTable C_BadTable "__init__" = some (some (.builtin "ValueError.__init__")))
    (iv_BadTable : PySem.W.subIn K (.ref C_BadTable) (.type "ValueError") = some true) (xc_BadTable : PySem.W.subIn K (.ref C_BadTable) (.type "BaseException") = some true) (ty_BadTable : PySem.W.typeIn K (.ref C_BadTable) = some (.type "type")) (ke_BadTable : PySem.W.keepIn K (.ref C_BadTable) = true) (hd_BadTable : PySem.W.hasDictIn K C_BadTable = true) (ic_BadTable : PySem.W.isClsIn K C_BadTable = true)
    (l_BadTable : K.lookup I_BadTable = some ⟨oci_BadTable, odi_BadTable, .func (PySem.W.ksFn "__init__" "BadTable.__init__" (defArgs SI_BadTable) (defBody SI_BadTable) (defScope SI_BadTable) .none kVi_BadTable doci_BadTable pmi_BadTable ani_BadTable (.ref cda_BadTable) cti_BadTable cc_BadTable), osl_BadTable⟩) (cd_BadTable : PySem.W.codeIn K (.ref cda_BadTable) "BadTable.__init__" = true) (lc_BadTable : K.lookup cda_BadTable = some ⟨ccl_BadTable, cdd_BadTable, .fields vs_BadTable, ccs_BadTable⟩) (v2_BadTable : vs_BadTable[2]? = some (.str fi_BadTable tf_BadTable))
    (fl_BadTable : ((PW.main.file : Str) == fi_BadTable) = true) (ll_BadTable : K.lookup cc_BadTable = some ⟨clv_BadTable, cld_BadTable, .cell (some (.ref C_BadTable)), csl_BadTable⟩)
    {C_CrumbError : Addr} (aC_CrumbError : PySem.W.nsIn K mainGlobals "CrumbError" = some (some (.ref C_CrumbError))) (xc_CrumbError : PySem.W.subIn K (.ref C_CrumbError) (.type "BaseException") = some true) (ty_CrumbError : PySem.W.typeIn K (.ref C_CrumbError) = some (.type "type")) (ic_CrumbError : PySem.W.isClsIn K C_CrumbError = true)
    (ixa_BadTable : PySem.W.findIn K (.ref C_BadTable) "__class__" = some (some (.builtin "object.__class__"))) (ixn_BadTable : PySem.W.specialIn K (.builtin "object.__class__") "__get__" = some (some (.builtin "getset_descriptor.__get__"))) (ixt_BadTable : PySem.W.takesIn K (.builtin "object.__class__") = some true) (ixm_BadTable : PySem.W.mroIn K C_BadTable (.type "object") = some true)
    (y_BadTable_CrumbError : PySem.W.subIn K (.ref C_BadTable) (.ref C_CrumbError) = some true)
    (z_all : PySem.W.nsIn K mainGlobals "all" = some none)
    (z_enumerate : PySem.W.nsIn K mainGlobals "enumerate" = some none)
    (z_int : PySem.W.nsIn K mainGlobals "int" = some none)
    (z_isinstance : PySem.W.nsIn K mainGlobals "isinstance" = some none)
    (z_len : PySem.W.nsIn K mainGlobals "len" = some none)
    (z_list : PySem.W.nsIn K mainGlobals "list" = some none)
    (z_range : PySem.W.nsIn K mainGlobals "range" = some none)
    (z_repr : PySem.W.nsIn K mainGlobals "repr" = some none)
    (z_str : PySem.W.nsIn K mainGlobals "str" = some none)
    (z_sum : PySem.W.nsIn K mainGlobals "sum" = some none)
    (z_super : PySem.W.nsIn K mainGlobals "super" = some none)
    (z_tuple : PySem.W.nsIn K mainGlobals "tuple" = some none)
    : ∃ fd : FuncData, (∀ (s : Shared) (v : Value), BindsTo s fd ⟨[v], []⟩ [("_law_script", v)]) ∧ ∀ base : Heap, K.In base → base.Ns mainGlobals mg → FnG PySem.Challenge.rw_crumbjar_k66_tables_checked.prog w K mg base CX0 13 fa fd ["_law_script"] (spz_law K) := by
  have e := hfa.symm.trans (PySem.W.mg_of X G a28)
  cases e
  let T : Txt K mg w := {
    f_s1_is_number_word := f0,
    d_s1_is_number_word := _,
    F_s1_is_number_word := fun_mk (st := S_s1_is_number_word) l0 c0 k0,
    g_s1_is_number_word := PySem.W.mg_of X G a0,
    f_s1_is_small := f1,
    d_s1_is_small := _,
    F_s1_is_small := fun_mk (st := S_s1_is_small) l1 c1 k1,
    g_s1_is_small := PySem.W.mg_of X G a1,
    f_s1_is_label := f2,
    d_s1_is_label := _,
    F_s1_is_label := fun_mk (st := S_s1_is_label) l2 c2 k2,
    g_s1_is_label := PySem.W.mg_of X G a2,
    f_is_address_host := f3,
    d_is_address_host := _,
    F_is_address_host := fun_mk (st := S_is_address_host) l3 c3 k3,
    g_is_address_host := PySem.W.mg_of X G a3,
    f_is_host := f4,
    d_is_host := _,
    F_is_host := fun_mk (st := S_is_host) l4 c4 k4,
    g_is_host := PySem.W.mg_of X G a4,
    f_s1_is_path_sign := f5,
    d_s1_is_path_sign := _,
    F_s1_is_path_sign := fun_mk (st := S_s1_is_path_sign) l5 c5 k5,
    g_s1_is_path_sign := PySem.W.mg_of X G a5,
    f_is_path := f6,
    d_is_path := _,
    F_is_path := fun_mk (st := S_is_path) l6 c6 k6,
    g_is_path := PySem.W.mg_of X G a6,
    f_is_origin := f7,
    d_is_origin := _,
    F_is_origin := fun_mk (st := S_is_origin) l7 c7 k7,
    g_is_origin := PySem.W.mg_of X G a7,
    f_is_address := f8,
    d_is_address := _,
    F_is_address := fun_mk (st := S_is_address) l8 c8 k8,
    g_is_address := PySem.W.mg_of X G a8,
    f_s6_is_text := f9,
    d_s6_is_text := _,
    F_s6_is_text := fun_mk (st := S_s6_is_text) l9 c9 k9,
    g_s6_is_text := PySem.W.mg_of X G a9,
    f_s6_is_pair := f10,
    d_s6_is_pair := _,
    F_s6_is_pair := fun_mk (st := S_s6_is_pair) l10 c10 k10,
    g_s6_is_pair := PySem.W.mg_of X G a10,
    f_s6_is_line := f11,
    d_s6_is_line := _,
    F_s6_is_line := fun_mk (st := S_s6_is_line) l11 c11 k11,
    g_s6_is_line := PySem.W.mg_of X G a11,
    f_s6_is_part := f12,
    d_s6_is_part := _,
    F_s6_is_part := fun_mk (st := S_s6_is_part) l12 c12 k12,
    g_s6_is_part := PySem.W.mg_of X G a12,
    f_is_answer := f13,
    d_is_answer := _,
    F_is_answer := fun_mk (st := S_is_answer) l13 c13 k13,
    g_is_answer := PySem.W.mg_of X G a13,
    f_s6_is_item := f14,
    d_s6_is_item := _,
    F_s6_is_item := fun_mk (st := S_s6_is_item) l14 c14 k14,
    g_s6_is_item := PySem.W.mg_of X G a14,
    f_check_table := f15,
    d_check_table := _,
    F_check_table := fun_mk (st := S_check_table) l15 c15 k15,
    g_check_table := PySem.W.mg_of X G a15,
    f__law_mixed := f16,
    d__law_mixed := _,
    F__law_mixed := fun_mk (st := S__law_mixed) l16 c16 k16,
    g__law_mixed := PySem.W.mg_of X G a16,
    f__law_draw := f17,
    d__law_draw := _,
    F__law_draw := fun_mk (st := S__law_draw) l17 c17 k17,
    g__law_draw := PySem.W.mg_of X G a17,
    f__law_digit := f18,
    d__law_digit := _,
    F__law_digit := fun_mk (st := S__law_digit) l18 c18 k18,
    g__law_digit := PySem.W.mg_of X G a18,
    f__law_pick := f19,
    d__law_pick := _,
    F__law_pick := fun_mk (st := S__law_pick) l19 c19 k19,
    g__law_pick := PySem.W.mg_of X G a19,
    f__law_place := f20,
    d__law_place := _,
    F__law_place := fun_mk (st := S__law_place) l20 c20 k20,
    g__law_place := PySem.W.mg_of X G a20,
    f__law_one_line := f21,
    d__law_one_line := _,
    F__law_one_line := fun_mk (st := S__law_one_line) l21 c21 k21,
    g__law_one_line := PySem.W.mg_of X G a21,
    f__law_one_part := f22,
    d__law_one_part := _,
    F__law_one_part := fun_mk (st := S__law_one_part) l22 c22 k22,
    g__law_one_part := PySem.W.mg_of X G a22,
    f__law_some := f23,
    d__law_some := _,
    F__law_some := fun_mk (st := S__law_some) l23 c23 k23,
    g__law_some := PySem.W.mg_of X G a23,
    f__law_response := f24,
    d__law_response := _,
    F__law_response := fun_mk (st := S__law_response) l24 c24 k24,
    g__law_response := PySem.W.mg_of X G a24,
    f__law_error := f25,
    d__law_error := _,
    F__law_error := fun_mk (st := S__law_error) l25 c25 k25,
    g__law_error := PySem.W.mg_of X G a25,
    f__law_item := f26,
    d__law_item := _,
    F__law_item := fun_mk (st := S__law_item) l26 c26 k26,
    g__law_item := PySem.W.mg_of X G a26,
    f__law_table_right := f27,
    d__law_table_right := _,
    F__law_table_right := fun_mk (st := S__law_table_right) l27 c27 k27,
    g__law_table_right := PySem.W.mg_of X G a27,
    f_law := fa,
    d_law := _,
    F_law := fun_mk (st := S_law) l28 c28 k28,
    g_law := PySem.W.mg_of X G a28,
    c_DIGITS := ⟨_, PySem.W.mg_of X G v_DIGITS⟩,
    c_MOST_SIGNS := ⟨_, PySem.W.mg_of X G v_MOST_SIGNS⟩,
    c_MOST_LABELS := ⟨_, PySem.W.mg_of X G v_MOST_LABELS⟩,
    c_MOST_LABEL := ⟨_, PySem.W.mg_of X G v_MOST_LABEL⟩,
    c_LABEL_SIGNS := ⟨_, PySem.W.mg_of X G v_LABEL_SIGNS⟩,
    c_MOST_PATH := ⟨_, PySem.W.mg_of X G v_MOST_PATH⟩,
    c_PATH_SIGNS := ⟨_, PySem.W.mg_of X G v_PATH_SIGNS⟩,
    c_S6_MOST_ITEMS := ⟨_, PySem.W.mg_of X G v_S6_MOST_ITEMS⟩,
    c_S6_MOST_LINES := ⟨_, PySem.W.mg_of X G v_S6_MOST_LINES⟩,
    c_S6_MOST_PARTS := ⟨_, PySem.W.mg_of X G v_S6_MOST_PARTS⟩,
    c_S6_MOST_SIGNS := ⟨_, PySem.W.mg_of X G v_S6_MOST_SIGNS⟩,
    a_SCHEMES := ca_SCHEMES,
    q_SCHEMES := PySem.W.mg_of X G v_SCHEMES,
    s_SCHEMES := fun H => .inr ⟨_, _, _, l_SCHEMES, rfl, rfl, by show 2 ≤ sizeLine; decide, (.cons ⟨_, rfl⟩ (.cons ⟨_, rfl⟩ .nil))⟩,
    t_SCHEMES := fun H => .inr (.inl ⟨rfl, _, l_SCHEMES, rfl, rfl⟩),
    C_BadTable := C_BadTable,
    I_BadTable := I_BadTable,
    E_BadTable := ⟨PySem.W.mg_of X G aC_BadTable, ⟨⟨⟨nm_BadTable, qn_BadTable, N_BadTable, bs_BadTable, bm_BadTable, sn_BadTable, sub_BadTable, ab_BadTable, col_BadTable, dd_BadTable, m0_BadTable, m1_BadTable, m2_BadTable, m3_BadTable, m5_BadTable, xL_BadTable, rv_BadTable⟩, sa_BadTable, xc_BadTable, ty_BadTable, ke_BadTable⟩, fi1_BadTable, ti_BadTable, me_BadTable, an_BadTable, up_BadTable, iv_BadTable, by decide +kernel⟩, ⟨_, _, _, _, _, _, _, _, _, _, _, _, _, _, _, _, _, _, _, l_BadTable, cd_BadTable, lc_BadTable, v2_BadTable, fl_BadTable, ll_BadTable⟩, no_BadTable, PySem.W.mg_none_of X G z_super, ⟨ga_BadTable, gg_BadTable, xc_BadTable, hd_BadTable⟩, ic_BadTable⟩,
    C_CrumbError := C_CrumbError,
    B_CrumbError := ⟨PySem.W.mg_of X G aC_CrumbError, xc_CrumbError, ic_CrumbError, ty_CrumbError⟩,
    X_BadTable := ⟨ga_BadTable, gg_BadTable, xc_BadTable, hd_BadTable, ixa_BadTable, ixn_BadTable, ixt_BadTable, ixm_BadTable⟩,
    y_BadTable_CrumbError := y_BadTable_CrumbError,
    n_all := PySem.W.mg_none_of X G z_all,
    n_enumerate := PySem.W.mg_none_of X G z_enumerate,
    n_int := PySem.W.mg_none_of X G z_int,
    n_isinstance := PySem.W.mg_none_of X G z_isinstance,
    n_len := PySem.W.mg_none_of X G z_len,
    n_list := PySem.W.mg_none_of X G z_list,
    n_range := PySem.W.mg_none_of X G z_range,
    n_repr := PySem.W.mg_none_of X G z_repr,
    n_str := PySem.W.mg_none_of X G z_str,
    n_sum := PySem.W.mg_none_of X G z_sum,
    n_super := PySem.W.mg_none_of X G z_super,
    n_tuple := PySem.W.mg_none_of X G z_tuple }
  exact ⟨PySem.W.fnOf "law" "law" (defArgs S_law) (defBody S_law) (defScope S_law) .none kV28 dc28 pm28 an28 cd28 ct28, fun s v => .of_eq rfl, fun base _ _ => okz_law T⟩
end LawK66
open PySem PySem.W PyProof.Rows
set_option maxHeartbeats 0 in
theorem PySem.Challenge.cw_crumbjar_k66_tables_checked_holds : PySem.Challenge.rw_crumbjar_k66_tables_checked.Holds := by
  w_on; o_law; k_head; (case hw => w_witness2)
  k_fill
  refine Cj.walk_G (l := PySem.Challenge.rw_crumbjar_k66_tables_checked) (n := 63) (k := 13) (x := "_law_script") (CX := fun _ => L2.CX0) (sp := fun w => LawK66.spz_law _) rfl (by decide) rfl ⟨rfl, by decide, by decide⟩ (fun w h Y => PySem.W.kIn_of Y) ?F (fun _ _ a ns hl _ hS => ⟨a, ns, rfl, hS, hl, fun _ => rfl⟩) (fun _ _ _ _ _ h => h)
  case F =>
    intro w mg fa h KX G hmg
    refine' LawK66.all_mk KX G hmg ?a0 ?l0 ?c0 ?k0 ?a1 ?l1 ?c1 ?k1 ?a2 ?l2 ?c2 ?k2 ?a3 ?l3 ?c3 ?k3 ?a4 ?l4 ?c4 ?k4 ?a5 ?l5 ?c5 ?k5 ?a6 ?l6 ?c6 ?k6 ?a7 ?l7 ?c7 ?k7 ?a8 ?l8 ?c8 ?k8 ?a9 ?l9 ?c9 ?k9 ?a10 ?l10 ?c10 ?k10 ?a11 ?l11 ?c11 ?k11 ?a12 ?l12 ?c12 ?k12 ?a13 ?l13 ?c13 ?k13 ?a14 ?l14 ?c14 ?k14 ?a15 ?l15 ?c15 ?k15 ?a16 ?l16 ?c16 ?k16 ?a17 ?l17 ?c17 ?k17 ?a18 ?l18 ?c18 ?k18 ?a19 ?l19 ?c19 ?k19 ?a20 ?l20 ?c20 ?k20 ?a21 ?l21 ?c21 ?k21 ?a22 ?l22 ?c22 ?k22 ?a23 ?l23 ?c23 ?k23 ?a24 ?l24 ?c24 ?k24 ?a25 ?l25 ?c25 ?k25 ?a26 ?l26 ?c26 ?k26 ?a27 ?l27 ?c27 ?k27 ?a28 ?l28 ?c28 ?k28 ?v_DIGITS ?v_MOST_SIGNS ?v_MOST_LABELS ?v_MOST_LABEL ?v_LABEL_SIGNS ?v_MOST_PATH ?v_PATH_SIGNS ?v_S6_MOST_ITEMS ?v_S6_MOST_LINES ?v_S6_MOST_PARTS ?v_S6_MOST_SIGNS ?v_SCHEMES ?l_SCHEMES ?aC_BadTable ?xL_BadTable ?rv_BadTable ?sa_BadTable ?ga_BadTable ?gg_BadTable ?no_BadTable ?fi1_BadTable ?ti_BadTable ?me_BadTable ?an_BadTable ?up_BadTable ?iv_BadTable ?xc_BadTable ?ty_BadTable ?ke_BadTable ?hd_BadTable ?ic_BadTable ?l_BadTable ?cd_BadTable ?lc_BadTable ?v2_BadTable ?fl_BadTable ?ll_BadTable ?aC_CrumbError ?xc_CrumbError ?ty_CrumbError ?ic_CrumbError ?ixa_BadTable ?ixn_BadTable ?ixt_BadTable ?ixm_BadTable ?y_BadTable_CrumbError ?z_all ?z_enumerate ?z_int ?z_isinstance ?z_len ?z_list ?z_range ?z_repr ?z_str ?z_sum ?z_super ?z_tuple
    (case a0 => k_is)
    (case l0 => k_is)
    (case c0 => k_is)
    (case k0 => k_is)
    (case a1 => k_is)
    (case l1 => k_is)
    (case c1 => k_is)
    (case k1 => k_is)
    (case a2 => k_is)
    (case l2 => k_is)
    (case c2 => k_is)
    (case k2 => k_is)
    (case a3 => k_is)
    (case l3 => k_is)
    (case c3 => k_is)
    (case k3 => k_is)
    (case a4 => k_is)
    (case l4 => k_is)
    (case c4 => k_is)
    (case k4 => k_is)
    (case a5 => k_is)
    (case l5 => k_is)
    (case c5 => k_is)
    (case k5 => k_is)
    (case a6 => k_is)
    (case l6 => k_is)
    (case c6 => k_is)
    (case k6 => k_is)
    (case a7 => k_is)
    (case l7 => k_is)
    (case c7 => k_is)
    (case k7 => k_is)
    (case a8 => k_is)
    (case l8 => k_is)
    (case c8 => k_is)
    (case k8 => k_is)
    (case a9 => k_is)
    (case l9 => k_is)
    (case c9 => k_is)
    (case k9 => k_is)
    (case a10 => k_is)
    (case l10 => k_is)
    (case c10 => k_is)
    (case k10 => k_is)
    (case a11 => k_is)
    (case l11 => k_is)
    (case c11 => k_is)
    (case k11 => k_is)
    (case a12 => k_is)
    (case l12 => k_is)
    (case c12 => k_is)
    (case k12 => k_is)
    (case a13 => k_is)
    (case l13 => k_is)
    (case c13 => k_is)
    (case k13 => k_is)
    (case a14 => k_is)
    (case l14 => k_is)
    (case c14 => k_is)
    (case k14 => k_is)
    (case a15 => k_is)
    (case l15 => k_is)
    (case c15 => k_is)
    (case k15 => k_is)
    (case a16 => k_is)
    (case l16 => k_is)
    (case c16 => k_is)
    (case k16 => k_is)
    (case a17 => k_is)
    (case l17 => k_is)
    (case c17 => k_is)
    (case k17 => k_is)
    (case a18 => k_is)
    (case l18 => k_is)
    (case c18 => k_is)
    (case k18 => k_is)
    (case a19 => k_is)
    (case l19 => k_is)
    (case c19 => k_is)
    (case k19 => k_is)
    (case a20 => k_is)
    (case l20 => k_is)
    (case c20 => k_is)
    (case k20 => k_is)
    (case a21 => k_is)
    (case l21 => k_is)
    (case c21 => k_is)
    (case k21 => k_is)
    (case a22 => k_is)
    (case l22 => k_is)
    (case c22 => k_is)
    (case k22 => k_is)
    (case a23 => k_is)
    (case l23 => k_is)
    (case c23 => k_is)
    (case k23 => k_is)
    (case a24 => k_is)
    (case l24 => k_is)
    (case c24 => k_is)
    (case k24 => k_is)
    (case a25 => k_is)
    (case l25 => k_is)
    (case c25 => k_is)
    (case k25 => k_is)
    (case a26 => k_is)
    (case l26 => k_is)
    (case c26 => k_is)
    (case k26 => k_is)
    (case a27 => k_is)
    (case l27 => k_is)
    (case c27 => k_is)
    (case k27 => k_is)
    (case a28 => k_is)
    (case l28 => k_is)
    (case c28 => k_is)
    (case k28 => k_is)
    (case v_DIGITS => k_is)
    (case v_MOST_SIGNS => k_is)
    (case v_MOST_LABELS => k_is)
    (case v_MOST_LABEL => k_is)
    (case v_LABEL_SIGNS => k_is)
    (case v_MOST_PATH => k_is)
    (case v_PATH_SIGNS => k_is)
    (case v_S6_MOST_ITEMS => k_is)
    (case v_S6_MOST_LINES => k_is)
    (case v_S6_MOST_PARTS => k_is)
    (case v_S6_MOST_SIGNS => k_is)
    (case v_SCHEMES => k_is)
    (case l_SCHEMES => k_is)
    (case aC_BadTable => k_is)
    (case xL_BadTable => k_is)
    (case rv_BadTable => decide +kernel)
    (case sa_BadTable => k_is)
    (case ga_BadTable => k_is)
    (case gg_BadTable => k_is)
    (case no_BadTable => k_is)
    (case fi1_BadTable => k_is)
    (case ti_BadTable => k_is)
    (case me_BadTable => k_is)
    (case an_BadTable => k_is)
    (case up_BadTable => ks_is)
    (case iv_BadTable => k_is)
    (case xc_BadTable => k_is)
    (case ty_BadTable => k_is)
    (case ke_BadTable => k_is)
    (case hd_BadTable => k_is)
    (case ic_BadTable => k_is)
    (case l_BadTable => k_is)
    (case cd_BadTable => k_is)
    (case lc_BadTable => k_is)
    (case v2_BadTable => exact rfl)
    (case fl_BadTable => decide +kernel)
    (case ll_BadTable => k_is)
    (case aC_CrumbError => k_is)
    (case xc_CrumbError => k_is)
    (case ty_CrumbError => k_is)
    (case ic_CrumbError => k_is)
    (case ixa_BadTable => k_is)
    (case ixn_BadTable => k_is)
    (case ixt_BadTable => k_is)
    (case ixm_BadTable => k_is)
    (case y_BadTable_CrumbError => k_is)
    (case z_all => k_is)
    (case z_enumerate => k_is)
    (case z_int => k_is)
    (case z_isinstance => k_is)
    (case z_len => k_is)
    (case z_list => k_is)
    (case z_range => k_is)
    (case z_repr => k_is)
    (case z_str => k_is)
    (case z_sum => k_is)
    (case z_super => k_is)
    (case z_tuple => k_is)
