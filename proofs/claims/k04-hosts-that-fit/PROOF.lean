import PyProof.Rows.All
import Wide.All
import OpenK.AllK
import Wide.FinOn
import PySem.Challenge.RW_crumbjar_k04_hosts_that_fit
import HandS.ForMost
import HandS.Codes
import HandS.Walk
import HandS.Flow
import HandS.IsInst
import HandS.StrMore
import HandS.Style
import HandS.TupAny
import HandS.WordsExc
set_option Elab.async false
set_option linter.all false
set_option maxRecDepth 100000
set_option maxHeartbeats 4000000
set_option pp.maxSteps 1500

namespace LawK04
open PySem PySem.Spec PyProof.Rows L2
def topS (i : Nat) : Stmt := PySem.Challenge.pw_crumbjar_k04_hosts_that_fit.main.body.getD i (.Pass ⟨0, 0, 0, 0⟩)
abbrev S_s1_is_number_word : Stmt := topS 10
abbrev N_s1_is_number_word : List Str := ["text", "sign"]
theorem sc_s1_is_number_word : FnScope N_s1_is_number_word ["text"] (defScope S_s1_is_number_word) := ⟨rfl, rfl, rfl, by decide +kernel, rfl, by decide +kernel, by decide +kernel⟩
abbrev S_s1_is_small : Stmt := topS 11
abbrev N_s1_is_small : List Str := ["word"]
theorem sc_s1_is_small : FnScope N_s1_is_small ["word"] (defScope S_s1_is_small) := ⟨rfl, rfl, rfl, by decide +kernel, rfl, by decide +kernel, by decide +kernel⟩
abbrev S_s1_is_label : Stmt := topS 12
abbrev N_s1_is_label : List Str := ["text", "sign"]
theorem sc_s1_is_label : FnScope N_s1_is_label ["text"] (defScope S_s1_is_label) := ⟨rfl, rfl, rfl, by decide +kernel, rfl, by decide +kernel, by decide +kernel⟩
abbrev S_is_address_host : Stmt := topS 13
abbrev N_is_address_host : List Str := ["value", "words", "word"]
theorem sc_is_address_host : FnScope N_is_address_host ["value"] (defScope S_is_address_host) := ⟨rfl, rfl, rfl, by decide +kernel, rfl, by decide +kernel, by decide +kernel⟩
abbrev S_is_host : Stmt := topS 14
abbrev N_is_host : List Str := ["value", "words", "word"]
theorem sc_is_host : FnScope N_is_host ["value"] (defScope S_is_host) := ⟨rfl, rfl, rfl, by decide +kernel, rfl, by decide +kernel, by decide +kernel⟩
abbrev S_s1_may_become_address : Stmt := topS 15
abbrev N_s1_may_become_address : List Str := ["words", "word"]
theorem sc_s1_may_become_address : FnScope N_s1_may_become_address ["words"] (defScope S_s1_may_become_address) := ⟨rfl, rfl, rfl, by decide +kernel, rfl, by decide +kernel, by decide +kernel⟩
abbrev S_s1_begins : Stmt := topS 16
abbrev N_s1_begins : List Str := ["text", "words", "last", "left", "word", "sign"]
theorem sc_s1_begins : FnScope N_s1_begins ["text"] (defScope S_s1_begins) := ⟨rfl, rfl, rfl, by decide +kernel, rfl, by decide +kernel, by decide +kernel⟩
abbrev S_need_host : Stmt := topS 17
abbrev N_need_host : List Str := ["value"]
theorem sc_need_host : FnScope N_need_host ["value"] (defScope S_need_host) := ⟨rfl, rfl, rfl, by decide +kernel, rfl, by decide +kernel, by decide +kernel⟩
abbrev S_s1_place : Stmt := topS 18
abbrev N_s1_place : List Str := ["value", "at"]
theorem sc_s1_place : FnScope N_s1_place ["value"] (defScope S_s1_place) := ⟨rfl, rfl, rfl, by decide +kernel, rfl, by decide +kernel, by decide +kernel⟩
abbrev S_labels_of : Stmt := topS 19
abbrev N_labels_of : List Str := ["host"]
theorem sc_labels_of : FnScope N_labels_of ["host"] (defScope S_labels_of) := ⟨rfl, rfl, rfl, by decide +kernel, rfl, by decide +kernel, by decide +kernel⟩
abbrev S_s1_fits : Stmt := topS 20
abbrev N_s1_fits : List Str := ["host", "domain"]
theorem sc_s1_fits : FnScope N_s1_fits ["host", "domain"] (defScope S_s1_fits) := ⟨rfl, rfl, rfl, by decide +kernel, rfl, by decide +kernel, by decide +kernel⟩
abbrev S_host_fits : Stmt := topS 21
abbrev N_host_fits : List Str := ["host", "domain"]
theorem sc_host_fits : FnScope N_host_fits ["host", "domain"] (defScope S_host_fits) := ⟨rfl, rfl, rfl, by decide +kernel, rfl, by decide +kernel, by decide +kernel⟩
abbrev S__law_mixed : Stmt := topS 23
abbrev N__law_mixed : List Str := ["_law_cell", "_law_k", "_law_one"]
theorem sc__law_mixed : FnScope N__law_mixed ["_law_cell", "_law_k"] (defScope S__law_mixed) := ⟨rfl, rfl, rfl, by decide +kernel, rfl, by decide +kernel, by decide +kernel⟩
abbrev S__law_draw : Stmt := topS 24
abbrev N__law_draw : List Str := ["_law_cell", "_law_k"]
theorem sc__law_draw : FnScope N__law_draw ["_law_cell", "_law_k"] (defScope S__law_draw) := ⟨rfl, rfl, rfl, by decide +kernel, rfl, by decide +kernel, by decide +kernel⟩
abbrev S__law_digit : Stmt := topS 25
abbrev N__law_digit : List Str := ["_law_draw_here", "_law_span", "_law_j", "_law_found"]
theorem sc__law_digit : FnScope N__law_digit ["_law_draw_here", "_law_span"] (defScope S__law_digit) := ⟨rfl, rfl, rfl, by decide +kernel, rfl, by decide +kernel, by decide +kernel⟩
abbrev S__law_host : Stmt := topS 26
abbrev N__law_host : List Str := ["_law_draw_here", "_law_words", "_law_j"]
theorem sc__law_host : FnScope N__law_host ["_law_draw_here"] (defScope S__law_host) := ⟨rfl, rfl, rfl, by decide +kernel, rfl, by decide +kernel, by decide +kernel⟩
abbrev S__law_pair : Stmt := topS 27
abbrev N__law_pair : List Str := ["_law_draw_here", "_law_domain", "_law_way", "_law_number", "_law_j"]
theorem sc__law_pair : FnScope N__law_pair ["_law_draw_here"] (defScope S__law_pair) := ⟨rfl, rfl, rfl, by decide +kernel, rfl, by decide +kernel, by decide +kernel⟩
abbrev S__law_due : Stmt := topS 28
abbrev N__law_due : List Str := ["_law_host_here", "_law_domain", "_law_words", "_law_last"]
theorem sc__law_due : FnScope N__law_due ["_law_host_here", "_law_domain"] (defScope S__law_due) := ⟨rfl, rfl, rfl, by decide +kernel, rfl, by decide +kernel, by decide +kernel⟩
abbrev S_law : Stmt := topS 29
abbrev N_law : List Str := ["_law_script", "_law_k", "_law_amount", "_law_draw_here", "_law_turn", "_law_host_here", "_law_domain"]
theorem sc_law : FnScope N_law ["_law_script"] (defScope S_law) := ⟨rfl, rfl, rfl, by decide +kernel, rfl, by decide +kernel, by decide +kernel⟩
def cs_DIGITS : Str := ⟨#[48, 49, 50, 51, 52, 53, 54, 55, 56, 57]⟩
def cs_LABEL_SIGNS : Str := ⟨#[97, 98, 99, 100, 101, 102, 103, 104, 105, 106, 107, 108, 109, 110, 111, 112, 113, 114, 115, 116, 117, 118, 119, 120, 121, 122, 48, 49, 50, 51, 52, 53, 54, 55, 56, 57, 45]⟩
structure Txt (K : PySem.W.Frag) (mg : Str → Option Value) where
  f_s1_is_number_word : Addr
  d_s1_is_number_word : FuncData
  F_s1_is_number_word : Fun K "s1_is_number_word" "s1_is_number_word" S_s1_is_number_word f_s1_is_number_word d_s1_is_number_word
  g_s1_is_number_word : mg "s1_is_number_word" = some (.ref f_s1_is_number_word)
  f_s1_is_small : Addr
  d_s1_is_small : FuncData
  F_s1_is_small : Fun K "s1_is_small" "s1_is_small" S_s1_is_small f_s1_is_small d_s1_is_small
  g_s1_is_small : mg "s1_is_small" = some (.ref f_s1_is_small)
  f_s1_is_label : Addr
  d_s1_is_label : FuncData
  F_s1_is_label : Fun K "s1_is_label" "s1_is_label" S_s1_is_label f_s1_is_label d_s1_is_label
  g_s1_is_label : mg "s1_is_label" = some (.ref f_s1_is_label)
  f_is_address_host : Addr
  d_is_address_host : FuncData
  F_is_address_host : Fun K "is_address_host" "is_address_host" S_is_address_host f_is_address_host d_is_address_host
  g_is_address_host : mg "is_address_host" = some (.ref f_is_address_host)
  f_is_host : Addr
  d_is_host : FuncData
  F_is_host : Fun K "is_host" "is_host" S_is_host f_is_host d_is_host
  g_is_host : mg "is_host" = some (.ref f_is_host)
  f_s1_may_become_address : Addr
  d_s1_may_become_address : FuncData
  F_s1_may_become_address : Fun K "s1_may_become_address" "s1_may_become_address" S_s1_may_become_address f_s1_may_become_address d_s1_may_become_address
  g_s1_may_become_address : mg "s1_may_become_address" = some (.ref f_s1_may_become_address)
  f_s1_begins : Addr
  d_s1_begins : FuncData
  F_s1_begins : Fun K "s1_begins" "s1_begins" S_s1_begins f_s1_begins d_s1_begins
  g_s1_begins : mg "s1_begins" = some (.ref f_s1_begins)
  f_need_host : Addr
  d_need_host : FuncData
  F_need_host : Fun K "need_host" "need_host" S_need_host f_need_host d_need_host
  g_need_host : mg "need_host" = some (.ref f_need_host)
  f_s1_place : Addr
  d_s1_place : FuncData
  F_s1_place : Fun K "s1_place" "s1_place" S_s1_place f_s1_place d_s1_place
  g_s1_place : mg "s1_place" = some (.ref f_s1_place)
  f_labels_of : Addr
  d_labels_of : FuncData
  F_labels_of : Fun K "labels_of" "labels_of" S_labels_of f_labels_of d_labels_of
  g_labels_of : mg "labels_of" = some (.ref f_labels_of)
  f_s1_fits : Addr
  d_s1_fits : FuncData
  F_s1_fits : Fun K "s1_fits" "s1_fits" S_s1_fits f_s1_fits d_s1_fits
  g_s1_fits : mg "s1_fits" = some (.ref f_s1_fits)
  f_host_fits : Addr
  d_host_fits : FuncData
  F_host_fits : Fun K "host_fits" "host_fits" S_host_fits f_host_fits d_host_fits
  g_host_fits : mg "host_fits" = some (.ref f_host_fits)
  f__law_mixed : Addr
  d__law_mixed : FuncData
  F__law_mixed : Fun K "_law_mixed" "_law_mixed" S__law_mixed f__law_mixed d__law_mixed
  g__law_mixed : mg "_law_mixed" = some (.ref f__law_mixed)
  f__law_draw : Addr
  d__law_draw : FuncData
  F__law_draw : Fun K "_law_draw" "_law_draw" S__law_draw f__law_draw d__law_draw
  g__law_draw : mg "_law_draw" = some (.ref f__law_draw)
  f__law_digit : Addr
  d__law_digit : FuncData
  F__law_digit : Fun K "_law_digit" "_law_digit" S__law_digit f__law_digit d__law_digit
  g__law_digit : mg "_law_digit" = some (.ref f__law_digit)
  f__law_host : Addr
  d__law_host : FuncData
  F__law_host : Fun K "_law_host" "_law_host" S__law_host f__law_host d__law_host
  g__law_host : mg "_law_host" = some (.ref f__law_host)
  f__law_pair : Addr
  d__law_pair : FuncData
  F__law_pair : Fun K "_law_pair" "_law_pair" S__law_pair f__law_pair d__law_pair
  g__law_pair : mg "_law_pair" = some (.ref f__law_pair)
  f__law_due : Addr
  d__law_due : FuncData
  F__law_due : Fun K "_law_due" "_law_due" S__law_due f__law_due d__law_due
  g__law_due : mg "_law_due" = some (.ref f__law_due)
  f_law : Addr
  d_law : FuncData
  F_law : Fun K "law" "law" S_law f_law d_law
  g_law : mg "law" = some (.ref f_law)
  c_DIGITS : ∃ t, mg "DIGITS" = some (.str cs_DIGITS t)
  c_MOST_SIGNS : ∃ t, mg "MOST_SIGNS" = some (.int (100) t)
  c_MOST_LABELS : ∃ t, mg "MOST_LABELS" = some (.int (10) t)
  c_MOST_LABEL : ∃ t, mg "MOST_LABEL" = some (.int (20) t)
  c_LABEL_SIGNS : ∃ t, mg "LABEL_SIGNS" = some (.str cs_LABEL_SIGNS t)
  n_all : mg "all" = none
  n_enumerate : mg "enumerate" = none
  n_int : mg "int" = none
  n_isinstance : mg "isinstance" = none
  n_len : mg "len" = none
  n_range : mg "range" = none
  n_str : mg "str" = none
  n_sum : mg "sum" = none
  n_tuple : mg "tuple" = none
section
variable {K : PySem.W.Frag} {mg : Str → Option Value}
theorem Txt.b_s1_is_number_word (T : Txt K mg) : Binds K T.d_s1_is_number_word ["text"] [] := T.F_s1_is_number_word.binds fun _ _ _ _ _ _ us hl => match us, hl with | [_], _ => rfl
theorem Txt.b_s1_is_small (T : Txt K mg) : Binds K T.d_s1_is_small ["word"] [] := T.F_s1_is_small.binds fun _ _ _ _ _ _ us hl => match us, hl with | [_], _ => rfl
theorem Txt.b_s1_is_label (T : Txt K mg) : Binds K T.d_s1_is_label ["text"] [] := T.F_s1_is_label.binds fun _ _ _ _ _ _ us hl => match us, hl with | [_], _ => rfl
theorem Txt.b_is_address_host (T : Txt K mg) : Binds K T.d_is_address_host ["value"] [] := T.F_is_address_host.binds fun _ _ _ _ _ _ us hl => match us, hl with | [_], _ => rfl
theorem Txt.b_is_host (T : Txt K mg) : Binds K T.d_is_host ["value"] [] := T.F_is_host.binds fun _ _ _ _ _ _ us hl => match us, hl with | [_], _ => rfl
theorem Txt.b_s1_may_become_address (T : Txt K mg) : Binds K T.d_s1_may_become_address ["words"] [] := T.F_s1_may_become_address.binds fun _ _ _ _ _ _ us hl => match us, hl with | [_], _ => rfl
theorem Txt.b_s1_begins (T : Txt K mg) : Binds K T.d_s1_begins ["text"] [] := T.F_s1_begins.binds fun _ _ _ _ _ _ us hl => match us, hl with | [_], _ => rfl
theorem Txt.b_need_host (T : Txt K mg) : Binds K T.d_need_host ["value"] [] := T.F_need_host.binds fun _ _ _ _ _ _ us hl => match us, hl with | [_], _ => rfl
theorem Txt.b_s1_place (T : Txt K mg) : Binds K T.d_s1_place ["value"] [] := T.F_s1_place.binds fun _ _ _ _ _ _ us hl => match us, hl with | [_], _ => rfl
theorem Txt.b_labels_of (T : Txt K mg) : Binds K T.d_labels_of ["host"] [] := T.F_labels_of.binds fun _ _ _ _ _ _ us hl => match us, hl with | [_], _ => rfl
theorem Txt.b_s1_fits (T : Txt K mg) : Binds K T.d_s1_fits ["host", "domain"] [] := T.F_s1_fits.binds fun _ _ _ _ _ _ us hl => match us, hl with | [_, _], _ => rfl
theorem Txt.b_host_fits (T : Txt K mg) : Binds K T.d_host_fits ["host", "domain"] [] := T.F_host_fits.binds fun _ _ _ _ _ _ us hl => match us, hl with | [_, _], _ => rfl
theorem Txt.b__law_mixed (T : Txt K mg) : Binds K T.d__law_mixed ["_law_cell", "_law_k"] [] := T.F__law_mixed.binds fun _ _ _ _ _ _ us hl => match us, hl with | [_, _], _ => rfl
theorem Txt.b__law_draw (T : Txt K mg) : Binds K T.d__law_draw ["_law_cell", "_law_k"] [] := T.F__law_draw.binds fun _ _ _ _ _ _ us hl => match us, hl with | [_, _], _ => rfl
theorem Txt.b__law_digit (T : Txt K mg) : Binds K T.d__law_digit ["_law_draw_here", "_law_span"] [] := T.F__law_digit.binds fun _ _ _ _ _ _ us hl => match us, hl with | [_, _], _ => rfl
theorem Txt.b__law_host (T : Txt K mg) : Binds K T.d__law_host ["_law_draw_here"] [] := T.F__law_host.binds fun _ _ _ _ _ _ us hl => match us, hl with | [_], _ => rfl
theorem Txt.b__law_pair (T : Txt K mg) : Binds K T.d__law_pair ["_law_draw_here"] [] := T.F__law_pair.binds fun _ _ _ _ _ _ us hl => match us, hl with | [_], _ => rfl
theorem Txt.b__law_due (T : Txt K mg) : Binds K T.d__law_due ["_law_host_here", "_law_domain"] [] := T.F__law_due.binds fun _ _ _ _ _ _ us hl => match us, hl with | [_, _], _ => rfl
theorem Txt.b_law (T : Txt K mg) : Binds K T.d_law ["_law_script"] [] := T.F_law.binds fun _ _ _ _ _ _ us hl => match us, hl with | [_], _ => rfl
end
/-! ### kay -/
/-! the rules that lean on the written part, told with K (a comprehension's block has the same K) -/
section
variable {X : Cx} {K : PySem.W.Frag}
theorem kIxL (h : X.K = K) : IxR X (rIxL K) := by subst h; exact ix_list
theorem kIxT (h : X.K = K) : IxR X (rIxT K) := by subst h; exact ix_tup
theorem kSlL (h : X.K = K) : SlR X (rSlL K) := by subst h; exact sl_list
theorem kSlA (h : X.K = K) : SlR X (rSlA K) := by subst h; exact sl_tupA
theorem kIn (h : X.K = K) : OpR X (compareOp .In) (rIn K false) := by subst h; exact op_in_seq
theorem kNi (h : X.K = K) : OpR X (compareOp .NotIn) (rIn K true) := by subst h; exact op_notIn_seq
theorem kEq (h : X.K = K) (hu : X.A.units + 64 < cLine) : OpR X (compareOp .Eq) (rEqD K) := by subst h; exact op_eqD hu
theorem kNe (h : X.K = K) (hu : X.A.units + 64 < cLine) : OpR X (compareOp .NotEq) (rNeD K) := by subst h; exact op_neD hu
theorem kCatA (h : X.K = K) : OpR X (binaryOp .Add) (rCatA K) := by subst h; exact op_catA
def rLenQ (K : PySem.W.Frag) : List V → Hp → VK → Prop := fun xs H Q => ∃ p ys, xs = [.ref p] ∧ (SqL K H p ys ∨ SqT K H p ys) ∧ Q (.int ys.length) H
theorem kLen (h : X.K = K) : CallR X (.builtin "len") (rLenQ K) := by subst h; exact call_len_seq
theorem kSum (h : X.K = K) (hc : X.calm = true) : CallR X (.builtin "sum") (rSum K) := by subst h; exact cr_sum hc
theorem kAll (h : X.K = K) (hc : X.calm = true) : CallR X (.builtin "all") (rAll K) := by subst h; exact cr_all hc
theorem kAny (h : X.K = K) (hc : X.calm = true) : CallR X (.builtin "any") (rAny K) := by subst h; exact cr_any hc
theorem kMax (h : X.K = K) (hc : X.calm = true) : CallR X (.builtin "max") (rMax K) := by subst h; exact cr_max hc
theorem kMin (h : X.K = K) (hc : X.calm = true) : CallR X (.builtin "min") (rMin K) := by subst h; exact cr_min hc
theorem kIsi (h : X.K = K) : CallR X (.builtin "isinstance") (rIsi K) := by subst h; exact call_isi
def rTupQ (K : PySem.W.Frag) : List V → Hp → VK → Prop := fun xs H Q => ∃ p ys, xs = [.ref p] ∧ ((SqL K H p ys ∧ ∀ l, H l = none → Q (.ref l) (upd H l (.tup ys))) ∨ (SqT K H p ys ∧ Q (.ref p) H))
theorem kTup (h : X.K = K) : CallR X (.type "tuple") (rTupQ K) := by subst h; exact call_tuple_of
def rLstQ (K : PySem.W.Frag) : List V → Hp → VK → Prop := fun xs H Q => ∃ p ys, xs = [.ref p] ∧ (SqL K H p ys ∨ SqT K H p ys) ∧ ∀ l, H l = none → Q (.ref l) (upd H l (.lst ys))
theorem kLst (h : X.K = K) : CallR X (.type "list") (rLstQ K) := by subst h; exact call_list_of
def rJoinQ (K : PySem.W.Frag) : V → List V → Hp → VK → Prop := fun x xs H Q => ∃ a p, ∃ ys : List Str, x = .str a ∧ xs = [.ref p] ∧ (SqL K H p (ys.map V.str) ∨ SqT K H p (ys.map V.str)) ∧ (ys.map (·.length)).sum + ys.length * a.length ≤ 16777216 ∧ Q (.str (Txt.join a ys)) H
theorem kJoin (h : X.K = K) : MtR X "str.join" (rJoinQ K) := by subst h; exact mt_join
theorem kSorted (h : X.K = K) : CallR X (.builtin "sorted") (rSorted K) := by subst h; exact cr_sorted
theorem kSortedS (h : X.K = K) : CallR X (.builtin "sorted") (rSortedS K) := by subst h; exact cr_sortedS
variable {tg a b e l : Expr} {ta tb tl : TE} {tas : TA} {rest : List Expr} {p pos tpos : Pos} {elts : List Expr} {kk : Nat}
theorem kpList (h : X.K = K) (hl : PE X l tl) : PI X tg l (iList K tl) := by subst h; exact pi_list hl
theorem kpTup (h : X.K = K) (hl : PE X l tl) : PI X tg l (iTup K tl) := by subst h; exact pi_tup hl
theorem kpEnum (h : X.K = K) (hg : Gl X "enumerate") (hm : X.mg "enumerate" = none) (ha : PA X [e] tas) (hs : starEach [e] X.env = [(false, eval e X.env)] := by rfl) :
    PI X (.Tuple elts kk tpos) (.Call (.Name "enumerate" p) [e] [] pos) (iEnum K tas) := by subst h; exact pi_enum hg hm ha hs
theorem keOr (h : X.K = K) (ha : PE X a ta) (hb : PE X (.BoolOp .Or (b :: rest) pos) tb) : PE X (.BoolOp .Or (a :: b :: rest) pos) (tOrT K ta tb) := by subst h; exact pe_orT ha hb
theorem keAnd (h : X.K = K) (ha : PE X a ta) (hb : PE X (.BoolOp .And (b :: rest) pos) tb) : PE X (.BoolOp .And (a :: b :: rest) pos) (tAndT K ta tb) := by subst h; exact pe_andT ha hb
theorem keNot (h : X.K = K) (ha : PE X a ta) : PE X (.UnaryOp .Not a pos) (tNotT K ta) := by subst h; exact pe_notT ha
def tTruQ (K : PySem.W.Frag) (ta : TE) : TT := fun σ H Q => ta σ H fun x H' => ∃ k, TruV K x H' k ∧ Q k H'
theorem ktTru (h : X.K = K) (ha : PE X a ta) (he : ∀ whole, isTrue a X.env whole = (do let v ← whole; standAt a.pos; holding [v] (truthy v)) := by intro _; rfl) : PT X a (tTruQ K ta) := by subst h; exact pt_truth ha he
end

/-! ### prelude -/
/-- all that was tracked but d is as it was -/
def Sx (d : Addr) (H H' : Hp) : Prop := ∀ b o, b ≠ d → H b = some o → H' b = some o
theorem Sx.refl (d : Addr) (H : Hp) : Sx d H H := fun _ _ _ h => h
theorem Sx.trans {d : Addr} {H H1 H2 : Hp} (a : Sx d H H1) (b : Sx d H1 H2) : Sx d H H2 := fun c o n h => b c o n (a c o n h)
theorem Sx.of {d : Addr} {H H' : Hp} (a : Same H H') : Sx d H H' := fun b o _ h => a b o h
theorem Sx.seq {K : PySem.W.Frag} {d : Addr} {H H' : Hp} {a : Addr} {xs : List V} (e : Sx d H H') (n : a ≠ d) (h : SqL K H a xs) : SqL K H' a xs := by
  rcases h with (h | ⟨o, h⟩) | h
  · exact .inl (.inl (e _ _ n h))
  · exact .inl (.inr ⟨o, e _ _ n h⟩)
  · exact .inr h
theorem same_upd {H : Hp} {p : Addr} {o : HO} (h : H p = none) : Same H (upd H p o) := fun b x e => by
  rw [upd_ne (ne_of_none e h)]
  exact e
theorem same_back {H H' : Hp} {p : Addr} (e : Same H H') (h : H' p = none) : H p = none := e.free h
/-- the source of drawn numbers stands at d, having turned n times at most -/
def Dr (d : Addr) (n : Nat) (H : Hp) : Prop := ∃ left cell turns : Int,
  H d = some (.dK [(.inr ("left" : Str), .int left), (.inr ("cell" : Str), .int cell), (.inr ("turns" : Str), .int turns)]) ∧ 0 ≤ turns ∧ turns ≤ n
theorem Dr.mono {d : Addr} {n m : Nat} {H : Hp} (h : Dr d n H) (e : n ≤ m) : Dr d m H := by
  obtain ⟨a, b, c, h1, h2, h3⟩ := h
  exact ⟨a, b, c, h1, h2, by omega⟩
theorem Dr.same {d : Addr} {n : Nat} {H H' : Hp} (h : Dr d n H) (e : Same H H') : Dr d n H' := by
  obtain ⟨a, b, c, h1, h2, h3⟩ := h
  exact ⟨a, b, c, e _ _ h1, h2, h3⟩
theorem Dr.ne {d p : Addr} {n : Nat} {H : Hp} (h : Dr d n H) (e : H p = none) : p ≠ d := by
  obtain ⟨a, b, c, h1, _⟩ := h
  exact (ne_of_none h1 e).symm
theorem same_sx {d : Addr} {H0 Ha Hb Hc : Hp} (a : Same H0 Ha) (n : Ha d = none) (b : Same Ha Hb) (c : Sx d Hb Hc) : Same H0 Hc := fun x o h => c x o (ne_of_none (a x o h) n) (b x o (a x o h))

/-! ### prelude2 -/
open SX (S S_len S_cat S_inj)
theorem ifT {c : Bool} {A B : Prop} (hc : c = true) (h : A) : if c = true then A else B := by
  rw [if_pos hc]
  exact h
theorem ifF {c : Bool} {A B : Prop} (hc : c = false) (h : B) : if c = true then A else B := by
  rw [hc, if_neg Bool.false_ne_true]
  exact h
theorem if2 {c : Bool} {A B : Prop} (h1 : c = true → A) (h2 : c = false → B) : if c = true then A else B := by
  cases c with
  | true => exact ifT rfl (h1 rfl)
  | false => exact ifF rfl (h2 rfl)
theorem dS (a b : List Nat) : decide (V.str (S a) = V.str (S b)) = decide (a = b) := by
  by_cases e : a = b
  · subst e
    rw [decide_eq_true rfl, decide_eq_true rfl]
  · rw [decide_eq_false e, decide_eq_false fun z => e (S_inj (V.str.inj z))]
theorem dI (a b : Int) : decide (V.int a = V.int b) = decide (a = b) := by
  by_cases e : a = b
  · subst e
    rw [decide_eq_true rfl, decide_eq_true rfl]
  · rw [decide_eq_false e, decide_eq_false fun z => e (V.int.inj z)]
theorem dB (a b : Bool) : decide (V.bl a = V.bl b) = (a == b) := by
  cases a <;> cases b <;> rfl
theorem ndB (a : Bool) : (!decide (V.bl a = V.bl a)) = false := by
  rw [decide_eq_true rfl]
  rfl
/-- sizes -/
theorem szS {l : List Nat} (h : l.length ≤ 100000) : (S l).length ≤ sizeLine := by
  rw [S_len]
  exact Nat.le_trans h (by decide)
theorem sz {n : Nat} (h : n ≤ 100000) : n ≤ sizeLine := Nat.le_trans h (by decide)
theorem szlt {n : Nat} (h : n ≤ 100000) : n < sizeLine := Nat.lt_of_le_of_lt h (by decide)
theorem szadd {a b : List Nat} (h : a.length + b.length ≤ 100000) : (S a).length + (S b).length ≤ sizeLine := by
  rw [S_len, S_len]
  exact Nat.le_trans h (by decide)
/-! texts as lists of signs -/
theorem at_S {a b : List Nat} {i : Nat} (hb : b ≠ []) : StrLaws.At (S a) (S b) (S a).length i ↔ TL.pre b (a.drop i) = true := TL.at_iff (x := S a) (y := S b) hb i
theorem startswith_S (a b : List Nat) : Txt.startswith (S a) (S b) = b.isPrefixOf a := by
  have e : Txt.startswith (S a) (S b) = (decide (0 + b.length ≤ a.length) && (a.toArray.extract 0 (0 + b.length) == b.toArray)) := by
    have h1 : Txt.startswith (S a) (S b) = (decide (0 + (S b).length ≤ (S a).length) && ((S a).cps.extract 0 (0 + (S b).length) == (S b).cps)) := rfl
    rw [h1, S_len, S_len]
  rw [e]
  apply Bool.eq_iff_iff.mpr
  rw [List.isPrefixOf_iff_prefix, Bool.and_eq_true, decide_eq_true_eq, beq_iff_eq, Nat.zero_add]
  constructor
  · rintro ⟨h1, h2⟩
    have h3 : (a.toArray.extract 0 b.length).toList = b := by rw [h2]
    rw [Array.toList_extract] at h3
    have h4 : a.take b.length = b := by simpa [List.extract_eq_take_drop] using h3
    have h5 := List.take_append_drop b.length a
    rw [h4] at h5
    exact ⟨_, h5⟩
  · rintro ⟨t, rfl⟩
    refine ⟨by simp, ?_⟩
    apply Array.toList_inj.mp
    rw [Array.toList_extract]
    simp [List.extract_eq_take_drop]
theorem endswith_S (a b : List Nat) : Txt.endswith (S a) (S b) = b.isSuffixOf a := by
  have e : Txt.endswith (S a) (S b) = (decide (0 + b.length ≤ a.length) && (a.toArray.extract (a.length - b.length) (a.length - b.length + b.length) == b.toArray)) := by
    have h1 : Txt.endswith (S a) (S b) = (decide (0 + (S b).length ≤ (S a).length) && ((S a).cps.extract ((S a).length - (S b).length) ((S a).length - (S b).length + (S b).length) == (S b).cps)) := rfl
    rw [h1, S_len, S_len]
  rw [e]
  apply Bool.eq_iff_iff.mpr
  rw [List.isSuffixOf_iff_suffix, Bool.and_eq_true, decide_eq_true_eq, beq_iff_eq, Nat.zero_add]
  constructor
  · rintro ⟨h1, h2⟩
    have h3 : (a.toArray.extract (a.length - b.length) (a.length - b.length + b.length)).toList = b := by rw [h2]
    rw [Array.toList_extract] at h3
    have h4 : a.drop (a.length - b.length) = b := by
      have h5 : (a.drop (a.length - b.length)).take b.length = b := by simpa [List.extract_eq_take_drop] using h3
      rw [List.take_of_length_le (by rw [List.length_drop]; omega)] at h5
      exact h5
    have h5 := List.take_append_drop (a.length - b.length) a
    rw [h4] at h5
    exact ⟨_, h5⟩
  · rintro ⟨t, rfl⟩
    refine ⟨by simp, ?_⟩
    apply Array.toList_inj.mp
    rw [Array.toList_extract]
    have e2 : (t ++ b).length - b.length = t.length := by simp
    rw [e2]
    simp [List.extract_eq_take_drop]
/-- the cut of a list -/
def cut {α : Type} (l : List α) (lo hi : Option Int) : List α := (l.drop (HT.sIx l.length 0 lo)).take (HT.sIx l.length l.length hi - HT.sIx l.length 0 lo)
theorem cutS_S (l : List Nat) (lo hi : Option Int) : cutS (S l) lo hi = S (cut l lo hi) := by
  unfold cutS cut
  rw [S_len]
theorem cutV_map {α : Type} (l : List α) (f : α → V) (lo hi : Option Int) : cutV (l.map f) lo hi = (cut l lo hi).map f := by
  unfold cutV cut
  rw [List.length_map, List.map_take, List.map_drop]
theorem cut_len {α : Type} (l : List α) (lo hi : Option Int) : (cut l lo hi).length ≤ l.length := by
  unfold cut
  rw [List.length_take, List.length_drop]
  omega
/-- [:k] -/
theorem cut_to {α : Type} (l : List α) (k : Nat) : cut l none (some (k : Int)) = l.take k := by
  unfold cut
  rw [HT.sIx_none, HT.sIx_nat, List.drop_zero, Nat.sub_zero]
  by_cases h : k ≤ l.length
  · rw [Nat.min_eq_left h]
  · rw [Nat.min_eq_right (by omega), List.take_of_length_le (Nat.le_refl _), List.take_of_length_le (by omega)]
/-- [k:] -/
theorem cut_from {α : Type} (l : List α) (k : Nat) : cut l (some (k : Int)) none = l.drop k := by
  unfold cut
  rw [HT.sIx_none, HT.sIx_nat]
  by_cases h : k ≤ l.length
  · rw [Nat.min_eq_left h, List.take_of_length_le (by rw [List.length_drop]; exact Nat.le_refl _)]
  · rw [Nat.min_eq_right (by omega), List.drop_of_length_le (Nat.le_refl _), List.drop_of_length_le (by omega), List.take_nil]
/-- [:-1] -/
theorem cut_init {α : Type} (l : List α) : cut l none (some (-1)) = l.dropLast := by
  unfold cut
  rw [HT.sIx_none]
  have e : HT.sIx l.length l.length (some (-1)) = l.length - 1 := by
    have h1 : HT.sIx l.length l.length (some (-1)) = (if (-1 : Int) < 0 then ((-1 : Int) + (l.length : Int)).toNat else min (-1 : Int).toNat l.length) := rfl
    rw [h1, if_pos (by decide)]
    omega
  rw [e, List.drop_zero, Nat.sub_zero, List.dropLast_eq_take]
theorem atI_neg1 {α : Type} {l : List α} {v : α} (h : l.getLast? = some v) : atI l (-1) = some v := by
  have hne : l ≠ [] := fun z => by
    rw [z] at h
    cases h
  have e : l = l.dropLast ++ [v] := by
    have h1 := List.dropLast_concat_getLast hne
    have h2 : l.getLast hne = v := Option.some.inj ((List.getLast?_eq_some_getLast hne).symm.trans h)
    rw [h2] at h1
    exact h1.symm
  rw [e]
  exact atI_last _ v
theorem cut_t1 {α : Type} (l : List α) : cut l none (some 1) = l.take 1 := cut_to l 1
theorem cut_f1 {α : Type} (l : List α) : cut l (some 1) none = l.drop 1 := cut_from l 1
theorem and_false {c : Bool} {A B : Prop} (h : c = true → B → A) (k : B) : if c = true then A else B := by
  cases c with
  | true => exact ifT rfl (h rfl k)
  | false => exact ifF rfl k

/-! ### prelude3 -/
/-- a comprehension over a text's signs, one value each -/
theorem lc_str {z : List Nat} {f : Nat → V} {j : Nat} {te : TE} {vs : List Nat} {σ : L2.St} {H1 : Hp} {D : Addr} {Qd : Hp → Prop} (hD : H1 D = none) (hz : z.length ≤ 100000)
    (hw : ∀ x, wipe ((wipe σ vs).set j (some x)) vs = wipe σ vs)
    (hs : ∀ c ∈ z, ∀ H', Same H1 H' → ∀ Q : VK, (∀ H'', Same H' H'' → Q (f c) H'') → te ((wipe σ vs).set j (some (.str (S [c])))) H' Q)
    (hd : ∀ H', Same H1 H' → H' D = some (.lst (z.map f)) → Qd H') :
    ∃ W : Nat → Nat → Hp → Prop, (∃ m, W 0 m (upd H1 D (.lst []))) ∧ ∀ i m H, W i m H →
      ((Its (S z)).stop i H ∧ Qd H) ∨ ((Its (S z)).go i H ∧ ∃ Nx : Hp → Prop, (∀ H', Nx H' → ∃ m', m' < m ∧ W (i + 1) m' H') ∧ ∀ x H', (Its (S z)).yld i H x H' → gName j x (wipe σ vs) H' fun σ2 H2 => wipe σ2 vs = wipe σ vs ∧ tYes σ2 H2 fun b H3 =>
        if b = true then te σ2 H3 fun y H4 => ∃ acc, H4 D = some (.lst acc) ∧ acc.length < sizeLine ∧ Nx (upd H4 D (.lst (acc ++ [y]))) else Nx H3) := by
  have size : (S z).cps.size = z.length := by simp [S]
  refine lc_it (n := (S z).cps.size) walk_str (fun i H' => Same H1 H' ∧ H' D = some (.lst ((z.take i).map f))) ⟨same_upd hD, by rw [upd_same]; rfl⟩ (fun _ _ _ _ => trivial) (fun i x H H' hi hP hY => ?_) (fun H' hP => ?_)
  · obtain ⟨rfl, c, hc, rfl⟩ := hY
    have hc' : z[i]? = some c := by
      have : (S z).cps[i]? = z[i]? := by simp [S]
      rw [← this]
      exact hc
    refine ⟨hw _, ?_⟩
    refine hs c (List.mem_of_getElem? hc') _ hP.1 _ fun H'' s'' => ⟨_, s'' _ _ hP.2, szlt ?_, ?_, ?_⟩
    · rw [List.length_map, List.length_take]
      omega
    · intro b o e
      have nb : b ≠ D := ne_of_none e hD
      rw [upd_ne nb]
      exact s'' _ _ (hP.1 _ _ e)
    · rw [upd_same, List.take_add_one, hc', List.map_append]
      rfl
  · refine hd H' hP.1 ?_
    rw [hP.2, size, List.take_length]
/-- .. over a list, one value each -/
theorem lc_lst {K : PySem.W.Frag} {a : Addr} {xs : List V} {f : V → V} {j : Nat} {te : TE} {vs : List Nat} {σ : L2.St} {H1 : Hp} {D : Addr} {Qd : Hp → Prop} (hD : H1 D = none) (hz : xs.length ≤ 100000) (hx : SqL K H1 a xs)
    (hw : ∀ x, wipe ((wipe σ vs).set j (some x)) vs = wipe σ vs)
    (hs : ∀ c ∈ xs, ∀ H', Same H1 H' → ∀ Q : VK, (∀ H'', Same H' H'' → Q (f c) H'') → te ((wipe σ vs).set j (some c)) H' Q)
    (hd : ∀ H', Same H1 H' → H' D = some (.lst (xs.map f)) → Qd H') :
    ∃ W : Nat → Nat → Hp → Prop, (∃ m, W 0 m (upd H1 D (.lst []))) ∧ ∀ i m H, W i m H →
      ((Itl K a).stop i H ∧ Qd H) ∨ ((Itl K a).go i H ∧ ∃ Nx : Hp → Prop, (∀ H', Nx H' → ∃ m', m' < m ∧ W (i + 1) m' H') ∧ ∀ x H', (Itl K a).yld i H x H' → gName j x (wipe σ vs) H' fun σ2 H2 => wipe σ2 vs = wipe σ vs ∧ tYes σ2 H2 fun b H3 =>
        if b = true then te σ2 H3 fun y H4 => ∃ acc, H4 D = some (.lst acc) ∧ acc.length < sizeLine ∧ Nx (upd H4 D (.lst (acc ++ [y]))) else Nx H3) := by
  refine lc_it (n := xs.length) walk_list (fun i H' => Same H1 H' ∧ H' D = some (.lst ((xs.take i).map f))) ⟨same_upd hD, by rw [upd_same]; rfl⟩ (fun _ _ _ hP => hP.1.seq hx) (fun i x H H' hi hP hY => ?_) (fun H' hP => ?_)
  · obtain ⟨rfl, hc⟩ := hY
    refine ⟨hw _, ?_⟩
    refine hs x (List.mem_of_getElem? hc) _ hP.1 _ fun H'' s'' => ⟨_, s'' _ _ hP.2, szlt ?_, ?_, ?_⟩
    · rw [List.length_map, List.length_take]
      omega
    · intro b o e
      have nb : b ≠ D := ne_of_none e hD
      rw [upd_ne nb]
      exact s'' _ _ (hP.1 _ _ e)
    · rw [upd_same, List.take_add_one, hc, List.map_append]
      rfl
  · refine hd H' hP.1 ?_
    rw [hP.2, List.take_length]
theorem map_bl {α : Type} (l : List α) (p : α → Bool) : l.map (fun c => V.bl (p c)) = (l.map p).map V.bl := by
  rw [List.map_map]
  rfl
theorem all_map {α : Type} (l : List α) (p : α → Bool) : (l.map p).all id = l.all p := by
  rw [List.all_map]
  rfl
/-- isinstance(x, str) of a text -/
theorem isi_str {K : PySem.W.Frag} {x : Str} {H : Hp} {Q : VK} (q : Q (.bl true) H) : rIsi K [.str x, .ty "str"] H Q :=
  ⟨.str x, .ty "str", .type "str", .type "str", true, rfl, .ty _, .base (.str _), kit_ty (by decide +kernel), q⟩
/-- an item of a written list at a drawn place -/
theorem at_some {xs : List V} {i : Int} (h0 : 0 ≤ i) (h1 : i < xs.length) : ∃ v, atI xs i = some v ∧ v ∈ xs := by
  have h2 : i.toNat < xs.length := by omega
  refine ⟨xs[i.toNat], ?_, List.getElem_mem h2⟩
  exact at_of (by omega) (List.getElem?_eq_getElem h2)
theorem qb {Q : VK} {H : Hp} {a b : Bool} (e : a = b) (q : Q (.bl a) H) : Q (.bl b) H := e ▸ q
theorem qs {Q : VK} {H : Hp} {a b : List Nat} (e : a = b) (q : Q (.str (S a)) H) : Q (.str (S b)) H := e ▸ q
/-- no text: isinstance(x, str) is False -/
def NotStr (K : PySem.W.Frag) (H : Hp) (v : V) : Prop := ∃ T : String, TyX K H v (.type T) ∧ kitB T "str" = some false

/-! ### prelude4 -/
/-! lists of texts, compared -/
abbrev vS (l : List Nat) : V := .str (S l)
def dS1 (l : List Nat) : PyData := .str (S l)
def dL (ws : List (List Nat)) : PyData := .list (ws.map dS1)
theorem dpAll_S {K : PySem.W.Frag} {H : Hp} : ∀ ws : List (List Nat), DpAll K H (ws.map vS) (ws.map dS1)
  | [] => .nil
  | _ :: r => .cons (.str _) (dpAll_S r)
theorem dp_L {K : PySem.W.Frag} {H : Hp} {a : Addr} {ws : List (List Nat)} (h : SqL K H a (ws.map vS)) : Dp K H (.ref a) (dL ws) := .lst h (dpAll_S ws)
def Asc (l : List Nat) : Prop := ∀ c ∈ l, c < 128
theorem asc_ok {l : List Nat} (h : Asc l) : PyData.strOk (S l) = true := by
  show (l.toArray.all (· < 0x110000)) = true
  rw [← Array.all_toList, List.all_eq_true]
  exact fun c hc => decide_eq_true (Nat.lt_trans (h c hc) (by decide))
theorem canLay_S : ∀ ws : List (List Nat), (∀ w ∈ ws, Asc w) → PyData.canLayAll0 (ws.map dS1) = true
  | [], _ => rfl
  | w :: r, h => by
    rw [List.map_cons, PyData.canLayAll0, canLay_S r fun x hx => h x (List.mem_cons_of_mem _ hx)]
    have h1 : PyData.canLay0 (dS1 w) = true := by
      show PyData.canLay0 (.str (S w)) = true
      rw [PyData.canLay0]
      exact asc_ok (h w List.mem_cons_self)
    rw [h1]
    rfl
theorem depth_S : ∀ ws : List (List Nat), PyData.depthAll (ws.map dS1) ≤ 1
  | [] => by
    show 0 ≤ 1
    decide
  | w :: r => by
    rw [List.map_cons, PyData.depthAll]
    have h1 := depth_S r
    have h2 : PyData.depth (dS1 w) ≤ 1 := by
      show PyData.depth (.str (S w)) ≤ 1
      rw [PyData.depth]
      decide
    omega
theorem shaped_L {ws : List (List Nat)} (h : ∀ w ∈ ws, Asc w) : SeqAt.shaped (dL ws) = true := by
  unfold SeqAt.shaped dL
  rw [PyData.canLay0, canLay_S ws h, PyData.depth, decide_eq_true]
  · rfl
  · have := depth_S ws
    omega
theorem eqvAll_S : ∀ a b : List (List Nat), PyData.eqvAll (a.map dS1) (b.map dS1) = decide (a = b)
  | [], [] => rfl
  | [], _ :: _ => rfl
  | _ :: _, [] => rfl
  | x :: a, y :: b => by
    rw [List.map_cons, List.map_cons, PyData.eqvAll, eqvAll_S a b]
    have h1 : PyData.eqv (dS1 x) (dS1 y) = decide (x = y) := by
      show PyData.eqv (.str (S x)) (.str (S y)) = _
      rw [PyData.eqv]
      exact SX.S_beq_eq
    rw [h1]
    apply Bool.eq_iff_iff.mpr
    rw [Bool.and_eq_true, decide_eq_true_eq, decide_eq_true_eq, decide_eq_true_eq, List.cons.injEq]
theorem eqv_L (a b : List (List Nat)) : PyData.eqv (dL a) (dL b) = decide (a = b) := by
  unfold dL
  rw [PyData.eqv]
  exact eqvAll_S a b
/-- the parts of a text between single signs -/
def parts (c : Nat) (l : List Nat) : List (List Nat) := TL.spl [c] 0 [] l
theorem split_S {c : Nat} (hc : c < 256) (l : List Nat) : (Txt.split (S l) (S [c])).map V.str = (parts c l).map vS := by
  rw [SX.split_S (a := l) (b := [c]) (by simp) (by simpa using hc), List.map_map]
  rfl
theorem spl_acc (c : Nat) : ∀ (l acc : List Nat), ∃ p r, TL.spl [c] 0 acc l = (acc ++ p) :: r ∧ TL.spl [c] 0 [] l = p :: r
  | [], acc => ⟨[], [], by rw [TL.spl_nil, List.append_nil], by rw [TL.spl_nil]⟩
  | x :: l, acc => by
    by_cases h : TL.pre [c] (x :: l) = true
    · exact ⟨[], TL.spl [c] ([c].length - 1) [] l, by rw [TL.spl_hit h, List.append_nil], by rw [TL.spl_hit h]⟩
    · have h' : TL.pre [c] (x :: l) = false := by simpa using h
      obtain ⟨p, r, e1, e2⟩ := spl_acc c l (acc ++ [x])
      obtain ⟨p', r', e3, e4⟩ := spl_acc c l ([] ++ [x])
      rw [e2] at e4
      cases e4
      exact ⟨x :: p, r, by rw [TL.spl_miss h', e1]; simp, by rw [TL.spl_miss h', e3]; simp⟩
theorem parts_nil (c : Nat) : parts c [] = [[]] := TL.spl_nil _ _ _
theorem parts_hit (c : Nat) (l : List Nat) : parts c (c :: l) = [] :: parts c l := by
  unfold parts
  rw [TL.spl_hit (by simp [TL.pre])]
  rfl
theorem parts_miss {c x : Nat} (h : x ≠ c) (l : List Nat) : ∃ p r, parts c l = p :: r ∧ parts c (x :: l) = (x :: p) :: r := by
  obtain ⟨p, r, e1, e2⟩ := spl_acc c l ([] ++ [x])
  refine ⟨p, r, e2, ?_⟩
  unfold parts
  rw [TL.spl_miss (by simp [TL.pre, h]), e1]
  rfl
theorem parts_ne (c : Nat) (l : List Nat) : parts c l ≠ [] := by
  obtain ⟨p, r, _, e⟩ := spl_acc c l []
  unfold parts
  rw [e]
  exact List.cons_ne_nil _ _
theorem parts_len (c : Nat) : ∀ l : List Nat, (parts c l).length ≤ l.length + 1
  | [] => by rw [parts_nil]; simp
  | x :: l => by
    have ih := parts_len c l
    by_cases h : x = c
    · subst h
      rw [parts_hit]
      simp only [List.length_cons]
      omega
    · obtain ⟨p, r, e1, e2⟩ := parts_miss h l
      rw [e1] at ih
      rw [e2]
      simp only [List.length_cons] at ih ⊢
      omega
theorem parts_cut (c : Nat) : ∀ a b : List Nat, parts c (a ++ c :: b) = parts c a ++ parts c b
  | [], b => by
    rw [List.nil_append, parts_hit, parts_nil]
    rfl
  | x :: a, b => by
    rw [List.cons_append]
    by_cases h : x = c
    · subst h
      rw [parts_hit, parts_hit, parts_cut]
      rfl
    · obtain ⟨p, r, e1, e2⟩ := parts_miss h a
      obtain ⟨p', r', e3, e4⟩ := parts_miss h (a ++ c :: b)
      rw [parts_cut, e1] at e3
      rw [e4, e2]
      cases e3
      rfl
theorem parts_one {c : Nat} : ∀ {l : List Nat}, c ∉ l → parts c l = [l]
  | [], _ => parts_nil c
  | x :: l, h => by
    rw [List.mem_cons, not_or] at h
    obtain ⟨p, r, e1, e2⟩ := parts_miss (fun z => h.1 z.symm) l
    rw [parts_one h.2] at e1
    cases e1
    exact e2
/-- glued again -/
theorem join_parts (c : Nat) : ∀ l : List Nat, TL.joinL [c] (parts c l) = l
  | [] => by
    rw [parts_nil]
    rfl
  | x :: l => by
    have ih := join_parts c l
    by_cases h : x = c
    · subst h
      rw [parts_hit]
      obtain ⟨p, r, e⟩ : ∃ p r, parts x l = p :: r := by
        cases e : parts x l with
        | nil => exact absurd e (parts_ne x l)
        | cons p r => exact ⟨p, r, rfl⟩
      rw [e] at ih ⊢
      show [] ++ ([x] ++ TL.joinL [x] (p :: r)) = x :: l
      rw [ih]
      rfl
    · obtain ⟨p, r, e1, e2⟩ := parts_miss h l
      rw [e1] at ih
      rw [e2]
      cases r with
      | nil =>
        have ih : p = l := ih
        rw [← ih]
        rfl
      | cons q r =>
        have ih : p ++ ([c] ++ TL.joinL [c] (q :: r)) = l := ih
        rw [← ih]
        rfl
theorem join_S (y : List Nat) (ws : List (List Nat)) : Txt.join (S y) (ws.map S) = S (TL.joinL y ws) := by
  rw [TL.join_eq]
  refine TL.ext_tl ?_
  rw [TL.tl_join, SX.map_S_tl]
theorem parts_asc (c : Nat) : ∀ {l : List Nat}, Asc l → ∀ w ∈ parts c l, Asc w
  | [], h, w, hw => by
    rw [parts_nil] at hw
    rcases List.mem_cons.mp hw with rfl | hw
    · exact h
    · cases hw
  | x :: l, h, w, hw => by
    have hl : Asc l := fun c hc => h c (List.mem_cons_of_mem _ hc)
    by_cases e : x = c
    · subst e
      rw [parts_hit] at hw
      rcases List.mem_cons.mp hw with rfl | hw
      · exact fun _ z => nomatch z
      · exact parts_asc x hl w hw
    · obtain ⟨p, r, e1, e2⟩ := parts_miss e l
      have ih := parts_asc c hl
      rw [e1] at ih
      rw [e2] at hw
      rcases List.mem_cons.mp hw with rfl | hw
      · intro z hz
        rcases List.mem_cons.mp hz with rfl | hz
        · exact h _ List.mem_cons_self
        · exact ih p List.mem_cons_self z hz
      · exact ih w (List.mem_cons_of_mem _ hw)
theorem empty_S : ("" : Str) = S [] := by decide +kernel
theorem join_size (c : Nat) : ∀ ws : List (List Nat), (ws.map (·.length)).sum + ws.length ≤ (TL.joinL [c] ws).length + 1
  | [] => by simp
  | [x] => by
    show [x.length].sum + 1 ≤ x.length + 1
    simp
  | x :: y :: r => by
    have ih := join_size c (y :: r)
    show (x.length :: (y :: r).map (·.length)).sum + ((y :: r).length + 1) ≤ (x ++ ([c] ++ TL.joinL [c] (y :: r))).length + 1
    rw [List.sum_cons, List.length_append, List.length_append, List.length_singleton]
    omega
theorem size_join {c : Nat} {ws : List (List Nat)} (h : (TL.joinL [c] ws).length ≤ 1000000) : ((ws.map S).map (·.length)).sum + (ws.map S).length * (S [c]).length ≤ 16777216 := by
  have := join_size c ws
  rw [SX.lens, List.length_map, S_len, List.length_singleton, Nat.mul_one]
  omega
theorem join_app (c : Nat) : ∀ {A B : List (List Nat)}, A ≠ [] → B ≠ [] → TL.joinL [c] (A ++ B) = TL.joinL [c] A ++ c :: TL.joinL [c] B
  | [], _, h, _ => absurd rfl h
  | [x], [], _, h => absurd rfl h
  | [x], y :: B, _, _ => rfl
  | x :: y :: A, B, _, h => by
    have ih := join_app c (A := y :: A) (B := B) (List.cons_ne_nil _ _) h
    show x ++ ([c] ++ TL.joinL [c] (y :: A ++ B)) = x ++ ([c] ++ TL.joinL [c] (y :: A)) ++ c :: TL.joinL [c] B
    rw [ih]
    simp
theorem parts_cut_iff {c : Nat} (p u : List Nat) : (∃ t, p = u ++ c :: t) ↔ (parts c p).length > (parts c u).length ∧ (parts c p).take (parts c u).length = parts c u := by
  constructor
  · rintro ⟨t, rfl⟩
    rw [parts_cut, List.length_append, List.take_left']
    · have : 1 ≤ (parts c t).length := by
        cases e : parts c t with
        | nil => exact absurd e (parts_ne c t)
        | cons x r => simp
      exact ⟨by omega, rfl⟩
    · rfl
  · rintro ⟨h1, h2⟩
    have h3 : (parts c p).drop (parts c u).length ≠ [] := fun z => by
      have := congrArg List.length z
      rw [List.length_drop, List.length_nil] at this
      omega
    refine ⟨TL.joinL [c] ((parts c p).drop (parts c u).length), ?_⟩
    have h4 := join_app c (parts_ne c u) h3
    have h5 : parts c u ++ (parts c p).drop (parts c u).length = parts c p := by
      conv => rhs; rw [← List.take_append_drop (parts c u).length (parts c p)]
      rw [h2]
    rw [h5, join_parts, join_parts] at h4
    exact h4

/-! ### prelude5 -/
/-- a comprehension over a list, with a test -/
theorem lc_fil {K : PySem.W.Frag} {a : Addr} {xs : List V} {b : V → Bool} {j : Nat} {tt : TT} {te : TE} {vs : List Nat} {σ : L2.St} {H1 : Hp} {D : Addr} {Qd : Hp → Prop} (hD : H1 D = none) (hz : xs.length ≤ 100000) (hx : SqL K H1 a xs)
    (hw : ∀ x, wipe ((wipe σ vs).set j (some x)) vs = wipe σ vs)
    (hs : ∀ c ∈ xs, ∀ H', Same H1 H' → ∀ Q : Bool → Hp → Prop, (∀ H'', Same H' H'' → Q (b c) H'') → tt ((wipe σ vs).set j (some c)) H' Q)
    (he : ∀ c ∈ xs, ∀ H', Same H1 H' → ∀ Q : VK, Q c H' → te ((wipe σ vs).set j (some c)) H' Q)
    (hd : ∀ H', Same H1 H' → H' D = some (.lst (xs.filter b)) → Qd H') :
    ∃ W : Nat → Nat → Hp → Prop, (∃ m, W 0 m (upd H1 D (.lst []))) ∧ ∀ i m H, W i m H →
      ((Itl K a).stop i H ∧ Qd H) ∨ ((Itl K a).go i H ∧ ∃ Nx : Hp → Prop, (∀ H', Nx H' → ∃ m', m' < m ∧ W (i + 1) m' H') ∧ ∀ x H', (Itl K a).yld i H x H' → gName j x (wipe σ vs) H' fun σ2 H2 => wipe σ2 vs = wipe σ vs ∧ tt σ2 H2 fun b H3 =>
        if b = true then te σ2 H3 fun y H4 => ∃ acc, H4 D = some (.lst acc) ∧ acc.length < sizeLine ∧ Nx (upd H4 D (.lst (acc ++ [y]))) else Nx H3) := by
  refine lc_it (n := xs.length) walk_list (fun i H' => Same H1 H' ∧ H' D = some (.lst ((xs.take i).filter b))) ⟨same_upd hD, by rw [upd_same]; rfl⟩ (fun _ _ _ hP => hP.1.seq hx) (fun i x H H' hi hP hY => ?_) (fun H' hP => ?_)
  · obtain ⟨rfl, hc⟩ := hY
    have mx := List.mem_of_getElem? hc
    refine ⟨hw _, ?_⟩
    refine hs x mx _ hP.1 _ fun H'' s'' => ?_
    have e1 : xs.take (i + 1) = xs.take i ++ [x] := by rw [List.take_add_one, hc]; rfl
    refine if2 (fun hb => ?_) (fun hb => ?_)
    · refine he x mx H'' (hP.1.trans s'') _ ⟨_, s'' _ _ hP.2, szlt ?_, ?_, ?_⟩
      · have := List.length_filter_le b (xs.take i)
        rw [List.length_take] at this
        omega
      · intro c o e
        rw [upd_ne (ne_of_none e hD)]
        exact s'' _ _ (hP.1 _ _ e)
      · rw [upd_same, e1, List.filter_append, List.filter_cons_of_pos hb]
        rfl
    · refine ⟨hP.1.trans s'', ?_⟩
      rw [s'' _ _ hP.2, e1, List.filter_append, List.filter_cons_of_neg (by rw [hb]; exact Bool.false_ne_true), List.filter_nil, List.append_nil]
  · refine hd H' hP.1 ?_
    rw [hP.2, List.take_length]
theorem putK_len {κ : Type} [DecidableEq κ] (kvs : List (κ × V)) (k : κ) (v : V) : (putK kvs k v).length ≤ kvs.length + 1 := by
  unfold putK
  by_cases a : (kvs.any fun kv => decide (kv.1 = k)) = true
  · rw [if_pos a, List.length_map]
    omega
  · rw [if_neg a, List.length_append]
    exact Nat.le_refl _
theorem dgetT {H : Hp} {a b : Addr} {kvs : List (List Key × V)} {k : List Key} {v : V} (e : H a = some (.dT kvs)) (eb : H b = some (.tup (k.map kV))) (g : valV kvs k = some v) : DGet H a (.ref b) (some v) := g ▸ DGet.t e eb

section
variable {P : Program} {w : World} {K : PySem.W.Frag} {mg : Str → Option Value} {base : Heap}
/-! ### s1_is_number_word -/
def digSign (c : Nat) : Bool := decide (c ∈ cs_DIGITS.cps.toList)
theorem digSign_iff {c : Nat} : digSign c = true ↔ 48 ≤ c ∧ c ≤ 57 := by
  unfold digSign
  rw [decide_eq_true_eq]
  constructor
  · have h : ∀ c ∈ cs_DIGITS.cps.toList, 48 ≤ c ∧ c ≤ 57 := by decide +kernel
    exact h c
  · intro h
    have h2 : ∀ k < 10, 48 + k ∈ cs_DIGITS.cps.toList := by decide +kernel
    have := h2 (c - 48) (by omega)
    rw [show 48 + (c - 48) = c by omega] at this
    exact this
def isNum (l : List Nat) : Bool := !decide (l = []) && l.all digSign
def sp_s1_is_number_word (K : PySem.W.Frag) : Sp := fun vs H Q _ => ∃ l : List Nat, vs = [vS l] ∧ l.length ≤ 100000 ∧ ∀ H', Same H H' → Q (.bl (isNum l)) H'
theorem ok_s1_is_number_word (T : Txt K mg) : FnOk P w K mg base CX0 1 T.f_s1_is_number_word T.d_s1_is_number_word ["text"] (sp_s1_is_number_word K) := by
  refine T.F_s1_is_number_word.ok sc_s1_is_number_word (fun vs H Q E h => ?_) (fun cdv A outer s H vs Q E hr h => ?_)
  · obtain ⟨l, rfl, _⟩ := h
    rfl
  · obtain ⟨l, rfl, hl, q⟩ := h
    refine ⟨_, (pss_one (ps_ret (pe_and (pe_cmpR op_ne (pv 0) pe_str (nomark _)) (pe_one (pe_callB (kAll (K := K) rfl rfl) (by rfl) T.n_all (by decide +kernel) (pa_cons (pe_lc (own := [("sign", 1)]) (g := gName 1) (tt := tYes) (by rfl) sc_s1_is_number_word.nd (pi_str (pv 0)) (blkOk_by (own := [("sign", 1)]) (N := N_s1_is_number_word) (sc := defScope S_s1_is_number_word) (by decide +kernel)) (fun _ _ _ _ _ => (pg_name (i := 1) sc_s1_is_number_word.nd rfl (.inl rfl))) (fun _ _ _ _ _ => pts_nil) (fun _ _ _ _ _ => (pe_cmpR op_in_sign (pv 1) (pe_glob (v := .str cs_DIGITS) (by rfl) T.c_DIGITS.choose_spec ⟨_, rfl⟩) (by rfl)))) pa_nil)))))), ?_⟩
    unfold isNum at q
    refine ⟨_, rfl, rfl, _, rfl, ?_⟩
    rw [empty_S, dS]
    refine if2 (fun h1 => ?_) (fun h1 => ?_)
    · rw [h1] at q
      refine ⟨_, rfl, S l, rfl, fun D hD => ?_⟩
      refine lc_str (f := fun c => .bl (digSign c)) hD hl (fun _ => rfl) (fun c hc H' s' Q' q' => ?_) (fun H' s' hL => ?_)
      · exact ⟨_, rfl, c, _, rfl, rfl, q' H' (Same.refl H')⟩
      · refine ⟨D, l.map digSign, rfl, ?_, ?_⟩
        · rw [← map_bl]
          exact SqL.of hL
        · rw [all_map]
          exact q H' s'
    · rw [h1] at q
      exact q H (Same.refl H)

/-! ### s1_is_small -/
theorem zero_S : ("0" : Str) = S [48] := by decide +kernel
theorem isNum_digits {l : List Nat} (h : isNum l = true) : l ≠ [] ∧ l.all (fun c => decide (48 ≤ c) && decide (c ≤ 57)) = true := by
  unfold isNum at h
  rw [Bool.and_eq_true, Bool.not_eq_true', decide_eq_false_iff_not] at h
  refine ⟨h.1, List.all_eq_true.mpr fun c hc => ?_⟩
  have := digSign_iff.mp (List.all_eq_true.mp h.2 c hc)
  rw [decide_eq_true this.1, decide_eq_true this.2]
  rfl
def isSmall (l : List Nat) : Bool := isNum l && decide (l.length ≤ 3) && !(decide (l.head? = some 48) && !decide (l = [48])) && decide (NumText.digitsVal l ≤ 255)
def sp_s1_is_small (K : PySem.W.Frag) : Sp := fun vs H Q _ => ∃ l : List Nat, vs = [vS l] ∧ l.length ≤ 100000 ∧ ∀ H', Same H H' → Q (.bl (isSmall l)) H'
theorem ok_s1_is_small (T : Txt K mg) : FnOk P w K mg base CX0 2 T.f_s1_is_small T.d_s1_is_small ["word"] (sp_s1_is_small K) := by
  refine T.F_s1_is_small.ok sc_s1_is_small (fun vs H Q E h => ?_) (fun cdv A outer s H vs Q E hr h => ?_)
  · obtain ⟨l, rfl, _⟩ := h
    rfl
  · obtain ⟨l, rfl, hl, q⟩ := h
    refine ⟨_, (pss_cons (ps_if (PW.pt (pw_or (pt_not (pt_val (pe_call (ok_s1_is_number_word T) (hr.mono (by decide)) (by rfl) T.g_s1_is_number_word T.F_s1_is_number_word.kp T.b_s1_is_number_word .nil pass0 (pa_cons (pv 0) pa_nil)))) (pw_or (pt_cmpR op_gt (pe_callB call_len_str (by rfl) T.n_len (by decide +kernel) (pa_cons (pv 0) pa_nil)) pe_int (nomark _)) (pw_or1 (PW.pt (pw_and (pt_cmpR op_eq (pe_ix ix_str (pv 0) pe_int (fun _ _ => rfl)) pe_str (nomark _)) (pw_and1 (pt_cmpR op_ne (pv 0) pe_str (nomark _)))))))))
      (pss_one (ps_ret pe_bl))
      pss_nil)
      (pss_one (ps_ret (pe_cmpR op_le (pe_callTy call_int_str (by rfl) T.n_int (by decide +kernel) (pa_cons (pv 0) pa_nil)) pe_int (nomark _))))), ?_⟩
    unfold isSmall at q
    refine ⟨_, rfl, l, rfl, hl, fun H1 s1 => ⟨_, rfl, ?_⟩⟩
    refine if2 (fun h1 => ?_) (fun h1 => ?_)
    · have e : isNum l = false := by simpa using h1
      rw [e] at q
      exact q H1 s1
    have e : isNum l = true := by simpa using h1
    rw [e, Bool.true_and] at q
    obtain ⟨hne, hdig⟩ := isNum_digits e
    refine ⟨_, rfl, S l, rfl, szS hl, _, _, rfl, rfl, _, rfl, ?_⟩
    rw [S_len]
    refine if2 (fun h2 => ?_) (fun h2 => ?_)
    · have e2 : ¬ l.length ≤ 3 := by simp at h2; omega
      rw [decide_eq_false e2] at q
      exact q H1 s1
    have e2 : l.length ≤ 3 := by simp at h2; omega
    rw [decide_eq_true e2, Bool.true_and] at q
    obtain ⟨c, r, rfl⟩ : ∃ c r, l = c :: r := by
      cases l with
      | nil => exact absurd rfl hne
      | cons c r => exact ⟨c, r, rfl⟩
    have fin : (!(decide ((c :: r).head? = some 48) && !decide (c :: r = [48]))) = true → ∃ n : Int, intText? (S (c :: r)) = some n ∧ (S (c :: r)).length ≤ 640 ∧ Q (.bl (decide (n ≤ 255))) H1 := fun h => by
      rw [h, Bool.true_and] at q
      refine ⟨_, SX.int_S hdig hne (by omega), by rw [S_len]; omega, ?_⟩
      refine qb ?_ (q H1 s1)
      apply Bool.eq_iff_iff.mpr
      rw [decide_eq_true_eq, decide_eq_true_eq]
      omega
    refine ⟨_, rfl, S (c :: r), 0, c, rfl, rfl, szS hl, atI_nat (j := 0) rfl, rfl, _, rfl, ?_⟩
    rw [zero_S, dS]
    refine if2 (fun h3 => ?_) (fun h3 => ?_)
    · have e3 : c = 48 := by simpa using h3
      subst e3
      refine ⟨_, rfl, rfl, _, rfl, ?_⟩
      rw [dS]
      refine if2 (fun h4 => ?_) (fun h4 => ?_)
      · have e4 : (!(decide ((48 :: r).head? = some 48) && !decide (48 :: r = [48]))) = false := by rw [h4]; rfl
        rw [e4] at q
        exact q H1 s1
      · obtain ⟨n, f1, f2, f3⟩ := fin (by rw [h4]; rfl)
        exact ⟨_, rfl, _, n, rfl, f1, f2, _, _, rfl, rfl, f3⟩
    · have e3 : ¬ c = 48 := by simpa using h3
      obtain ⟨n, f1, f2, f3⟩ := fin (by rw [List.head?_cons, decide_eq_false (fun z => e3 (Option.some.inj z))]; rfl)
      exact ⟨_, rfl, _, n, rfl, f1, f2, _, _, rfl, rfl, f3⟩

/-! ### s1_is_label -/
theorem dash_S : ("-" : Str) = S [45] := by decide +kernel
def labSign (c : Nat) : Bool := decide (c ∈ cs_LABEL_SIGNS.cps.toList)
def isLabel (l : List Nat) : Bool := decide (1 ≤ l.length ∧ l.length ≤ 20) && !decide (l.head? = some 45) && !decide (l.getLast? = some 45) && l.all labSign
def sp_s1_is_label (K : PySem.W.Frag) : Sp := fun vs H Q _ => ∃ l : List Nat, vs = [vS l] ∧ l.length ≤ 100000 ∧ ∀ H', Same H H' → Q (.bl (isLabel l)) H'
theorem ok_s1_is_label (T : Txt K mg) : FnOk P w K mg base CX0 1 T.f_s1_is_label T.d_s1_is_label ["text"] (sp_s1_is_label K) := by
  refine T.F_s1_is_label.ok sc_s1_is_label (fun vs H Q E h => ?_) (fun cdv A outer s H vs Q E hr h => ?_)
  · obtain ⟨l, rfl, _⟩ := h
    rfl
  · obtain ⟨l, rfl, hl, q⟩ := h
    refine ⟨_, (pss_cons (ps_if (PW.pt (pw_or (pt_not (pt_chain op_le op_le pe_int (pe_callB call_len_str (by rfl) T.n_len (by decide +kernel) (pa_cons (pv 0) pa_nil)) (pe_glob (v := .int (20)) (by rfl) T.c_MOST_LABEL.choose_spec ⟨_, rfl⟩))) (pw_or (pt_cmpR op_eq (pe_ix ix_str (pv 0) pe_int (fun _ _ => rfl)) pe_str (nomark _)) (pw_or1 (pt_cmpR op_eq (pe_ix ix_str (pv 0) (pe_un un_neg pe_int) (fun _ _ => rfl)) pe_str (nomark _))))))
      (pss_one (ps_ret pe_bl))
      pss_nil)
      (pss_one (ps_ret (pe_callB (kAll (K := K) rfl rfl) (by rfl) T.n_all (by decide +kernel) (pa_cons (pe_lc (own := [("sign", 1)]) (g := gName 1) (tt := tYes) (by rfl) sc_s1_is_label.nd (pi_str (pv 0)) (blkOk_by (own := [("sign", 1)]) (N := N_s1_is_label) (sc := defScope S_s1_is_label) (by decide +kernel)) (fun _ _ _ _ _ => (pg_name (i := 1) sc_s1_is_label.nd rfl (.inl rfl))) (fun _ _ _ _ _ => pts_nil) (fun _ _ _ _ _ => (pe_cmpR op_in_sign (pv 1) (pe_glob (v := .str cs_LABEL_SIGNS) (by rfl) T.c_LABEL_SIGNS.choose_spec ⟨_, rfl⟩) (by rfl)))) pa_nil))))), ?_⟩
    unfold isLabel at q
    refine ⟨_, rfl, S l, rfl, szS hl, 1, _, rfl, rfl, _, rfl, ?_⟩
    rw [S_len]
    refine if2 (fun h1 => ?_) (fun h1 => ?_)
    · refine ⟨_, _, rfl, rfl, _, rfl, ?_⟩
      refine if2 (fun h2 => ?_) (fun h2 => ?_)
      · rw [decide_eq_false (by simp at h2; omega)] at q
        exact q H (Same.refl H)
      · have h3 : 1 ≤ l.length ∧ l.length ≤ 20 := by simp at h1 h2; omega
        rw [decide_eq_true h3, Bool.true_and] at q
        obtain ⟨c, r, rfl⟩ : ∃ c r, l = c :: r := by
          cases l with
          | nil => simp at h1
          | cons c r => exact ⟨c, r, rfl⟩
        refine ⟨_, rfl, S (c :: r), 0, c, rfl, rfl, szS hl, atI_nat (j := 0) rfl, rfl, _, rfl, ?_⟩
        rw [dash_S, dS]
        refine if2 (fun h4 => ?_) (fun h4 => ?_)
        · have e4 : c = 45 := by simpa using h4
          rw [List.head?_cons, e4, decide_eq_true rfl] at q
          exact q H (Same.refl H)
        · have e4 : ¬ c = 45 := by simpa using h4
          rw [List.head?_cons, decide_eq_false (fun z => e4 (Option.some.inj z)), Bool.not_false, Bool.true_and] at q
          have hg : (c :: r).getLast? = some ((c :: r).getLast (List.cons_ne_nil c r)) := List.getLast?_eq_some_getLast _
          rw [hg] at q
          generalize hx : (c :: r).getLast (List.cons_ne_nil c r) = x at q hg
          refine ⟨_, rfl, 1, rfl, S (c :: r), -1, x, rfl, rfl, szS hl, atI_neg1 hg, rfl, _, rfl, ?_⟩
          rw [dS]
          refine if2 (fun h5 => ?_) (fun h5 => ?_)
          · have e5 : x = 45 := by simpa using h5
            rw [e5, decide_eq_true rfl] at q
            exact q H (Same.refl H)
          · have e5 : ¬ x = 45 := by simpa using h5
            rw [decide_eq_false (fun z => e5 (Option.some.inj z)), Bool.not_false, Bool.true_and] at q
            refine ⟨_, rfl, S (c :: r), rfl, fun D hD => ?_⟩
            refine lc_str (f := fun c => .bl (labSign c)) hD hl (fun _ => rfl) (fun c hc H' s' Q' q' => ?_) (fun H' s' hL => ?_)
            · exact ⟨_, rfl, c, _, rfl, rfl, q' H' (Same.refl H')⟩
            · refine ⟨D, (c :: r).map labSign, rfl, ?_, ?_⟩
              · rw [← map_bl]
                exact SqL.of hL
              · rw [all_map]
                exact q H' s'
    · refine ⟨false, rfl, ?_⟩
      rw [decide_eq_false (by simp at h1; omega)] at q
      exact q H (Same.refl H)

/-! ### is_address_host -/
theorem dot_S : ("." : Str) = S [46] := by decide +kernel
def isAddr (l : List Nat) : Bool := decide ((parts 46 l).length = 4) && (parts 46 l).all isSmall
theorem parts_each (c : Nat) : ∀ {l : List Nat}, ∀ w ∈ parts c l, w.length ≤ l.length
  | [], w, h => by
    rw [parts_nil] at h
    rcases List.mem_cons.mp h with rfl | h
    · exact Nat.le_refl _
    · cases h
  | x :: l, w, h => by
    by_cases e : x = c
    · subst e
      rw [parts_hit] at h
      rcases List.mem_cons.mp h with rfl | h
      · exact Nat.zero_le _
      · exact Nat.le_succ_of_le (parts_each x w h)
    · obtain ⟨p, r, e1, e2⟩ := parts_miss e l
      rw [e2] at h
      rcases List.mem_cons.mp h with rfl | h
      · exact Nat.succ_le_succ (parts_each c p (by rw [e1]; exact List.mem_cons_self))
      · exact Nat.le_succ_of_le (parts_each c w (by rw [e1]; exact List.mem_cons_of_mem _ h))
theorem map_vS_bl (ws : List (List Nat)) (f : List Nat → Bool) : (ws.map vS).map (fun v => match v with | .str x => V.bl (f x.cps.toList) | _ => .non) = (ws.map f).map V.bl := by
  rw [List.map_map, List.map_map]
  rfl
def sp_is_address_host (K : PySem.W.Frag) : Sp := fun vs H Q _ => ∃ v, vs = [v] ∧ ((∃ l : List Nat, v = vS l ∧ l.length ≤ 50000 ∧ ∀ H', Same H H' → Q (.bl (isAddr l)) H') ∨ (NotStr K H v ∧ Q (.bl false) H))
theorem ok_is_address_host (T : Txt K mg) : FnOk P w K mg base CX0 3 T.f_is_address_host T.d_is_address_host ["value"] (sp_is_address_host K) := by
  refine T.F_is_address_host.ok sc_is_address_host (fun vs H Q E h => ?_) (fun cdv A outer s H vs Q E hr h => ?_)
  · obtain ⟨l, rfl, _⟩ := h
    rfl
  · obtain ⟨v, rfl, ⟨l, rfl, hl, q⟩ | ⟨⟨T0, hty, hk⟩, q⟩⟩ := h
    · refine ⟨_, (pss_cons (ps_if (pt_not (pt_val (pe_callB (kIsi (K := K) rfl) (by rfl) T.n_isinstance (by decide +kernel) (pa_cons (pv 0) (pa_cons (pe_bltn (v := .ty "str") (by rfl) T.n_str (by decide +kernel) rfl) pa_nil)))))
      (pss_one (ps_ret pe_bl))
      pss_nil)
      (pss_cons (ps_set (i := 1) sc_is_address_host.nd rfl (.inl rfl) (pe_split (pv 0) pe_str))
      (pss_one (ps_ret (pe_and (pe_cmpR op_eq (pe_callB (kLen (K := K) rfl) (by rfl) T.n_len (by decide +kernel) (pa_cons (pv 1) pa_nil)) pe_int (nomark _)) (pe_one (pe_callB (kAll (K := K) rfl rfl) (by rfl) T.n_all (by decide +kernel) (pa_cons (pe_lc (own := [("word", 2)]) (g := gName 2) (tt := tYes) (by rfl) sc_is_address_host.nd (kpList (K := K) rfl (pv 1)) (blkOk_by (own := [("word", 2)]) (N := N_is_address_host) (sc := defScope S_is_address_host) (by decide +kernel)) (fun _ _ _ _ _ => (pg_name (i := 2) sc_is_address_host.nd rfl (.inl rfl))) (fun _ _ _ _ _ => pts_nil) (fun _ _ _ _ _ => (pe_call (ok_s1_is_small T) (hr.mono (by decide)) (by rfl) T.g_s1_is_small T.F_s1_is_small.kp T.b_s1_is_small .nil pass0 (pa_cons (pv 2) pa_nil)))) pa_nil)))))))), ?_⟩
      unfold isAddr at q
      refine ⟨_, rfl, .str (S l), .ty "str", .type "str", .type "str", true, rfl, .ty _, .base (.str _), kit_ty (by decide +kernel), true, rfl, ?_⟩
      have lp := parts_len 46 l
      refine ⟨_, rfl, ⟨_, rfl⟩, S l, S [46], rfl, by rw [dot_S], rfl, by rw [S_len]; exact sz (by omega), fun a na => ?_⟩
      rw [split_S (by decide)]
      have ha : upd H a (.lst ((parts 46 l).map vS)) a = some (.lst ((parts 46 l).map vS)) := upd_same
      refine ⟨_, rfl, a, _, rfl, .inl (SqL.of ha), rfl, _, rfl, ?_⟩
      rw [List.length_map, dI]
      refine if2 (fun h1 => ?_) (fun h1 => ?_)
      · have e1 : (parts 46 l).length = 4 := by simp at h1; omega
        rw [decide_eq_true e1, Bool.true_and] at q
        refine ⟨_, rfl, a, rfl, ⟨_, SqL.of ha⟩, fun D hD => ?_⟩
        refine lc_lst (f := fun v => match v with | .str x => V.bl (isSmall x.cps.toList) | _ => .non) hD (by rw [List.length_map]; omega) (SqL.of ha) (fun _ => rfl) (fun c hc H' s' Q' q' => ?_) (fun H' s' hL => ?_)
        · obtain ⟨w, hw, rfl⟩ := List.mem_map.mp hc
          have := parts_each 46 w hw
          exact ⟨_, rfl, w, rfl, by omega, q'⟩
        · rw [map_vS_bl] at hL
          refine ⟨D, _, rfl, SqL.of hL, ?_⟩
          rw [all_map]
          exact q H' ((same_upd na).trans s')
      · have e1 : ¬ (parts 46 l).length = 4 := by simp at h1; omega
        rw [decide_eq_false e1] at q
        exact q _ (same_upd na)
    · refine ⟨_, (pss_cons (ps_if (pt_not (pt_val (pe_callB (kIsi (K := K) rfl) (by rfl) T.n_isinstance (by decide +kernel) (pa_cons (pv 0) (pa_cons (pe_bltn (v := .ty "str") (by rfl) T.n_str (by decide +kernel) rfl) pa_nil)))))
      (pss_one (ps_ret pe_bl))
      pss_nil)
      (pss_cons (ps_set (i := 1) sc_is_address_host.nd rfl (.inl rfl) (pe_split (pv 0) pe_str))
      (pss_one (ps_ret (pe_and (pe_cmpR op_eq (pe_callB (kLen (K := K) rfl) (by rfl) T.n_len (by decide +kernel) (pa_cons (pv 1) pa_nil)) pe_int (nomark _)) (pe_one (pe_callB (kAll (K := K) rfl rfl) (by rfl) T.n_all (by decide +kernel) (pa_cons (pe_lc (own := [("word", 2)]) (g := gName 2) (tt := tYes) (by rfl) sc_is_address_host.nd (kpList (K := K) rfl (pv 1)) (blkOk_by (own := [("word", 2)]) (N := N_is_address_host) (sc := defScope S_is_address_host) (by decide +kernel)) (fun _ _ _ _ _ => (pg_name (i := 2) sc_is_address_host.nd rfl (.inl rfl))) (fun _ _ _ _ _ => pts_nil) (fun _ _ _ _ _ => (pe_call (ok_s1_is_small T) (hr.mono (by decide)) (by rfl) T.g_s1_is_small T.F_s1_is_small.kp T.b_s1_is_small .nil pass0 (pa_cons (pv 2) pa_nil)))) pa_nil)))))))), ?_⟩
      exact ⟨_, rfl, v, .ty "str", .type T0, .type "str", false, rfl, .ty _, hty, kit_ty hk, false, rfl, q⟩

/-! ### is_host -/
def isHost (l : List Nat) : Bool := decide (l.length ≤ 100) && decide ((parts 46 l).length ≤ 10) && (parts 46 l).all isLabel && (!isNum ((parts 46 l).getLast (parts_ne 46 l)) || isAddr l)
def sp_is_host (K : PySem.W.Frag) : Sp := fun vs H Q _ => ∃ v, vs = [v] ∧ ((∃ l : List Nat, v = vS l ∧ l.length ≤ 50000 ∧ ∀ H', Same H H' → Q (.bl (isHost l)) H') ∨ (NotStr K H v ∧ Q (.bl false) H))
theorem ok_is_host (T : Txt K mg) : FnOk P w K mg base CX0 4 T.f_is_host T.d_is_host ["value"] (sp_is_host K) := by
  refine T.F_is_host.ok sc_is_host (fun vs H Q E h => ?_) (fun cdv A outer s H vs Q E hr h => ?_)
  · obtain ⟨l, rfl, _⟩ := h
    rfl
  · obtain ⟨v, rfl, ⟨l, rfl, hl, q⟩ | ⟨⟨T0, hty, hk⟩, q⟩⟩ := h
    · refine ⟨_, (pss_cons (ps_if (PW.pt (pw_or (pt_not (pt_val (pe_callB (kIsi (K := K) rfl) (by rfl) T.n_isinstance (by decide +kernel) (pa_cons (pv 0) (pa_cons (pe_bltn (v := .ty "str") (by rfl) T.n_str (by decide +kernel) rfl) pa_nil))))) (pw_or1 (pt_cmpR op_gt (pe_callB call_len_str (by rfl) T.n_len (by decide +kernel) (pa_cons (pv 0) pa_nil)) (pe_glob (v := .int (100)) (by rfl) T.c_MOST_SIGNS.choose_spec ⟨_, rfl⟩) (nomark _)))))
      (pss_one (ps_ret pe_bl))
      pss_nil)
      (pss_cons (ps_set (i := 1) sc_is_host.nd rfl (.inl rfl) (pe_split (pv 0) pe_str))
      (pss_cons (ps_if (PW.pt (pw_or (pt_cmpR op_gt (pe_callB (kLen (K := K) rfl) (by rfl) T.n_len (by decide +kernel) (pa_cons (pv 1) pa_nil)) (pe_glob (v := .int (10)) (by rfl) T.c_MOST_LABELS.choose_spec ⟨_, rfl⟩) (nomark _)) (pw_or1 (pt_not (pt_val (pe_callB (kAll (K := K) rfl rfl) (by rfl) T.n_all (by decide +kernel) (pa_cons (pe_lc (own := [("word", 2)]) (g := gName 2) (tt := tYes) (by rfl) sc_is_host.nd (kpList (K := K) rfl (pv 1)) (blkOk_by (own := [("word", 2)]) (N := N_is_host) (sc := defScope S_is_host) (by decide +kernel)) (fun _ _ _ _ _ => (pg_name (i := 2) sc_is_host.nd rfl (.inl rfl))) (fun _ _ _ _ _ => pts_nil) (fun _ _ _ _ _ => (pe_call (ok_s1_is_label T) (hr.mono (by decide)) (by rfl) T.g_s1_is_label T.F_s1_is_label.kp T.b_s1_is_label .nil pass0 (pa_cons (pv 2) pa_nil)))) pa_nil)))))))
      (pss_one (ps_ret pe_bl))
      pss_nil)
      (pss_one (ps_ret (pe_or (pe_not (pe_call (ok_s1_is_number_word T) (hr.mono (by decide)) (by rfl) T.g_s1_is_number_word T.F_s1_is_number_word.kp T.b_s1_is_number_word .nil pass0 (pa_cons (pe_ix (kIxL (K := K) rfl) (pv 1) (pe_un un_neg pe_int) (fun _ _ => rfl)) pa_nil))) (pe_one (pe_call (ok_is_address_host T) (hr.mono (by decide)) (by rfl) T.g_is_address_host T.F_is_address_host.kp T.b_is_address_host .nil pass0 (pa_cons (pv 0) pa_nil))))))))), ?_⟩
      unfold isHost at q
      refine ⟨_, rfl, .str (S l), .ty "str", .type "str", .type "str", true, rfl, .ty _, .base (.str _), kit_ty (by decide +kernel), true, rfl, ?_⟩
      refine ⟨_, rfl, S l, rfl, szS (by omega), _, _, rfl, rfl, _, rfl, ?_⟩
      rw [S_len]
      refine if2 (fun h1 => ?_) (fun h1 => ?_)
      · have e1 : ¬ l.length ≤ 100 := by simp at h1; omega
        rw [decide_eq_false e1] at q
        exact q H (Same.refl H)
      have e1 : l.length ≤ 100 := by simp at h1; omega
      rw [decide_eq_true e1, Bool.true_and] at q
      have lp := parts_len 46 l
      refine ⟨_, rfl, ⟨_, rfl⟩, S l, S [46], rfl, by rw [dot_S], rfl, by rw [S_len]; exact sz (by omega), fun a na => ?_⟩
      rw [split_S (by decide)]
      have ha : upd H a (.lst ((parts 46 l).map vS)) a = some (.lst ((parts 46 l).map vS)) := upd_same
      refine ⟨_, rfl, a, _, rfl, .inl (SqL.of ha), _, _, rfl, rfl, _, rfl, ?_⟩
      rw [List.length_map]
      refine if2 (fun h2 => ?_) (fun h2 => ?_)
      · have e2 : ¬ (parts 46 l).length ≤ 10 := by simp at h2; omega
        rw [decide_eq_false e2] at q
        exact q _ (same_upd na)
      have e2 : (parts 46 l).length ≤ 10 := by simp at h2; omega
      rw [decide_eq_true e2, Bool.true_and] at q
      refine ⟨_, rfl, a, rfl, ⟨_, SqL.of ha⟩, fun D hD => ?_⟩
      refine lc_lst (f := fun v => match v with | .str x => V.bl (isLabel x.cps.toList) | _ => .non) hD (by rw [List.length_map]; omega) (SqL.of ha) (fun _ => rfl) (fun c hc H' s' Q' q' => ?_) (fun H1 s1 hL => ?_)
      · obtain ⟨w, hw, rfl⟩ := List.mem_map.mp hc
        have := parts_each 46 w hw
        exact ⟨_, rfl, w, rfl, by omega, q'⟩
      rw [map_vS_bl] at hL
      have s1' := (same_upd na).trans s1
      refine ⟨D, _, rfl, SqL.of hL, _, rfl, ?_⟩
      rw [all_map]
      refine if2 (fun h3 => ?_) (fun h3 => ?_)
      · have e3 : (parts 46 l).all isLabel = false := by simpa using h3
        rw [e3] at q
        exact q H1 s1'
      have e3 : (parts 46 l).all isLabel = true := by simpa using h3
      rw [e3, Bool.true_and] at q
      have hg : ((parts 46 l).map vS).getLast? = some (vS ((parts 46 l).getLast (parts_ne 46 l))) := by
        rw [List.getLast?_map, List.getLast?_eq_some_getLast (parts_ne 46 l)]
        rfl
      have hw := parts_each 46 _ (List.getLast_mem (parts_ne 46 l))
      refine ⟨_, rfl, 1, rfl, a, _, _, _, rfl, rfl, SqL.of (s1 _ _ ha), atI_neg1 hg, _, rfl, by omega, fun H2 s2 => ?_⟩
      refine ⟨_, rfl, _, rfl, ?_⟩
      refine if2 (fun h4 => ?_) (fun h4 => ?_)
      · rw [h4] at q
        exact q H2 (s1'.trans s2)
      · rw [h4, Bool.false_or] at q
        exact ⟨_, rfl, _, rfl, .inl ⟨l, rfl, hl, fun H3 s3 => q H3 (s1'.trans (s2.trans s3))⟩⟩
    · refine ⟨_, (pss_cons (ps_if (PW.pt (pw_or (pt_not (pt_val (pe_callB (kIsi (K := K) rfl) (by rfl) T.n_isinstance (by decide +kernel) (pa_cons (pv 0) (pa_cons (pe_bltn (v := .ty "str") (by rfl) T.n_str (by decide +kernel) rfl) pa_nil))))) (pw_or1 (pt_cmpR op_gt (pe_callB call_len_str (by rfl) T.n_len (by decide +kernel) (pa_cons (pv 0) pa_nil)) (pe_glob (v := .int (100)) (by rfl) T.c_MOST_SIGNS.choose_spec ⟨_, rfl⟩) (nomark _)))))
      (pss_one (ps_ret pe_bl))
      pss_nil)
      (pss_cons (ps_set (i := 1) sc_is_host.nd rfl (.inl rfl) (pe_split (pv 0) pe_str))
      (pss_cons (ps_if (PW.pt (pw_or (pt_cmpR op_gt (pe_callB (kLen (K := K) rfl) (by rfl) T.n_len (by decide +kernel) (pa_cons (pv 1) pa_nil)) (pe_glob (v := .int (10)) (by rfl) T.c_MOST_LABELS.choose_spec ⟨_, rfl⟩) (nomark _)) (pw_or1 (pt_not (pt_val (pe_callB (kAll (K := K) rfl rfl) (by rfl) T.n_all (by decide +kernel) (pa_cons (pe_lc (own := [("word", 2)]) (g := gName 2) (tt := tYes) (by rfl) sc_is_host.nd (kpList (K := K) rfl (pv 1)) (blkOk_by (own := [("word", 2)]) (N := N_is_host) (sc := defScope S_is_host) (by decide +kernel)) (fun _ _ _ _ _ => (pg_name (i := 2) sc_is_host.nd rfl (.inl rfl))) (fun _ _ _ _ _ => pts_nil) (fun _ _ _ _ _ => (pe_call (ok_s1_is_label T) (hr.mono (by decide)) (by rfl) T.g_s1_is_label T.F_s1_is_label.kp T.b_s1_is_label .nil pass0 (pa_cons (pv 2) pa_nil)))) pa_nil)))))))
      (pss_one (ps_ret pe_bl))
      pss_nil)
      (pss_one (ps_ret (pe_or (pe_not (pe_call (ok_s1_is_number_word T) (hr.mono (by decide)) (by rfl) T.g_s1_is_number_word T.F_s1_is_number_word.kp T.b_s1_is_number_word .nil pass0 (pa_cons (pe_ix (kIxL (K := K) rfl) (pv 1) (pe_un un_neg pe_int) (fun _ _ => rfl)) pa_nil))) (pe_one (pe_call (ok_is_address_host T) (hr.mono (by decide)) (by rfl) T.g_is_address_host T.F_is_address_host.kp T.b_is_address_host .nil pass0 (pa_cons (pv 0) pa_nil))))))))), ?_⟩
      exact ⟨_, rfl, v, .ty "str", .type T0, .type "str", false, rfl, .ty _, hty, kit_ty hk, false, rfl, q⟩

/-! ### need_host -/
theorem isHost_len {l : List Nat} (h : isHost l = true) : l.length ≤ 100 ∧ (parts 46 l).length ≤ 10 ∧ (parts 46 l).all isLabel = true ∧ (isNum ((parts 46 l).getLast (parts_ne 46 l)) = false ∨ isAddr l = true) := by
  unfold isHost at h
  rw [Bool.and_eq_true, Bool.and_eq_true, Bool.and_eq_true, decide_eq_true_eq, decide_eq_true_eq, Bool.or_eq_true, Bool.not_eq_true'] at h
  exact ⟨h.1.1.1, h.1.1.2, h.1.2, h.2⟩
def sp_need_host (K : PySem.W.Frag) : Sp := fun vs H Q _ => ∃ l : List Nat, vs = [vS l] ∧ isHost l = true ∧ ∀ H', Same H H' → Q .non H'
theorem ok_need_host (T : Txt K mg) : FnOk P w K mg base CX0 5 T.f_need_host T.d_need_host ["value"] (sp_need_host K) := by
  refine T.F_need_host.ok sc_need_host (fun vs H Q E h => ?_) (fun cdv A outer s H vs Q E hr h => ?_)
  · obtain ⟨l, rfl, _⟩ := h
    rfl
  · obtain ⟨l, rfl, hl, q⟩ := h
    refine ⟨_, (pss_one (ps_if (pt_not (pt_val (pe_call (ok_is_host T) (hr.mono (by decide)) (by rfl) T.g_is_host T.F_is_host.kp T.b_is_host .nil pass0 (pa_cons (pv 0) pa_nil))))
      (pss_one ps_never)
      pss_nil)), ?_⟩
    have := (isHost_len hl).1
    refine ⟨_, rfl, _, rfl, .inl ⟨l, rfl, by omega, fun H' s' => ?_⟩⟩
    rw [hl]
    exact ⟨true, rfl, q H' s'⟩

/-! ### labels_of -/
def sp_labels_of (K : PySem.W.Frag) : Sp := fun vs H Q _ => ∃ l : List Nat, vs = [vS l] ∧ isHost l = true ∧ ∀ (H' : Hp) (p : Addr), Same H H' → H' p = some (.tup ((parts 46 l).map vS)) → Q (.ref p) H'
theorem ok_labels_of (T : Txt K mg) : FnOk P w K mg base CX0 6 T.f_labels_of T.d_labels_of ["host"] (sp_labels_of K) := by
  refine T.F_labels_of.ok sc_labels_of (fun vs H Q E h => ?_) (fun cdv A outer s H vs Q E hr h => ?_)
  · obtain ⟨l, rfl, _⟩ := h
    rfl
  · obtain ⟨l, rfl, hl, q⟩ := h
    refine ⟨_, (pss_cons (ps_expr (pe_call (ok_need_host T) (hr.mono (by decide)) (by rfl) T.g_need_host T.F_need_host.kp T.b_need_host .nil pass0 (pa_cons (pv 0) pa_nil)))
      (pss_one (ps_ret (pe_callTy (kTup (K := K) rfl) (by rfl) T.n_tuple (by decide +kernel) (pa_cons (pe_split (pv 0) pe_str) pa_nil))))), ?_⟩
    have := (isHost_len hl).1
    refine ⟨_, rfl, l, rfl, hl, fun H1 s1 => ?_⟩
    refine ⟨_, rfl, ⟨_, rfl⟩, S l, S [46], rfl, by rw [dot_S], rfl, by rw [S_len]; exact sz (by omega), fun a na => ?_⟩
    rw [split_S (by decide)]
    exact ⟨a, _, rfl, .inl ⟨SqL.of upd_same, fun p np => q _ p (s1.trans ((same_upd na).trans (same_upd np))) upd_same⟩⟩

/-! ### s1_fits -/
def hostFits (h d : List Nat) : Bool := decide (h = d) || (!isAddr h && (46 :: d).isSuffixOf h)
def sp_s1_fits (K : PySem.W.Frag) : Sp := fun vs H Q _ => ∃ h d : List Nat, vs = [vS h, vS d] ∧ h.length ≤ 50000 ∧ d.length ≤ 50000 ∧ ∀ H', Same H H' → Q (.bl (hostFits h d)) H'
theorem ok_s1_fits (T : Txt K mg) : FnOk P w K mg base CX0 4 T.f_s1_fits T.d_s1_fits ["host", "domain"] (sp_s1_fits K) := by
  refine T.F_s1_fits.ok sc_s1_fits (fun vs H Q E h => ?_) (fun cdv A outer s H vs Q E hr h => ?_)
  · obtain ⟨h, d, rfl, _⟩ := h
    rfl
  · obtain ⟨h, d, rfl, hh, hd, q⟩ := h
    refine ⟨_, (pss_one (ps_ret (pe_or (pe_cmpR op_eq (pv 0) (pv 1) (nomark _)) (pe_one (pe_and (pe_not (pe_call (ok_is_address_host T) (hr.mono (by decide)) (by rfl) T.g_is_address_host T.F_is_address_host.kp T.b_is_address_host .nil pass0 (pa_cons (pv 0) pa_nil))) (pe_one (pe_m1 PySem.F.slot_str_endswith PySem.F.type_str_endswith mt_endswith (pv 0) (pe_op op_add_str pe_str (pv 1))))))))), ?_⟩
    unfold hostFits at q
    refine ⟨_, rfl, _, rfl, rfl, _, rfl, ?_⟩
    rw [dS]
    refine if2 (fun h1 => ?_) (fun h1 => ?_)
    · rw [h1] at q
      exact q H (Same.refl H)
    rw [h1, Bool.false_or] at q
    refine ⟨_, rfl, _, rfl, .inl ⟨h, rfl, hh, fun H1 s1 => ⟨_, rfl, _, rfl, ?_⟩⟩⟩
    refine if2 (fun h2 => ?_) (fun h2 => ?_)
    · rw [h2, Bool.true_and] at q
      rw [dot_S]
      refine ⟨_, rfl, ⟨_, rfl⟩, _, rfl, S [46], S d, rfl, rfl, szadd (by simp only [List.length_singleton]; omega), S h, S [46] ++ S d, rfl, rfl, ?_⟩
      rw [S_cat, endswith_S]
      exact q H1 s1
    · rw [h2, Bool.false_and] at q
      exact q H1 s1

/-! ### host_fits -/
def sp_host_fits (K : PySem.W.Frag) : Sp := fun vs H Q _ => ∃ h d : List Nat, vs = [vS h, vS d] ∧ isHost h = true ∧ isHost d = true ∧ ∀ H', Same H H' → Q (.bl (hostFits h d)) H'
theorem ok_host_fits (T : Txt K mg) : FnOk P w K mg base CX0 6 T.f_host_fits T.d_host_fits ["host", "domain"] (sp_host_fits K) := by
  refine T.F_host_fits.ok sc_host_fits (fun vs H Q E h => ?_) (fun cdv A outer s H vs Q E hr h => ?_)
  · obtain ⟨h, d, rfl, _⟩ := h
    rfl
  · obtain ⟨h, d, rfl, hh, hd, q⟩ := h
    refine ⟨_, (pss_cons (ps_expr (pe_call (ok_need_host T) (hr.mono (by decide)) (by rfl) T.g_need_host T.F_need_host.kp T.b_need_host .nil pass0 (pa_cons (pv 0) pa_nil)))
      (pss_cons (ps_expr (pe_call (ok_need_host T) (hr.mono (by decide)) (by rfl) T.g_need_host T.F_need_host.kp T.b_need_host .nil pass0 (pa_cons (pv 1) pa_nil)))
      (pss_one (ps_ret (pe_call (ok_s1_fits T) (hr.mono (by decide)) (by rfl) T.g_s1_fits T.F_s1_fits.kp T.b_s1_fits .nil pass0 (pa_cons (pv 0) (pa_cons (pv 1) pa_nil))))))), ?_⟩
    have lh := (isHost_len hh).1
    have ld := (isHost_len hd).1
    refine ⟨_, rfl, h, rfl, hh, fun H1 s1 => ?_⟩
    refine ⟨_, rfl, d, rfl, hd, fun H2 s2 => ?_⟩
    exact ⟨_, rfl, _, rfl, h, d, rfl, by omega, by omega, fun H3 s3 => q H3 (s1.trans (s2.trans s3))⟩

/-! ### _law_mixed -/
def sp__law_mixed (K : PySem.W.Frag) : Sp := fun vs H Q _ => ∃ c k : Int, vs = [.int c, .int k] ∧ 0 ≤ k ∧ k ≤ 1000000000000 ∧ ∀ H' i, Same H H' → Q (.int i) H'
theorem ok__law_mixed (T : Txt K mg) : FnOk P w K mg base CX0 1 T.f__law_mixed T.d__law_mixed ["_law_cell", "_law_k"] (sp__law_mixed K) := by
  refine T.F__law_mixed.ok sc__law_mixed (fun vs H Q E h => ?_) (fun cdv A outer s H vs Q E hr h => ?_)
  · obtain ⟨c, k, rfl, _⟩ := h
    rfl
  · obtain ⟨c, k, rfl, h0, h1, q⟩ := h
    refine ⟨_, (pss_cons (ps_set (i := 2) sc__law_mixed.nd rfl (.inl rfl) (pe_op op_add (pe_op op_add (pe_op op_modN (pe_callTy call_int1 (by rfl) T.n_int (by decide +kernel) (pa_cons (pv 0) pa_nil)) (pe_ix (kIxL (K := K) rfl) (pe_lst (pa_cons pe_int (pa_cons pe_int (pa_cons pe_int (pa_cons pe_int pa_nil))))) (pe_op op_modN (pe_callTy call_int1 (by rfl) T.n_int (by decide +kernel) (pa_cons (pv 1) pa_nil)) pe_int) (fun _ _ => rfl))) (pe_op op_mul pe_int (pv 1))) pe_int))
      (pss_one (ps_ret (pe_op op_modN (pe_callTy call_int1 (by rfl) T.n_int (by decide +kernel) (pa_cons (pe_op op_mul (pe_op op_modN (pe_callTy call_int1 (by rfl) T.n_int (by decide +kernel) (pa_cons (pe_op op_mul (pv 2) (pv 2)) pa_nil)) pe_int) pe_int) pa_nil)) pe_int)))), ?_⟩
    refine ⟨_, rfl, .inl ⟨c, rfl, ?_⟩⟩
    refine ⟨by show 4 ≤ sizeLine; decide, fun p hp => ?_⟩
    refine ⟨_, rfl, .inl ⟨k, rfl, k, 4, rfl, rfl, (by show (4 : Int) ≠ 0; decide), ?_⟩⟩
    have m0 : 0 ≤ k.fmod 4 := Int.fmod_nonneg_of_pos k (by decide)
    have m1 : k.fmod 4 < 4 := Int.fmod_lt_of_pos k (by decide)
    obtain ⟨v, hv, mv⟩ := at_some (xs := [V.int 1000000007, .int 998244353, .int 2147483629, .int 1000000009]) m0 m1
    obtain ⟨m, rfl, hm0, hm1⟩ : ∃ m : Int, v = .int m ∧ 0 < m ∧ m ≤ 2147483629 := by
      rcases List.mem_cons.mp mv with rfl | mv
      · exact ⟨_, rfl, by decide, by decide⟩
      rcases List.mem_cons.mp mv with rfl | mv
      · exact ⟨_, rfl, by decide, by decide⟩
      rcases List.mem_cons.mp mv with rfl | mv
      · exact ⟨_, rfl, by decide, by decide⟩
      rcases List.mem_cons.mp mv with rfl | mv
      · exact ⟨_, rfl, by decide, by decide⟩
      cases mv
    refine ⟨p, _, _, _, rfl, rfl, SqL.of upd_same, hv, c, m, rfl, rfl, by omega, ?_⟩
    have r0 : 0 ≤ c.fmod m := Int.fmod_nonneg_of_pos c hm0
    have r1 : c.fmod m < m := Int.fmod_lt_of_pos c hm0
    refine ⟨_, rfl, 7919, k, rfl, rfl, .inl ⟨by decide, by decide⟩, _, _, rfl, rfl, _, _, rfl, rfl, ?_⟩
    refine ⟨_, rfl, _, rfl, _, _, rfl, rfl, .inl ⟨by omega, by omega⟩, .inl ⟨_, rfl, _, 2147483647, rfl, rfl, (by show (2147483647 : Int) ≠ 0; decide), ?_⟩⟩
    refine ⟨_, 48271, rfl, rfl, .inr ⟨by decide, by decide⟩, .inl ⟨_, rfl, _, 2147483647, rfl, rfl, (by show (2147483647 : Int) ≠ 0; decide), ?_⟩⟩
    exact q _ _ (same_upd hp)

/-! ### _law_draw -/
def drK (l c t : Int) : List (Key × V) := [(.inr ("left" : Str), .int l), (.inr ("cell" : Str), .int c), (.inr ("turns" : Str), .int t)]
theorem get_left (l c t : Int) : valV (drK l c t) (.inr ("left" : Str)) = some (.int l) := valV_pos rfl
theorem lc_ne : ¬ (Sum.inr ("left" : Str) : Key) = .inr ("cell" : Str) := by decide +kernel
theorem lt_ne : ¬ (Sum.inr ("left" : Str) : Key) = .inr ("turns" : Str) := by decide +kernel
theorem ct_ne : ¬ (Sum.inr ("cell" : Str) : Key) = .inr ("turns" : Str) := by decide +kernel
theorem get_cell (l c t : Int) : valV (drK l c t) (.inr ("cell" : Str)) = some (.int c) := by
  unfold drK
  rw [valV_neg lc_ne, valV_pos rfl]
theorem get_turns (l c t : Int) : valV (drK l c t) (.inr ("turns" : Str)) = some (.int t) := by
  unfold drK
  rw [valV_neg lt_ne, valV_neg ct_ne, valV_pos rfl]
theorem put_map {kvs : List (Key × V)} {k : Key} {y : V} (v : V) (h : valV kvs k = some y) : putK kvs k v = kvs.map (fun kv => if kv.1 = k then (kv.1, v) else kv) := by
  unfold putK
  rw [valV_any, h]
  exact if_pos rfl
theorem put_left (l c t x : Int) : putK (drK l c t) (.inr ("left" : Str)) (.int x) = drK x c t := by
  have h1 : ¬ (Sum.inr ("cell" : Str) : Key) = .inr ("left" : Str) := fun z => lc_ne z.symm
  have h2 : ¬ (Sum.inr ("turns" : Str) : Key) = .inr ("left" : Str) := fun z => lt_ne z.symm
  rw [put_map _ (get_left l c t)]
  unfold drK
  rw [List.map_cons, List.map_cons, List.map_cons, if_pos rfl, if_neg h1, if_neg h2]
  rfl
theorem put_turns (l c t x : Int) : putK (drK l c t) (.inr ("turns" : Str)) (.int x) = drK l c x := by
  rw [put_map _ (get_turns l c t)]
  unfold drK
  rw [List.map_cons, List.map_cons, List.map_cons, if_neg lt_ne, if_neg ct_ne, if_pos rfl]
  rfl
theorem valV_out {k : Key} : ∀ {kvs : List (Key × V)}, k ∉ kvs.map (·.1) → valV kvs k = none
  | [], _ => rfl
  | p :: r, h => by
    rw [List.map_cons, List.mem_cons, not_or] at h
    rw [valV_neg fun z => h.1 z.symm]
    exact valV_out h.2
theorem merge_new : ∀ {kvs acc : List (Key × V)}, ((acc ++ kvs).map (·.1)).Nodup → mergeK acc kvs = acc ++ kvs
  | [], acc, _ => (List.append_nil acc).symm
  | p :: r, acc, h => by
    show mergeK (putK acc p.1 p.2) r = _
    have h1 : p.1 ∉ acc.map (·.1) := fun m => by
      rw [List.map_append, List.nodup_append] at h
      exact h.2.2 _ m _ (by simp) rfl
    rw [putK_new p.2 (valV_out h1)]
    have h2 : acc ++ p :: r = (acc ++ [p]) ++ r := by simp
    rw [h2] at h ⊢
    exact merge_new h
theorem Dr.mk {d : Addr} {n : Nat} {H : Hp} {l c t : Int} (h : H d = some (.dK (drK l c t))) (h0 : 0 ≤ t) (h1 : t ≤ n) : Dr d n H := ⟨l, c, t, h, h0, h1⟩
def sp__law_draw (K : PySem.W.Frag) : Sp := fun vs H Q _ => ∃ c k : Int, vs = [.int c, .int k] ∧ 0 ≤ k ∧ k ≤ 100 ∧ ∀ H' d, Same H H' → H d = none → Dr d 100000 H' → Q (.ref d) H'
theorem merge_dr (l c t : Int) : mergeK [] (drK l c t) = drK l c t := by
  refine merge_new (acc := []) ?_
  show ([Sum.inr ("left" : Str), .inr ("cell" : Str), .inr ("turns" : Str)] : List Key).Nodup
  decide +kernel
theorem ok__law_draw (T : Txt K mg) : FnOk P w K mg base CX0 1 T.f__law_draw T.d__law_draw ["_law_cell", "_law_k"] (sp__law_draw K) := by
  refine T.F__law_draw.ok sc__law_draw (fun vs H Q E h => ?_) (fun cdv A outer s H vs Q E hr h => ?_)
  · obtain ⟨c, k, rfl, _⟩ := h
    rfl
  · obtain ⟨c, k, rfl, h0, h1, q⟩ := h
    refine ⟨_, (pss_one (ps_ret (pe_disp (pps_cons pe_str (pe_ifExp (pt_cmpR op_ge (pv 0) (pe_op op_pow pe_int pe_int) (nomark _)) (pv 0) pe_int) (pps_cons pe_str (pv 0) (pps_cons pe_str (pe_op op_mul pe_int (pv 1)) pps_nil))) (by rfl) (by rfl) (fun z => by cases z) (by decide)))), ?_⟩
    refine fun p hp => ?_
    have fin : ∀ l : Int, Q (.ref p) (upd (upd H p (.dK [])) p (.dK (mergeK [] (drK l c (1000 * k))))) := fun l => by
      rw [merge_dr, upd_upd]
      exact q _ p (same_upd hp) hp (Dr.mk upd_same (by omega) (by omega))
    refine ⟨_, rfl, 10, 18, rfl, rfl, ⟨by decide, by decide, by decide⟩, c, _, rfl, rfl, _, rfl, ?_⟩
    refine if2 (fun _ => ?_) (fun _ => ?_)
    · exact ⟨_, rfl, _, rfl, _, rfl, 1000, k, rfl, rfl, .inl ⟨by decide, by decide⟩, upd_same, drK c c (1000 * k), rfl, (by show 3 ≤ 15; decide), fin c⟩
    · exact ⟨_, rfl, _, rfl, 1000, k, rfl, rfl, .inl ⟨by decide, by decide⟩, upd_same, drK 0 c (1000 * k), rfl, (by show 3 ≤ 15; decide), fin 0⟩

/-! ### _law_digit -/
theorem dgetD {H : Hp} {a : Addr} {kvs : List (Key × V)} {k : Key} {v : V} (e : H a = some (.dK kvs)) (g : valV kvs k = some v) : DGet H a (kV k) (some v) := g ▸ DGet.k e
theorem dr_len (l c t : Int) : (drK l c t).length < sizeLine := by show 3 < sizeLine; decide
theorem Sx.upd {d : Addr} {H H' : Hp} {o : HO} (e : Sx d H H') : Sx d H (upd H' d o) := fun b x n h => by
  rw [upd_ne n]
  exact e b x n h
def sp__law_digit (K : PySem.W.Frag) : Sp := fun vs H Q _ => ∃ (d : Addr) (n : Nat) (m : Int), vs = [.ref d, .int m] ∧ 0 < m ∧ m < 1000000000 ∧ n ≤ 100000000 ∧ Dr d n H ∧ ∀ H' i, Sx d H H' → Dr d (n + 4) H' → 0 ≤ i → i < m → Q (.int i) H'
theorem ok__law_digit (T : Txt K mg) : FnOk P w K mg base CX0 2 T.f__law_digit T.d__law_digit ["_law_draw_here", "_law_span"] (sp__law_digit K) := by
  refine T.F__law_digit.ok sc__law_digit (fun vs H Q E h => ?_) (fun cdv A outer s H vs Q E hr h => ?_)
  · obtain ⟨d, n, m, rfl, _⟩ := h
    rfl
  · obtain ⟨d, n, m, rfl, hm, hm2, hn, ⟨l0, c0, t0, hd0, ht0, ht1⟩, q⟩ := h
    have hd0 : H d = some (.dK (drK l0 c0 t0)) := hd0
    refine ⟨_, (C8.pss_cut (ps_if (pt_cmpR op_eq (pe_dget (hu_of hr) (pv 0) pe_str (fun _ _ => rfl)) pe_int (nomark _))
      (pss_one (ps_for PassesOwn.never rfl (pi_range1 (by rfl) T.n_range (pa_cons pe_int pa_nil)) (pg_name (i := 2) sc__law_digit.nd rfl (.inl rfl))
      (pss_cons (ps_dput (hu_of hr) (pv 0) pe_str (pe_op op_add (pe_dget (hu_of hr) (pv 0) pe_str (fun _ _ => rfl)) pe_int) rfl)
      (pss_one (ps_dput (hu_of hr) (pv 0) pe_str (pe_op op_add (pe_op op_mul (pe_dget (hu_of hr) (pv 0) pe_str (fun _ _ => rfl)) pe_int) (pe_call (ok__law_mixed T) (hr.mono (by decide)) (by rfl) T.g__law_mixed T.F__law_mixed.kp T.b__law_mixed .nil pass0 (pa_cons (pe_dget (hu_of hr) (pv 0) pe_str (fun _ _ => rfl)) (pa_cons (pe_dget (hu_of hr) (pv 0) pe_str (fun _ _ => rfl)) pa_nil)))) rfl)))))
      pss_nil)
      (pss_cons (ps_set (i := 3) sc__law_digit.nd rfl (.inl rfl) (pe_op op_modN (pe_callTy call_int1 (by rfl) T.n_int (by decide +kernel) (pa_cons (pe_dget (hu_of hr) (pv 0) pe_str (fun _ _ => rfl)) pa_nil)) (pv 1)))
      (pss_cons (ps_dput (hu_of hr) (pv 0) pe_str (pe_op op_fdivN (pe_callTy call_int1 (by rfl) T.n_int (by decide +kernel) (pa_cons (pe_dget (hu_of hr) (pv 0) pe_str (fun _ _ => rfl)) pa_nil)) (pv 1)) rfl)
      (pss_one (ps_ret (pv 3)))))), ?_⟩
    refine ⟨fun σ H' => ∃ y2 l t, σ = [some (.ref d), some (.int m), y2, none] ∧ Sx d H H' ∧ H' d = some (.dK (drK l c0 t)) ∧ 0 ≤ t ∧ t ≤ (n + 4 : Nat), ?_, ?_⟩
    · refine ⟨_, rfl, d, _, rfl, dgetD hd0 (get_left l0 c0 t0), rfl, _, rfl, ?_⟩
      refine if2 (fun _ => ?_) (fun _ => ?_)
      · refine ⟨4, rfl, by decide, by decide, for_range (lo := 0) (n := 4) (fun i σ H' => ∃ y2 l t, σ = [some (.ref d), some (.int m), y2, none] ∧ Sx d H H' ∧ H' d = some (.dK (drK l c0 t)) ∧ 0 ≤ t ∧ t ≤ (n + i : Nat)) ?_ ?_ ?_⟩
        · exact ⟨none, l0, t0, rfl, Sx.refl d H, hd0, ht0, by omega⟩
        · rintro i σ H1 hi ⟨y2, l, t, rfl, s1, hd1, h0, h1⟩
          -- turns + 1
          refine ⟨_, rfl, d, _, rfl, dgetD hd1 (get_turns l c0 t), _, _, rfl, rfl, _, rfl, d, _, rfl, DPut.k (k := .inr ("turns" : Str)) hd1 (dr_len _ _ _), ?_⟩
          rw [put_turns]
          have hd2 : upd H1 d (.dK (drK l c0 (t + 1))) d = some (.dK (drK l c0 (t + 1))) := upd_same
          refine ⟨_, rfl, d, _, rfl, dgetD hd2 (get_left _ _ _), _, _, rfl, rfl, .inr ⟨by decide, by decide⟩, ?_⟩
          refine ⟨_, rfl, d, _, rfl, dgetD hd2 (get_cell _ _ _), _, rfl, d, _, rfl, dgetD hd2 (get_turns _ _ _), c0, t + 1, rfl, by omega, by omega, fun H3 i3 s3 => ?_⟩
          have hd3 := s3 _ _ hd2
          refine ⟨_, _, rfl, rfl, _, rfl, d, _, rfl, DPut.k (k := .inr ("left" : Str)) hd3 (dr_len _ _ _), ?_⟩
          rw [put_left]
          exact ⟨_, _, t + 1, rfl, ((s1.upd).trans (Sx.of s3)).upd, upd_same, by omega, by omega⟩
        · rintro σ H1 ⟨y2, l, t, rfl, s1, hd1, h0, h1⟩
          exact ⟨y2, l, t, rfl, s1, hd1, h0, h1⟩
      · exact ⟨none, l0, t0, rfl, Sx.refl d H, hd0, ht0, by omega⟩
    · rintro σ H1 ⟨y2, l, t, rfl, s1, hd1, h0, h1⟩
      have r0 : 0 ≤ l.fmod m := Int.fmod_nonneg_of_pos l hm
      have r1 : l.fmod m < m := Int.fmod_lt_of_pos l hm
      refine ⟨_, rfl, d, _, rfl, dgetD hd1 (get_left _ _ _), .inl ⟨l, rfl, _, rfl, l, m, rfl, rfl, by omega, ?_⟩⟩
      refine ⟨_, rfl, d, _, rfl, dgetD hd1 (get_left _ _ _), .inl ⟨l, rfl, _, rfl, l, m, rfl, rfl, ⟨by omega, by omega⟩, ?_⟩⟩
      refine ⟨_, rfl, d, _, rfl, DPut.k (k := .inr ("left" : Str)) hd1 (dr_len _ _ _), ?_⟩
      rw [put_left]
      exact ⟨_, rfl, q _ _ s1.upd (Dr.mk upd_same h0 (by omega)) r0 r1⟩
/-- a written text at a drawn place -/
theorem pickS {ws : List Str} {ta : TA} {m : Int} {σ : L2.St} {H : Hp} {Q : VK} {d : Addr} {n i : Nat} (hv : ∀ (σ : L2.St) (H : Hp) (Q : List V → Hp → Prop), Q (ws.map V.str) H → ta σ H Q) (hl : (ws.length : Int) = m)
    (hi : σ[i]? = some (some (.ref d))) (h0 : 0 < m) (h1 : m ≤ 1000) (hn : n ≤ 100000000) (hD : Dr d n H) (q : ∀ H' x, Sx d H H' → Dr d (n + 4) H' → x ∈ ws → Q (.str x) H') :
    tOp (rIxL K) (tLst ta) (tCall (sp__law_digit K) [] E0 (tCons (tVar i) (tCons (tC (.int m)) tNil))) σ H Q := by
  have hs : (ws.map V.str).length = ws.length := by rw [List.length_map]
  refine hv σ H _ ⟨sz (by omega), fun p hp => ?_⟩
  refine ⟨_, hi, d, n, m, rfl, h0, by omega, hn, hD.same (same_upd hp), fun H' k s' D' k0 k1 => ?_⟩
  obtain ⟨v, hv, mv⟩ := at_some (xs := ws.map V.str) k0 (by rw [hs, hl]; exact k1)
  obtain ⟨x, mx, rfl⟩ := List.mem_map.mp mv
  have np : p ≠ d := hD.ne hp
  exact ⟨p, _, k, _, rfl, rfl, SqL.of (s' _ _ np upd_same), hv, q H' x ((Sx.of (same_upd hp)).trans s') D' mx⟩
/-- a comprehension over a range whose element draws -/
theorem lc_draws {lo : Int} {m n0 c : Nat} {P : List Nat → Prop} {j : Nat} {te : TE} {vs : List Nat} {σ : L2.St} {H1 : Hp} {d D : Addr} {Qd : Hp → Prop} (hD : H1 D = none) (hm : m ≤ 100000) (hd0 : Dr d n0 H1)
    (hw : ∀ x, wipe ((wipe σ vs).set j (some x)) vs = wipe σ vs)
    (hs : ∀ i H', i < m → Sx d H1 H' → Dr d (n0 + c * i) H' → ∀ Q : VK, (∀ H'' w, Sx d H' H'' → Dr d (n0 + c * (i + 1)) H'' → P w → Q (vS w) H'') → te ((wipe σ vs).set j (some (.int (lo + i)))) H' Q)
    (hd : ∀ (H' : Hp) (ws : List (List Nat)), Sx d H1 H' → Dr d (n0 + c * m) H' → H' D = some (.lst (ws.map vS)) → ws.length = m → (∀ w ∈ ws, P w) → Qd H') :
    ∃ W : Nat → Nat → Hp → Prop, (∃ m, W 0 m (upd H1 D (.lst []))) ∧ ∀ i k H, W i k H →
      ((Itr lo m).stop i H ∧ Qd H) ∨ ((Itr lo m).go i H ∧ ∃ Nx : Hp → Prop, (∀ H', Nx H' → ∃ m', m' < k ∧ W (i + 1) m' H') ∧ ∀ x H', (Itr lo m).yld i H x H' → gName j x (wipe σ vs) H' fun σ2 H2 => wipe σ2 vs = wipe σ vs ∧ tYes σ2 H2 fun b H3 =>
        if b = true then te σ2 H3 fun y H4 => ∃ acc, H4 D = some (.lst acc) ∧ acc.length < sizeLine ∧ Nx (upd H4 D (.lst (acc ++ [y]))) else Nx H3) := by
  have nDd : D ≠ d := hd0.ne hD
  refine lc_range (lo := lo) (n := m) (fun i H' => Sx d H1 H' ∧ Dr d (n0 + c * i) H' ∧ ∃ ws : List (List Nat), H' D = some (.lst (ws.map vS)) ∧ ws.length = i ∧ ∀ w ∈ ws, P w)
    ⟨Sx.of (same_upd hD), hd0.same (same_upd hD), [], by rw [upd_same]; rfl, rfl, fun _ h => nomatch h⟩ (fun i H' hi hP => ?_) (fun H' hP => ?_)
  · obtain ⟨s1, D1, ws, hL, hl, hp⟩ := hP
    refine ⟨hw _, ?_⟩
    refine hs i H' hi s1 D1 _ fun H'' w s2 D2 pw => ⟨_, s2 _ _ nDd hL, szlt (by rw [List.length_map]; omega), ?_, ?_, ws ++ [w], ?_, ?_, ?_⟩
    · intro b o nb e
      rw [upd_ne (ne_of_none e hD)]
      exact s2 _ _ nb (s1 _ _ nb e)
    · obtain ⟨x, y, z, e, e2⟩ := D2
      exact ⟨x, y, z, by rw [upd_ne (Ne.symm nDd)]; exact e, e2⟩
    · rw [upd_same, List.map_append]
      rfl
    · rw [List.length_append, hl]
      rfl
    · intro u hu
      rcases List.mem_append.mp hu with hu | hu
      · exact hp u hu
      · rcases List.mem_cons.mp hu with rfl | hu
        · exact pw
        · cases hu
  · obtain ⟨s1, D1, ws, hL, hl, hp⟩ := hP
    exact hd H' ws s1 D1 hL hl hp

/-! ### _law_host -/
/-- hosts put together of labels -/
theorem label_no_dot {w : List Nat} (h : isLabel w = true) : 46 ∉ w := fun m => by
  unfold isLabel at h
  rw [Bool.and_eq_true] at h
  have h1 := List.all_eq_true.mp h.2 46 m
  have h2 : labSign 46 = false := by decide +kernel
  rw [h2] at h1
  cases h1
theorem parts_join {c : Nat} {ws : List (List Nat)} (hne : ws ≠ []) (h : ∀ w ∈ ws, c ∉ w) : parts c (TL.joinL [c] ws) = ws := TL.spl_join hne h
theorem isHost_join {ws : List (List Nat)} (hne : ws ≠ []) (h1 : ws.length ≤ 10) (h2 : ws.all isLabel = true) (h3 : (TL.joinL [46] ws).length ≤ 100)
    (h4 : isNum (ws.getLast hne) = false ∨ (ws.length = 4 ∧ ws.all isSmall = true)) : isHost (TL.joinL [46] ws) = true := by
  have e : parts 46 (TL.joinL [46] ws) = ws := parts_join hne fun w hw => label_no_dot (List.all_eq_true.mp h2 w hw)
  unfold isHost isAddr
  have e2 : (parts 46 (TL.joinL [46] ws)).getLast (parts_ne 46 _) = ws.getLast hne := by
    simp only [e]
  rw [decide_eq_true h3, e2, e, decide_eq_true h1, h2]
  rcases h4 with h4 | ⟨h4, h5⟩
  · rw [h4]
    rfl
  · rw [decide_eq_true h4, h5]
    simp
theorem joinL_len (c : Nat) : ∀ ws : List (List Nat), (TL.joinL [c] ws).length ≤ (ws.map (·.length)).sum + ws.length
  | [] => by simp [TL.joinL]
  | [x] => by simp [TL.joinL]
  | x :: y :: r => by
    have ih := joinL_len c (y :: r)
    show (x ++ ([c] ++ TL.joinL [c] (y :: r))).length ≤ (x.length :: (y :: r).map (·.length)).sum + ((y :: r).length + 1)
    rw [List.length_append, List.length_append, List.sum_cons, List.length_singleton]
    omega
theorem sum_bound {k : Nat} : ∀ {ws : List (List Nat)}, (∀ w ∈ ws, w.length ≤ k) → (ws.map (·.length)).sum ≤ k * ws.length
  | [], _ => by simp
  | w :: r, h => by
    have ih := sum_bound (k := k) (ws := r) fun x hx => h x (List.mem_cons_of_mem _ hx)
    have := h w List.mem_cons_self
    rw [List.map_cons, List.sum_cons, List.length_cons, Nat.mul_succ]
    omega
def lab (k : Nat) (w : List Nat) : Bool := isLabel w && !isNum w && decide (w.length ≤ k)
theorem lab_of {k : Nat} {w : List Nat} (h : lab k w = true) : isLabel w = true ∧ isNum w = false ∧ w.length ≤ k := by
  unfold lab at h
  rw [Bool.and_eq_true, Bool.and_eq_true, Bool.not_eq_true', decide_eq_true_eq] at h
  exact ⟨h.1.1, h.1.2, h.2⟩
theorem lab_to {k : Nat} {w : List Nat} (h1 : isLabel w = true) (h2 : isNum w = false) (h3 : w.length ≤ k) : lab k w = true := by
  unfold lab
  rw [h1, h2, decide_eq_true h3]
  rfl
theorem menu6 : ∀ x ∈ (["a", "b", "ab", "b0", "x-y", "9a"] : List Str), lab 3 x.cps.toList = true := by decide +kernel
/-- one to n labels of at most k signs -/
structure Labs (k : Nat) (ws : List (List Nat)) (n : Nat) : Prop where
  ne : ws ≠ []
  len : ws.length ≤ n
  all : ∀ w ∈ ws, lab k w = true
theorem Labs.join_len {k : Nat} {ws : List (List Nat)} {n : Nat} (h : Labs k ws n) : (TL.joinL [46] ws).length ≤ (k + 1) * n := by
  have h1 := joinL_len 46 ws
  have h2 := sum_bound (k := k) (ws := ws) fun w hw => (lab_of (h.all w hw)).2.2
  have h3 := h.len
  have h4 : (k + 1) * ws.length ≤ (k + 1) * n := Nat.mul_le_mul_left _ h3
  rw [Nat.succ_mul] at h4
  omega
theorem Labs.host {k : Nat} {ws : List (List Nat)} {n : Nat} (h : Labs k ws n) (hn : n ≤ 10) (hk : (k + 1) * n ≤ 100) : isHost (TL.joinL [46] ws) = true :=
  isHost_join h.ne (Nat.le_trans h.len hn) (List.all_eq_true.mpr fun w hw => (lab_of (h.all w hw)).1) (Nat.le_trans h.join_len hk) (.inl (lab_of (h.all _ (List.getLast_mem h.ne))).2.1)
theorem Labs.app {k : Nat} {ws vs : List (List Nat)} {n m : Nat} (h : Labs k ws n) (g : Labs k vs m) : Labs k (ws ++ vs) (n + m) :=
  ⟨by simp [h.ne], by rw [List.length_append]; have := h.len; have := g.len; omega, fun w hw => (List.mem_append.mp hw).elim (h.all w) (g.all w)⟩
def sp__law_host (K : PySem.W.Frag) : Sp := fun vs H Q _ => ∃ (d : Addr) (n : Nat), vs = [.ref d] ∧ n ≤ 90000000 ∧ Dr d n H ∧ ∀ (H' : Hp) (ws : List (List Nat)), Sx d H H' → Dr d (n + 20) H' → Labs 3 ws 4 → Q (vS (TL.joinL [46] ws)) H'
theorem ok__law_host (T : Txt K mg) : FnOk P w K mg base CX0 3 T.f__law_host T.d__law_host ["_law_draw_here"] (sp__law_host K) := by
  refine T.F__law_host.ok sc__law_host (fun vs H Q E h => ?_) (fun cdv A outer s H vs Q E hr h => ?_)
  · obtain ⟨d, n, rfl, _⟩ := h
    rfl
  · obtain ⟨d, n, rfl, hn, hD, q⟩ := h
    refine ⟨_, (pss_cons (ps_setLc (i := 1) (own := [("_law_j", 2)]) (g := gName 2) (tt := tYes) (by rfl) sc__law_host.nd rfl rfl (sw_true rfl rfl rfl (by decide +kernel)) (pi_range1 (by rfl) T.n_range (pa_cons (pe_op op_add pe_int (pe_call (ok__law_digit T) (hr.mono (by decide)) (by rfl) T.g__law_digit T.F__law_digit.kp T.b__law_digit .nil pass0 (pa_cons (pv 0) (pa_cons pe_int pa_nil)))) pa_nil)) (blkOk_by (own := [("_law_j", 2)]) (N := N__law_host) (sc := defScope S__law_host) (by decide +kernel)) (fun _ _ _ _ _ => (pg_name (i := 2) sc__law_host.nd rfl (.inl rfl))) (fun _ _ _ _ _ => pts_nil) (fun _ _ _ _ _ => (pe_ix (kIxL (K := K) rfl) (pe_lst (pa_cons pe_str (pa_cons pe_str (pa_cons pe_str (pa_cons pe_str (pa_cons pe_str (pa_cons pe_str pa_nil))))))) (pe_call (ok__law_digit T) (hr.mono (by decide)) (by rfl) T.g__law_digit T.F__law_digit.kp T.b__law_digit .nil pass0 (pa_cons (pv 0) (pa_cons pe_int pa_nil))) (fun _ _ => rfl))))
      (pss_one (ps_ret (pe_m1 PySem.F.slot_str_join PySem.F.type_str_join (kJoin (K := K) rfl) pe_str (pv 1))))), ?_⟩
    refine ⟨_, rfl, d, n, 4, rfl, by decide, by decide, by omega, hD, fun H1 k s1 D1 k0 k1 => ?_⟩
    refine ⟨1, k, rfl, rfl, 1 + k, rfl, by omega, by omega, fun D nD => ?_⟩
    refine lc_draws (lo := 0) (m := (1 + k).toNat) (n0 := n + 4) (c := 4) (P := fun w => lab 3 w = true) nD (by omega) D1 (fun _ => rfl) (fun i H' hi s' D' Q' q' => ?_) (fun H2 ws s2 D2 hL hl hp => ?_)
    · refine pickS (ws := ["a", "b", "ab", "b0", "x-y", "9a"]) (fun _ _ _ q => q) rfl rfl (by decide) (by decide) (by omega) D' (fun H3 x s3 D3 hx => ?_)
      rw [← SX.S_tl x]
      exact q' H3 _ s3 (D3.mono (by omega)) (menu6 x hx)
    · have L : Labs 3 ws 4 := ⟨fun z => by rw [z] at hl; simp at hl; omega, by omega, hp⟩
      have := L.join_len
      rw [dot_S]
      refine ⟨⟨_, rfl⟩, _, rfl, S [46], D, ws.map S, rfl, rfl, .inl (SqL.of ?_), size_join (by omega), ?_⟩
      · rw [hL, List.map_map]
        rfl
      rw [join_S]
      exact q H2 ws (s1.trans s2) (D2.mono (by omega)) L

/-! ### _law_pair -/
theorem nums_ok : ∀ n < 256, (isSmall (TL.numL n) && isLabel (TL.numL n) && decide ((TL.numL n).length ≤ 3)) = true := by decide +kernel
theorem num_ok {w : List Nat} (h : ∃ n, n < 256 ∧ w = TL.numL n) : isSmall w = true ∧ isLabel w = true ∧ w.length ≤ 3 := by
  obtain ⟨n, hn, rfl⟩ := h
  have := nums_ok n hn
  rw [Bool.and_eq_true, Bool.and_eq_true, decide_eq_true_eq] at this
  exact ⟨this.1.1, this.1.2, this.2⟩
theorem addr_host {ws : List (List Nat)} (hl : ws.length = 4) (h : ∀ w ∈ ws, ∃ n, n < 256 ∧ w = TL.numL n) : isHost (TL.joinL [46] ws) = true := by
  have hne : ws ≠ [] := fun z => by rw [z] at hl; cases hl
  refine isHost_join hne (by omega) (List.all_eq_true.mpr fun w hw => (num_ok (h w hw)).2.1) ?_ (.inr ⟨hl, List.all_eq_true.mpr fun w hw => (num_ok (h w hw)).1⟩)
  have h1 := joinL_len 46 ws
  have h2 := sum_bound (k := 3) (ws := ws) fun w hw => (num_ok (h w hw)).2.2
  omega
theorem q_label {w : List Nat} (h : lab 3 w = true) : lab 4 (113 :: w) = true := by
  obtain ⟨h1, h2, h3⟩ := lab_of h
  unfold isLabel at h1
  rw [Bool.and_eq_true, Bool.and_eq_true, Bool.and_eq_true, decide_eq_true_eq, Bool.not_eq_true', Bool.not_eq_true', decide_eq_false_iff_not, decide_eq_false_iff_not] at h1
  obtain ⟨⟨⟨⟨a1, a2⟩, a3⟩, a4⟩, a5⟩ := h1
  have b1 : (113 :: w).getLast? = w.getLast? := by
    cases w with
    | nil => simp at a1
    | cons c r => rfl
  have b2 : labSign 113 = true := by decide +kernel
  have b3 : digSign 113 = false := by decide +kernel
  refine lab_to ?_ ?_ ?_
  · unfold isLabel
    rw [b1, List.all_cons, b2, a5, decide_eq_false a4, decide_eq_true ⟨by simp, by simp; omega⟩]
    rfl
  · unfold isNum
    rw [List.all_cons, b3, Bool.false_and, Bool.and_false]
  · rw [List.length_cons]
    omega
theorem q_host {ws : List (List Nat)} (h : Labs 3 ws 4) : isHost ([113] ++ TL.joinL [46] ws) = true := by
  obtain ⟨w, r, rfl⟩ : ∃ w r, ws = w :: r := by
    cases ws with
    | nil => exact absurd rfl h.ne
    | cons w r => exact ⟨w, r, rfl⟩
  have e : [113] ++ TL.joinL [46] (w :: r) = TL.joinL [46] ((113 :: w) :: r) := by
    cases r with
    | nil => rfl
    | cons x r => rfl
  rw [e]
  refine Labs.host (k := 4) (n := 4) ⟨List.cons_ne_nil _ _, h.len, fun u hu => ?_⟩ (by decide) (by decide)
  rcases List.mem_cons.mp hu with rfl | hu
  · exact q_label (h.all w List.mem_cons_self)
  · obtain ⟨a, b, c⟩ := lab_of (h.all u (List.mem_cons_of_mem _ hu))
    exact lab_to a b (by omega)
def sp__law_pair (K : PySem.W.Frag) : Sp := fun vs H Q _ => ∃ (d : Addr) (n : Nat), vs = [.ref d] ∧ n ≤ 80000000 ∧ Dr d n H ∧ ∀ (H' : Hp) (p : Addr) (a b : List Nat), Sx d H H' → Dr d (n + 200) H' → H' p = some (.tup [vS a, vS b]) → isHost a = true → isHost b = true → Q (.ref p) H'
theorem ok__law_pair (T : Txt K mg) : FnOk P w K mg base CX0 4 T.f__law_pair T.d__law_pair ["_law_draw_here"] (sp__law_pair K) := by
  refine T.F__law_pair.ok sc__law_pair (fun vs H Q E h => ?_) (fun cdv A outer s H vs Q E hr h => ?_)
  · obtain ⟨d, n, rfl, _⟩ := h
    rfl
  · obtain ⟨d, n, rfl, hn, hD, q⟩ := h
    refine ⟨_, (pss_cons (ps_set (i := 1) sc__law_pair.nd rfl (.inl rfl) (pe_call (ok__law_host T) (hr.mono (by decide)) (by rfl) T.g__law_host T.F__law_host.kp T.b__law_host .nil pass0 (pa_cons (pv 0) pa_nil)))
      (pss_cons (ps_set (i := 2) sc__law_pair.nd rfl (.inl rfl) (pe_call (ok__law_digit T) (hr.mono (by decide)) (by rfl) T.g__law_digit T.F__law_digit.kp T.b__law_digit .nil pass0 (pa_cons (pv 0) (pa_cons pe_int pa_nil))))
      (pss_cons (ps_if (pt_cmpR op_lt (pv 2) pe_int (nomark _))
      (pss_one (ps_ret (pe_tup (pa_cons (pe_op op_add_str (pe_op op_add_str (pe_call (ok__law_host T) (hr.mono (by decide)) (by rfl) T.g__law_host T.F__law_host.kp T.b__law_host .nil pass0 (pa_cons (pv 0) pa_nil)) pe_str) (pv 1)) (pa_cons (pv 1) pa_nil)))))
      pss_nil)
      (pss_cons (ps_if (pt_cmpR op_eq (pv 2) pe_int (nomark _))
      (pss_one (ps_ret (pe_tup (pa_cons (pe_op op_add_str pe_str (pv 1)) (pa_cons (pv 1) pa_nil)))))
      pss_nil)
      (pss_cons (ps_if (pt_cmpR op_eq (pv 2) pe_int (nomark _))
      (pss_one (ps_ret (pe_tup (pa_cons (pv 1) (pa_cons (pe_op op_add_str (pe_op op_add_str (pe_call (ok__law_host T) (hr.mono (by decide)) (by rfl) T.g__law_host T.F__law_host.kp T.b__law_host .nil pass0 (pa_cons (pv 0) pa_nil)) pe_str) (pv 1)) pa_nil)))))
      pss_nil)
      (pss_cons (ps_setLc (i := 3) (own := [("_law_j", 4)]) (g := gName 4) (tt := tYes) (by rfl) sc__law_pair.nd rfl rfl (sw_true rfl rfl rfl (by decide +kernel)) (pi_range1 (by rfl) T.n_range (pa_cons pe_int pa_nil)) (blkOk_by (own := [("_law_j", 4)]) (N := N__law_pair) (sc := defScope S__law_pair) (by decide +kernel)) (fun _ _ _ _ _ => (pg_name (i := 4) sc__law_pair.nd rfl (.inl rfl))) (fun _ _ _ _ _ => pts_nil) (fun _ _ _ _ _ => (pe_callTy call_str_int (by rfl) T.n_str (by decide +kernel) (pa_cons (pe_call (ok__law_digit T) (hr.mono (by decide)) (by rfl) T.g__law_digit T.F__law_digit.kp T.b__law_digit .nil pass0 (pa_cons (pv 0) (pa_cons pe_int pa_nil))) pa_nil))))
      (pss_cons (ps_if (pt_cmpR op_eq (pv 2) pe_int (nomark _))
      (pss_one (ps_ret (pe_tup (pa_cons (pe_m1 PySem.F.slot_str_join PySem.F.type_str_join (kJoin (K := K) rfl) pe_str (pv 3)) (pa_cons (pe_m1 PySem.F.slot_str_join PySem.F.type_str_join (kJoin (K := K) rfl) pe_str (pv 3)) pa_nil)))))
      pss_nil)
      (pss_cons (ps_if (pt_cmpR op_eq (pv 2) pe_int (nomark _))
      (pss_one (ps_ret (pe_tup (pa_cons (pe_m1 PySem.F.slot_str_join PySem.F.type_str_join (kJoin (K := K) rfl) pe_str (pv 3)) (pa_cons (pe_m1 PySem.F.slot_str_join PySem.F.type_str_join (kJoin (K := K) rfl) pe_str (pe_op op_cat (pe_slice (kSlL (K := K) rfl) (pv 3) po_none (po_some pe_int)) (pe_lst (pa_cons pe_str pa_nil)))) pa_nil)))))
      pss_nil)
      (pss_one (ps_ret (pe_tup (pa_cons (pv 1) (pa_cons (pe_call (ok__law_host T) (hr.mono (by decide)) (by rfl) T.g__law_host T.F__law_host.kp T.b__law_host .nil pass0 (pa_cons (pv 0) pa_nil)) pa_nil))))))))))))), ?_⟩
    refine ⟨_, rfl, d, n, rfl, by omega, hD, fun H1 a s1 D1 ha => ?_⟩
    have hah := ha.host (by decide) (by decide)
    have la := ha.join_len
    refine ⟨_, rfl, d, _, 7, rfl, by decide, by decide, by omega, D1, fun H2 i s2 D2 i0 i1 => ?_⟩
    have s12 := s1.trans s2
    have fin : ∀ (H' : Hp) (x y : List Nat), Sx d H H' → Dr d (n + 180) H' → isHost x = true → isHost y = true → ([vS x, vS y] : List V).length ≤ sizeLine ∧ ∀ p, H' p = none → Q (.ref p) (upd H' p (.tup [vS x, vS y])) := fun H' x y s' D' hx hy =>
      ⟨by show 2 ≤ sizeLine; decide, fun p hp => q _ p x y (s'.trans (Sx.of (same_upd hp))) ((D'.same (same_upd hp)).mono (by omega)) upd_same hx hy⟩
    -- host(draw) + "." + domain
    have glue : ∀ b : List (List Nat), Labs 3 b 4 → (S (TL.joinL [46] b)).length + (S [46]).length ≤ sizeLine ∧ (S (TL.joinL [46] b) ++ S [46]).length + (S (TL.joinL [46] a)).length ≤ sizeLine ∧ S (TL.joinL [46] b) ++ S [46] ++ S (TL.joinL [46] a) = S (TL.joinL [46] (b ++ a)) := fun b hb => by
      have lb := hb.join_len
      refine ⟨szadd (by simp only [List.length_singleton]; omega), ?_, ?_⟩
      · rw [S_cat]
        exact szadd (by simp only [List.length_append, List.length_singleton]; omega)
      · rw [S_cat, S_cat, join_app 46 hb.ne ha.ne, List.append_assoc]
        rfl
    refine ⟨_, rfl, _, _, rfl, rfl, _, rfl, ?_⟩
    refine if2 (fun _ => ?_) (fun _ => ?_)
    · rw [dot_S]
      refine ⟨_, rfl, d, _, rfl, by omega, D2, fun H3 b s3 D3 hb => ?_⟩
      obtain ⟨g1, g2, g3⟩ := glue b hb
      refine ⟨_, _, rfl, rfl, g1, _, rfl, _, _, rfl, rfl, g2, ?_⟩
      rw [g3]
      exact ⟨_, rfl, fin H3 _ _ (s12.trans s3) (D3.mono (by omega)) ((hb.app ha).host (by decide) (by decide)) hah⟩
    refine ⟨_, rfl, rfl, _, rfl, ?_⟩
    refine if2 (fun _ => ?_) (fun _ => ?_)
    · have eq : ("q" : Str) = S [113] := by decide +kernel
      rw [eq]
      refine ⟨_, rfl, _, _, rfl, rfl, szadd (by simp only [List.length_singleton]; omega), ?_⟩
      rw [S_cat]
      refine ⟨_, rfl, fin H2 _ _ s12 (D2.mono (by omega)) ?_ hah⟩
      exact q_host ha
    refine ⟨_, rfl, rfl, _, rfl, ?_⟩
    refine if2 (fun _ => ?_) (fun _ => ?_)
    · rw [dot_S]
      refine ⟨_, rfl, _, rfl, d, _, rfl, by omega, D2, fun H3 b s3 D3 hb => ?_⟩
      obtain ⟨g1, g2, g3⟩ := glue b hb
      refine ⟨_, _, rfl, rfl, g1, _, rfl, _, _, rfl, rfl, g2, ?_⟩
      rw [g3]
      exact fin H3 _ _ (s12.trans s3) (D3.mono (by omega)) hah ((hb.app ha).host (by decide) (by decide))
    -- four numbers
    refine ⟨4, rfl, by decide, by decide, fun D nD => ?_⟩
    refine lc_draws (lo := 0) (m := 4) (n0 := n + 24) (c := 4) (P := fun w => ∃ n, n < 256 ∧ w = TL.numL n) nD (by decide) (D2.mono (by omega)) (fun _ => rfl) (fun i H' hi s' D' Q' q' => ?_) (fun H3 ws s3 D3 hL hl hp => ?_)
    · refine ⟨_, rfl, d, _, 256, rfl, by decide, by decide, by omega, D', fun H3 k s3 D3 k0 k1 => ?_⟩
      refine ⟨k, rfl, ?_, ?_⟩
      · have : k.natAbs < 256 := by omega
        exact Nat.lt_of_le_of_lt (Nat.log2_le_self _) (by omega)
      · obtain ⟨z, rfl⟩ : ∃ z : Nat, k = (z : Int) := ⟨k.toNat, by omega⟩
        rw [SX.num_S]
        exact q' H3 _ s3 (D3.mono (by omega)) ⟨z, by omega, rfl⟩
    have s13 := s12.trans s3
    have hLS : H3 D = some (.lst ((ws.map S).map V.str)) := by
      rw [hL, List.map_map]
      rfl
    have hA := addr_host hl hp
    have lA := (isHost_len hA).1
    have ez : ("0" : Str) = S (TL.numL 0) := by decide +kernel
    rw [dot_S]
    refine ⟨_, rfl, rfl, _, rfl, ?_⟩
    refine if2 (fun _ => ?_) (fun _ => ?_)
    · refine ⟨⟨_, rfl⟩, _, rfl, S [46], D, ws.map S, rfl, rfl, .inl (SqL.of hLS), size_join (by omega), ?_⟩
      rw [join_S]
      refine ⟨⟨_, rfl⟩, _, rfl, S [46], D, ws.map S, rfl, rfl, .inl (SqL.of hLS), size_join (by omega), ?_⟩
      rw [join_S]
      exact fin H3 _ _ s13 (D3.mono (by omega)) hA hA
    refine ⟨_, rfl, rfl, _, rfl, ?_⟩
    refine if2 (fun _ => ?_) (fun _ => ?_)
    · refine ⟨⟨_, rfl⟩, _, rfl, S [46], D, ws.map S, rfl, rfl, .inl (SqL.of hLS), size_join (by omega), ?_⟩
      rw [join_S, ez]
      have hl3 : (ws.take 3 ++ [TL.numL 0]).length = 4 := by
        rw [List.length_append, List.length_take, hl]
        rfl
      have hB := addr_host (ws := ws.take 3 ++ [TL.numL 0]) hl3 (fun w hw => by
        rcases List.mem_append.mp hw with hw | hw
        · exact hp w (List.mem_of_mem_take hw)
        · rcases List.mem_cons.mp hw with rfl | hw
          · exact ⟨0, by decide, rfl⟩
          · cases hw)
      have lB := (isHost_len hB).1
      refine ⟨⟨_, rfl⟩, _, rfl, 3, rfl, D, _, rfl, SqL.of hL, fun u nu => ?_⟩
      rw [cutV_map, show (3 : Int) = ((3 : Nat) : Int) from rfl, cut_to]
      refine ⟨by show 1 ≤ sizeLine; decide, fun v nv => ?_⟩
      have nuv : u ≠ v := fun z => by rw [← z, upd_same] at nv; cases nv
      refine ⟨u, v, _, _, rfl, rfl, by rw [upd_ne nuv]; exact upd_same, upd_same, sz (by rw [List.length_map, List.length_take]; simp; omega), fun t nt => ?_⟩
      refine ⟨S [46], t, (ws.take 3 ++ [TL.numL 0]).map S, rfl, rfl, .inl (SqL.of ?_), size_join (by omega), ?_⟩
      · rw [upd_same, List.map_map, List.map_append]
        rfl
      rw [join_S]
      exact fin _ _ _ (s13.trans (Sx.of ((same_upd nu).trans ((same_upd nv).trans (same_upd nt))))) ((D3.same ((same_upd nu).trans ((same_upd nv).trans (same_upd nt)))).mono (by omega)) hA hB
    exact ⟨_, rfl, _, rfl, d, _, rfl, by omega, D3, fun H4 b s4 D4 hb => fin H4 _ _ (s13.trans s4) (D4.mono (by omega)) hah (hb.host (by decide) (by decide))⟩

/-! ### _law_due -/
theorem isDigit_ascii : ∀ c < 128, Unicode.isDigit c = digSign c := by decide +kernel
theorem isdigit_S {w : List Nat} (h : Asc w) : Txt.isdigit (S w) = isNum w := by
  have e1 : Txt.isdigit (S w) = (decide ((S w).length > 0) && (S w).cps.all Unicode.isDigit) := rfl
  have e2 : (S w).cps.all Unicode.isDigit = w.all digSign := by
    show w.toArray.all Unicode.isDigit = _
    rw [← Array.all_toList]
    show w.all Unicode.isDigit = _
    apply Bool.eq_iff_iff.mpr
    rw [List.all_eq_true, List.all_eq_true]
    exact ⟨fun k c hc => by rw [← isDigit_ascii c (h c hc)]; exact k c hc, fun k c hc => by rw [isDigit_ascii c (h c hc)]; exact k c hc⟩
  rw [e1, e2, S_len]
  unfold isNum
  cases w with
  | nil => rfl
  | cons c r =>
    rw [decide_eq_true (by simp), decide_eq_false (List.cons_ne_nil c r)]
    rfl
theorem label_asc {w : List Nat} (h : isLabel w = true) : Asc w := fun c hc => by
  unfold isLabel at h
  rw [Bool.and_eq_true] at h
  have h1 := List.all_eq_true.mp h.2 c hc
  have h2 : ∀ c ∈ cs_LABEL_SIGNS.cps.toList, c < 128 := by decide +kernel
  exact h2 c (of_decide_eq_true h1)
theorem host_asc {l : List Nat} (h : isHost l = true) : ∀ w ∈ parts 46 l, Asc w := fun w hw => label_asc (List.all_eq_true.mp (isHost_len h).2.2.1 w hw)
def lawDue (p o : List Nat) : Bool :=
  if isNum ((parts 46 p).getLast (parts_ne 46 p)) = true then decide (parts 46 p = parts 46 o)
  else decide ((parts 46 p).length ≥ (parts 46 o).length) && decide ((parts 46 p).drop ((parts 46 p).length - (parts 46 o).length) = parts 46 o)
def sp__law_due (K : PySem.W.Frag) : Sp := fun vs H Q _ => ∃ p o : List Nat, vs = [vS p, vS o] ∧ isHost p = true ∧ isHost o = true ∧ ∀ H', Same H H' → Q (.bl (lawDue p o)) H'
theorem ok__law_due (T : Txt K mg) : FnOk P w K mg base CX0 1 T.f__law_due T.d__law_due ["_law_host_here", "_law_domain"] (sp__law_due K) := by
  refine T.F__law_due.ok sc__law_due (fun vs H Q E h => ?_) (fun cdv A outer s H vs Q E hr h => ?_)
  · obtain ⟨p, o, rfl, _⟩ := h
    rfl
  · obtain ⟨p, o, rfl, hp, ho, q⟩ := h
    have lp := (isHost_len hp).1
    have lo := (isHost_len ho).1
    have ap := host_asc hp
    have ao := host_asc ho
    refine ⟨_, (pss_cons (ps_par (by rfl) sc__law_due.nd (i := 2) (j := 3) rfl rfl (by decide) rfl rfl (pa_cons (pe_split (pv 0) pe_str) (pa_cons (pe_split (pv 1) pe_str) pa_nil)) (by rfl))
      (pss_cons (ps_if (pt_val (pe_m0 PySem.F.slot_str_isdigit PySem.F.type_str_isdigit mt_isdigit (pe_ix (kIxL (K := K) rfl) (pv 2) (pe_un un_neg pe_int) (fun _ _ => rfl))))
      (pss_one (ps_ret (pe_cmpR (kEq (K := K) rfl hr.units) (pv 2) (pv 3) (nomark _))))
      pss_nil)
      (pss_one (ps_ret (pe_and (pe_cmpR op_ge (pe_callB (kLen (K := K) rfl) (by rfl) T.n_len (by decide +kernel) (pa_cons (pv 2) pa_nil)) (pe_callB (kLen (K := K) rfl) (by rfl) T.n_len (by decide +kernel) (pa_cons (pv 3) pa_nil)) (nomark _)) (pe_one (pe_cmpR (kEq (K := K) rfl hr.units) (pe_slice (kSlL (K := K) rfl) (pv 2) (po_some (pe_op op_sub (pe_callB (kLen (K := K) rfl) (by rfl) T.n_len (by decide +kernel) (pa_cons (pv 2) pa_nil)) (pe_callB (kLen (K := K) rfl) (by rfl) T.n_len (by decide +kernel) (pa_cons (pv 3) pa_nil)))) po_none) (pv 3) (nomark _)))))))), ?_⟩
    rw [dot_S]
    refine ⟨_, rfl, ⟨_, rfl⟩, S p, S [46], rfl, rfl, rfl, by rw [S_len]; exact sz (by omega), fun a na => ?_⟩
    rw [split_S (by decide)]
    refine ⟨_, rfl, ⟨_, rfl⟩, S o, S [46], rfl, rfl, rfl, by rw [S_len]; exact sz (by omega), fun b nb => ?_⟩
    rw [split_S (by decide)]
    generalize hHb : upd (upd H a (.lst ((parts 46 p).map vS))) b (.lst ((parts 46 o).map vS)) = Hb
    have sb : Same H Hb := by rw [← hHb]; exact (same_upd na).trans (same_upd nb)
    have eb : Hb b = some (.lst ((parts 46 o).map vS)) := by rw [← hHb]; exact upd_same
    have nab : a ≠ b := fun z => by rw [← z, upd_same] at nb; cases nb
    have ea : Hb a = some (.lst ((parts 46 p).map vS)) := by rw [← hHb, upd_ne nab]; exact upd_same
    have hg : ((parts 46 p).map vS).getLast? = some (vS ((parts 46 p).getLast (parts_ne 46 p))) := by
      rw [List.getLast?_map, List.getLast?_eq_some_getLast (parts_ne 46 p)]
      rfl
    refine ⟨_, _, rfl, ?_⟩
    refine ⟨_, rfl, 1, rfl, a, _, _, _, rfl, rfl, SqL.of ea, atI_neg1 hg, ⟨_, rfl⟩, _, rfl, rfl, trivial, _, rfl, ?_⟩
    rw [isdigit_S (ap _ (List.getLast_mem (parts_ne 46 p)))]
    refine if2 (fun h1 => ?_) (fun h1 => ?_)
    · refine ⟨_, rfl, _, rfl, dL (parts 46 p), dL (parts 46 o), dp_L (SqL.of ea), dp_L (SqL.of eb), shaped_L ap, shaped_L ao, ?_⟩
      rw [eqv_L]
      refine qb ?_ (q _ sb)
      unfold lawDue
      rw [if_pos h1]
    · have n1 : ¬ isNum ((parts 46 p).getLast (parts_ne 46 p)) = true := by rw [h1]; exact Bool.false_ne_true
      refine ⟨_, rfl, a, _, rfl, .inl (SqL.of ea), _, rfl, b, _, rfl, .inl (SqL.of eb), _, _, rfl, rfl, _, rfl, ?_⟩
      rw [List.length_map, List.length_map]
      refine if2 (fun h3 => ?_) (fun h3 => ?_)
      · have e3 : (parts 46 p).length ≥ (parts 46 o).length := by simpa using h3
        refine ⟨_, rfl, _, rfl, a, _, rfl, .inl (SqL.of ea), _, rfl, b, _, rfl, .inl (SqL.of eb), _, _, rfl, rfl, _, rfl, a, _, rfl, SqL.of ea, fun u nu => ?_⟩
        rw [List.length_map, List.length_map]
        have ei : ((parts 46 p).length : Int) - ((parts 46 o).length : Int) = (((parts 46 p).length - (parts 46 o).length : Nat) : Int) := by omega
        rw [ei, cutV_map, cut_from]
        refine ⟨_, rfl, dL ((parts 46 p).drop ((parts 46 p).length - (parts 46 o).length)), dL (parts 46 o), dp_L (SqL.of upd_same), dp_L ((same_upd nu).seq (SqL.of eb)), shaped_L (fun w hw => ap w (List.mem_of_mem_drop hw)), shaped_L ao, ?_⟩
        rw [eqv_L]
        refine qb ?_ (q _ (sb.trans (same_upd nu)))
        unfold lawDue
        rw [if_neg n1, decide_eq_true e3, Bool.true_and]
      · have e3 : ¬ (parts 46 p).length ≥ (parts 46 o).length := by simpa using h3
        refine qb ?_ (q _ sb)
        unfold lawDue
        rw [if_neg n1, decide_eq_false e3, Bool.false_and]

/-! ### law -/
theorem join_inj {c : Nat} {a b : List Nat} (h : parts c a = parts c b) : a = b := by
  rw [← join_parts c a, h, join_parts]
theorem addr_num {l : List Nat} (h : isAddr l = true) : isNum ((parts 46 l).getLast (parts_ne 46 l)) = true := by
  unfold isAddr at h
  rw [Bool.and_eq_true] at h
  have h1 := List.all_eq_true.mp h.2 _ (List.getLast_mem (parts_ne 46 l))
  unfold isSmall at h1
  rw [Bool.and_eq_true, Bool.and_eq_true, Bool.and_eq_true] at h1
  exact h1.1.1.1
theorem suffix_parts {c : Nat} (h d : List Nat) : (h = d ∨ ∃ u, h = u ++ c :: d) ↔ (parts c h).length ≥ (parts c d).length ∧ (parts c h).drop ((parts c h).length - (parts c d).length) = parts c d := by
  constructor
  · rintro (rfl | ⟨u, rfl⟩)
    · exact ⟨Nat.le_refl _, by rw [Nat.sub_self, List.drop_zero]⟩
    · rw [parts_cut, List.length_append]
      refine ⟨by omega, ?_⟩
      rw [Nat.add_sub_cancel, List.drop_left']
      rfl
  · rintro ⟨h1, h2⟩
    generalize hk : (parts c h).length - (parts c d).length = k at h2
    have e : parts c h = (parts c h).take k ++ parts c d := by
      conv => lhs; rw [← List.take_append_drop k (parts c h)]
      rw [h2]
    by_cases z : (parts c h).take k = []
    · rw [z, List.nil_append] at e
      exact .inl (join_inj e)
    · refine .inr ⟨TL.joinL [c] ((parts c h).take k), ?_⟩
      have := join_app c z (parts_ne c d)
      rw [← e, join_parts, join_parts] at this
      exact this
theorem due_fits {h d : List Nat} (hh : isHost h = true) : hostFits h d = lawDue h d := by
  obtain ⟨_, _, _, h4⟩ := isHost_len hh
  unfold hostFits lawDue
  by_cases n : isNum ((parts 46 h).getLast (parts_ne 46 h)) = true
  · rw [if_pos n]
    have ha : isAddr h = true := by
      rcases h4 with h4 | h4
      · rw [n] at h4
        cases h4
      · exact h4
    rw [ha, Bool.not_true, Bool.false_and, Bool.or_false]
    apply Bool.eq_iff_iff.mpr
    rw [decide_eq_true_eq, decide_eq_true_eq]
    exact ⟨fun e => by rw [e], join_inj⟩
  · rw [if_neg n]
    have ha : isAddr h = false := by
      cases e : isAddr h with
      | false => rfl
      | true => exact absurd (addr_num e) n
    rw [ha, Bool.not_false, Bool.true_and]
    apply Bool.eq_iff_iff.mpr
    rw [Bool.or_eq_true, Bool.and_eq_true, decide_eq_true_eq, decide_eq_true_eq, decide_eq_true_eq, List.isSuffixOf_iff_suffix, ← suffix_parts]
    constructor
    · rintro (e | ⟨u, e⟩)
      · exact .inl e
      · exact .inr ⟨u, e.symm⟩
    · rintro (e | ⟨u, e⟩)
      · exact .inl e
      · exact .inr ⟨u, e.symm⟩
theorem fits_self (h : List Nat) : hostFits h h = true := by
  unfold hostFits
  rw [decide_eq_true rfl, Bool.true_or]

def sp_law (K : PySem.W.Frag) : Sp := fun vs H Q _ => ∃ (a : Addr) (ns : List Int), vs = [.ref a] ∧ SqL K H a (ns.map V.int) ∧ ns.length ≤ 63 ∧ ∀ H', Q (.bl true) H'
theorem ok_law (T : Txt K mg) : FnOk P w K mg base CX0 7 T.f_law T.d_law ["_law_script"] (sp_law K) := by
  refine T.F_law.ok sc_law (fun vs H Q E h => ?_) (fun cdv A outer s H vs Q E hr h => ?_)
  · obtain ⟨a, ns, rfl, _⟩ := h
    rfl
  · obtain ⟨a, ns, rfl, hS, hlen, q⟩ := h
    refine ⟨_, (pss_cons (ps_for PassesOwn.never rfl (kpEnum (K := K) rfl (by rfl) T.n_enumerate (pa_cons (pe_op op_cat (pe_slice (kSlL (K := K) rfl) (pv 0) po_none (po_some pe_int)) (pe_lst (pa_cons (pe_callB (kSum (K := K) rfl rfl) (by rfl) T.n_sum (by decide +kernel) (pa_cons (pv 0) pa_nil)) pa_nil))) pa_nil)) (pg_tup (by rfl) (pgs_cons (pg_name (i := 1) sc_law.nd rfl (.inl rfl)) (pgs_cons (pg_name (i := 2) sc_law.nd rfl (.inl rfl)) pgs_nil)))
      (pss_cons (ps_set (i := 3) sc_law.nd rfl (.inl rfl) (pe_call (ok__law_draw T) (hr.mono (by decide)) (by rfl) T.g__law_draw T.F__law_draw.kp T.b__law_draw .nil pass0 (pa_cons (pv 2) (pa_cons (pv 1) pa_nil))))
      (pss_one (ps_for PassesOwn.never rfl (pi_range1 (by rfl) T.n_range (pa_cons pe_int pa_nil)) (pg_name (i := 4) sc_law.nd rfl (.inl rfl))
      (pss_cons (ps_asg (pe_call (ok__law_pair T) (hr.mono (by decide)) (by rfl) T.g__law_pair T.F__law_pair.kp T.b__law_pair .nil pass0 (pa_cons (pv 3) pa_nil)) (pg_tup (by rfl) (pgs_cons (pg_name (i := 5) sc_law.nd rfl (.inl rfl)) (pgs_cons (pg_name (i := 6) sc_law.nd rfl (.inl rfl)) pgs_nil))))
      (pss_cons (ps_if (PW.pt (pw_or (pt_cmpR op_ne (pe_call (ok_host_fits T) (hr.mono (by decide)) (by rfl) T.g_host_fits T.F_host_fits.kp T.b_host_fits .nil pass0 (pa_cons (pv 5) (pa_cons (pv 6) pa_nil))) (pe_call (ok__law_due T) (hr.mono (by decide)) (by rfl) T.g__law_due T.F__law_due.kp T.b__law_due .nil pass0 (pa_cons (pv 5) (pa_cons (pv 6) pa_nil))) (nomark _)) (pw_or1 (pt_cmpR op_notBl (pe_call (ok_host_fits T) (hr.mono (by decide)) (by rfl) T.g_host_fits T.F_host_fits.kp T.b_host_fits .nil pass0 (pa_cons (pv 5) (pa_cons (pv 5) pa_nil))) pe_bl (nomark _)))))
      (pss_one (ps_ret pe_bl))
      pss_nil)
      (pss_one (ps_if (PW.pt (pw_or (pt_cmpR op_ne (pe_m1 PySem.F.slot_str_join PySem.F.type_str_join (kJoin (K := K) rfl) pe_str (pe_call (ok_labels_of T) (hr.mono (by decide)) (by rfl) T.g_labels_of T.F_labels_of.kp T.b_labels_of .nil pass0 (pa_cons (pv 5) pa_nil))) (pv 5) (nomark _)) (pw_or1 (pt_cmpR op_ne (pe_call (ok_host_fits T) (hr.mono (by decide)) (by rfl) T.g_host_fits T.F_host_fits.kp T.b_host_fits .nil pass0 (pa_cons (pv 6) (pa_cons (pv 5) pa_nil))) (pe_call (ok__law_due T) (hr.mono (by decide)) (by rfl) T.g__law_due T.F__law_due.kp T.b__law_due .nil pass0 (pa_cons (pv 6) (pa_cons (pv 5) pa_nil))) (nomark _)))))
      (pss_one (ps_ret pe_bl))
      pss_nil))))))))
      (pss_one (ps_ret pe_bl))), ?_⟩
    -- script[:6] + [sum(script)]
    refine ⟨_, rfl, 6, rfl, a, _, rfl, hS, fun u nu => ?_⟩
    refine ⟨_, rfl, a, ns, rfl, (same_upd nu).seq hS, by show 1 ≤ sizeLine; decide, fun v nv => ?_⟩
    have nuv : u ≠ v := fun z => by rw [← z, upd_same] at nv; cases nv
    refine ⟨u, v, _, _, rfl, rfl, by rw [upd_ne nuv]; exact upd_same, upd_same, ?_, fun c nc => ?_⟩
    · have h1 : (cutV (ns.map V.int) none (some 6)).length ≤ 63 := by
        rw [cutV_map, List.length_map]
        exact Nat.le_trans (cut_len _ _ _) hlen
      exact sz (by simp only [List.length_cons, List.length_nil]; omega)
    have es : cutV (ns.map V.int) none (some 6) ++ [V.int ns.sum] = (ns.take 6 ++ [ns.sum]).map V.int := by
      rw [cutV_map, show (6 : Int) = ((6 : Nat) : Int) from rfl, cut_to, List.map_append]
      rfl
    rw [es]
    generalize hzs : ns.take 6 ++ [ns.sum] = zs
    have hz : zs.length ≤ 7 := by rw [← hzs, List.length_append, List.length_take]; simp; omega
    generalize hH0 : upd (upd (upd H u (.lst (cutV (ns.map V.int) none (some 6)))) v (.lst [V.int ns.sum])) c (.lst (zs.map V.int)) = H0
    have hc : H0 c = some (.lst (zs.map V.int)) := by rw [← hH0]; exact upd_same
    refine ⟨c, _, rfl, SqL.of hc, for_it (n := (zs.map V.int).length) walk_enum (fun i σ H' => Same H0 H' ∧ ∃ y1 y2 y3 y4 y5 y6, σ = [some (.ref a), y1, y2, y3, y4, y5, y6])
      ⟨Same.refl H0, none, none, none, none, none, none, rfl⟩ (fun _ _ _ _ hP => hP.1.seq (SqL.of hc)) (fun i x σ H1 H2 hi hP hY => ?_) (fun σ H1 _ => q H1)⟩
    obtain ⟨s1, y1, y2, y3, y4, y5, y6, rfl⟩ := hP
    obtain ⟨T1, x1, x2, rfl, nT, rfl, e1, e2⟩ := hY
    cases e1
    obtain ⟨z, hz2, rfl⟩ : ∃ z, zs[i]? = some z ∧ x2 = V.int z := by
      have e2 : (zs.map V.int)[i]? = some x2 := e2
      rw [List.getElem?_map] at e2
      cases e : zs[i]? with
      | none => rw [e] at e2; cases e2
      | some z => rw [e] at e2; exact ⟨z, rfl, (Option.some.inj e2).symm⟩
    have hi7 : i < 7 := by rw [List.length_map] at hi; omega
    have s2 := s1.trans (same_upd (o := HO.tup [V.int (i : Nat), V.int z]) nT)
    refine ⟨T1, _, rfl, SqT.of upd_same, rfl, _, _, rfl, _, _, rfl, rfl, ?_⟩
    -- the source of drawn numbers
    refine ⟨_, rfl, _, rfl, z, (i : Nat), rfl, by omega, by omega, fun H3 d s3 nd D3 => ?_⟩
    refine ⟨8, rfl, by decide, by decide, for_range (lo := 0) (n := 8) (fun j σ H' => Sx d H3 H' ∧ Dr d (100000 + 200 * j) H' ∧ ∃ y4 y5 y6, σ = [some (.ref a), some (.int (i : Nat)), some (.int z), some (.ref d), y4, y5, y6])
      ⟨Sx.refl d H3, D3, _, _, _, rfl⟩ ?_ ?_⟩
    · rintro j σ H4 hj ⟨s4, D4, y4, y5, y6, rfl⟩
      refine ⟨_, rfl, d, _, rfl, by omega, D4, fun H5 p x y s5 D5 hp kx ky => ?_⟩
      refine ⟨p, _, rfl, SqT.of hp, rfl, _, _, rfl, _, _, rfl, rfl, ?_⟩
      have lx := (isHost_len kx).1
      rw [dot_S]
      refine ⟨_, rfl, _, rfl, x, y, rfl, kx, ky, fun H6 s6 => ?_⟩
      refine ⟨_, rfl, _, rfl, x, y, rfl, kx, ky, fun H7 s7 => ⟨rfl, _, rfl, ?_⟩⟩
      rw [due_fits kx, ndB]
      refine ⟨_, rfl, _, rfl, x, x, rfl, kx, kx, fun H8 s8 => ⟨_, true, rfl, rfl, _, rfl, ?_⟩⟩
      rw [fits_self]
      refine ⟨⟨_, rfl⟩, _, rfl, x, rfl, kx, fun H9 g s9 hg => ?_⟩
      refine ⟨S [46], g, (parts 46 x).map S, rfl, rfl, .inr (SqT.of ?_), size_join (by rw [join_parts]; omega), ?_⟩
      · rw [hg, List.map_map]
        rfl
      rw [join_S, join_parts]
      refine ⟨_, rfl, rfl, _, rfl, ?_⟩
      rw [decide_eq_true rfl]
      refine ⟨_, rfl, _, rfl, y, x, rfl, ky, kx, fun H10 s10 => ?_⟩
      refine ⟨_, rfl, _, rfl, y, x, rfl, ky, kx, fun H11 s11 => ⟨rfl, _, rfl, ?_⟩⟩
      rw [due_fits ky, ndB]
      have sf := (((s6.trans s7).trans s8).trans s9).trans (s10.trans s11)
      exact ⟨(s4.trans s5).trans (Sx.of sf), (D5.same sf).mono (by omega), _, _, _, rfl⟩
    · rintro σ H4 ⟨s4, D4, y4, y5, y6, rfl⟩
      exact ⟨same_sx s2 nd s3 s4, _, _, _, _, _, _, rfl⟩

end
theorem all_mk {l : PySem.W.OpenLaw} {w : World} {K : PySem.W.Frag} {h : Heap} {mg : Str → Option Value} {fa : Addr} (X : K.In h) (G : h.Ns mainGlobals mg) (hfa : mg "law" = some (.ref fa))
    {f0 : Addr} {od0 an0 : Option Addr} {sl0 : Array (Option Value)} {oc0 kV0 dc0 pm0 cd0 ct0 : Value}
    (a0 : PySem.W.nsIn K mainGlobals "s1_is_number_word" = some (some (.ref f0))) (l0 : K.lookup f0 = some ⟨oc0, od0, .func (PySem.W.fnOf "s1_is_number_word" "s1_is_number_word" (defArgs S_s1_is_number_word) (defBody S_s1_is_number_word) (defScope S_s1_is_number_word) .none kV0 dc0 pm0 an0 cd0 ct0), sl0⟩) (c0 : PySem.W.codeIn K cd0 "s1_is_number_word" = true) (k0 : PySem.W.keepIn K (.ref f0) = true)
    {f1 : Addr} {od1 an1 : Option Addr} {sl1 : Array (Option Value)} {oc1 kV1 dc1 pm1 cd1 ct1 : Value}
    (a1 : PySem.W.nsIn K mainGlobals "s1_is_small" = some (some (.ref f1))) (l1 : K.lookup f1 = some ⟨oc1, od1, .func (PySem.W.fnOf "s1_is_small" "s1_is_small" (defArgs S_s1_is_small) (defBody S_s1_is_small) (defScope S_s1_is_small) .none kV1 dc1 pm1 an1 cd1 ct1), sl1⟩) (c1 : PySem.W.codeIn K cd1 "s1_is_small" = true) (k1 : PySem.W.keepIn K (.ref f1) = true)
    {f2 : Addr} {od2 an2 : Option Addr} {sl2 : Array (Option Value)} {oc2 kV2 dc2 pm2 cd2 ct2 : Value}
    (a2 : PySem.W.nsIn K mainGlobals "s1_is_label" = some (some (.ref f2))) (l2 : K.lookup f2 = some ⟨oc2, od2, .func (PySem.W.fnOf "s1_is_label" "s1_is_label" (defArgs S_s1_is_label) (defBody S_s1_is_label) (defScope S_s1_is_label) .none kV2 dc2 pm2 an2 cd2 ct2), sl2⟩) (c2 : PySem.W.codeIn K cd2 "s1_is_label" = true) (k2 : PySem.W.keepIn K (.ref f2) = true)
    {f3 : Addr} {od3 an3 : Option Addr} {sl3 : Array (Option Value)} {oc3 kV3 dc3 pm3 cd3 ct3 : Value}
    (a3 : PySem.W.nsIn K mainGlobals "is_address_host" = some (some (.ref f3))) (l3 : K.lookup f3 = some ⟨oc3, od3, .func (PySem.W.fnOf "is_address_host" "is_address_host" (defArgs S_is_address_host) (defBody S_is_address_host) (defScope S_is_address_host) .none kV3 dc3 pm3 an3 cd3 ct3), sl3⟩) (c3 : PySem.W.codeIn K cd3 "is_address_host" = true) (k3 : PySem.W.keepIn K (.ref f3) = true)
    {f4 : Addr} {od4 an4 : Option Addr} {sl4 : Array (Option Value)} {oc4 kV4 dc4 pm4 cd4 ct4 : Value}
    (a4 : PySem.W.nsIn K mainGlobals "is_host" = some (some (.ref f4))) (l4 : K.lookup f4 = some ⟨oc4, od4, .func (PySem.W.fnOf "is_host" "is_host" (defArgs S_is_host) (defBody S_is_host) (defScope S_is_host) .none kV4 dc4 pm4 an4 cd4 ct4), sl4⟩) (c4 : PySem.W.codeIn K cd4 "is_host" = true) (k4 : PySem.W.keepIn K (.ref f4) = true)
    {f5 : Addr} {od5 an5 : Option Addr} {sl5 : Array (Option Value)} {oc5 kV5 dc5 pm5 cd5 ct5 : Value}
    (a5 : PySem.W.nsIn K mainGlobals "s1_may_become_address" = some (some (.ref f5))) (l5 : K.lookup f5 = some ⟨oc5, od5, .func (PySem.W.fnOf "s1_may_become_address" "s1_may_become_address" (defArgs S_s1_may_become_address) (defBody S_s1_may_become_address) (defScope S_s1_may_become_address) .none kV5 dc5 pm5 an5 cd5 ct5), sl5⟩) (c5 : PySem.W.codeIn K cd5 "s1_may_become_address" = true) (k5 : PySem.W.keepIn K (.ref f5) = true)
    {f6 : Addr} {od6 an6 : Option Addr} {sl6 : Array (Option Value)} {oc6 kV6 dc6 pm6 cd6 ct6 : Value}
    (a6 : PySem.W.nsIn K mainGlobals "s1_begins" = some (some (.ref f6))) (l6 : K.lookup f6 = some ⟨oc6, od6, .func (PySem.W.fnOf "s1_begins" "s1_begins" (defArgs S_s1_begins) (defBody S_s1_begins) (defScope S_s1_begins) .none kV6 dc6 pm6 an6 cd6 ct6), sl6⟩) (c6 : PySem.W.codeIn K cd6 "s1_begins" = true) (k6 : PySem.W.keepIn K (.ref f6) = true)
    {f7 : Addr} {od7 an7 : Option Addr} {sl7 : Array (Option Value)} {oc7 kV7 dc7 pm7 cd7 ct7 : Value}
    (a7 : PySem.W.nsIn K mainGlobals "need_host" = some (some (.ref f7))) (l7 : K.lookup f7 = some ⟨oc7, od7, .func (PySem.W.fnOf "need_host" "need_host" (defArgs S_need_host) (defBody S_need_host) (defScope S_need_host) .none kV7 dc7 pm7 an7 cd7 ct7), sl7⟩) (c7 : PySem.W.codeIn K cd7 "need_host" = true) (k7 : PySem.W.keepIn K (.ref f7) = true)
    {f8 : Addr} {od8 an8 : Option Addr} {sl8 : Array (Option Value)} {oc8 kV8 dc8 pm8 cd8 ct8 : Value}
    (a8 : PySem.W.nsIn K mainGlobals "s1_place" = some (some (.ref f8))) (l8 : K.lookup f8 = some ⟨oc8, od8, .func (PySem.W.fnOf "s1_place" "s1_place" (defArgs S_s1_place) (defBody S_s1_place) (defScope S_s1_place) .none kV8 dc8 pm8 an8 cd8 ct8), sl8⟩) (c8 : PySem.W.codeIn K cd8 "s1_place" = true) (k8 : PySem.W.keepIn K (.ref f8) = true)
    {f9 : Addr} {od9 an9 : Option Addr} {sl9 : Array (Option Value)} {oc9 kV9 dc9 pm9 cd9 ct9 : Value}
    (a9 : PySem.W.nsIn K mainGlobals "labels_of" = some (some (.ref f9))) (l9 : K.lookup f9 = some ⟨oc9, od9, .func (PySem.W.fnOf "labels_of" "labels_of" (defArgs S_labels_of) (defBody S_labels_of) (defScope S_labels_of) .none kV9 dc9 pm9 an9 cd9 ct9), sl9⟩) (c9 : PySem.W.codeIn K cd9 "labels_of" = true) (k9 : PySem.W.keepIn K (.ref f9) = true)
    {f10 : Addr} {od10 an10 : Option Addr} {sl10 : Array (Option Value)} {oc10 kV10 dc10 pm10 cd10 ct10 : Value}
    (a10 : PySem.W.nsIn K mainGlobals "s1_fits" = some (some (.ref f10))) (l10 : K.lookup f10 = some ⟨oc10, od10, .func (PySem.W.fnOf "s1_fits" "s1_fits" (defArgs S_s1_fits) (defBody S_s1_fits) (defScope S_s1_fits) .none kV10 dc10 pm10 an10 cd10 ct10), sl10⟩) (c10 : PySem.W.codeIn K cd10 "s1_fits" = true) (k10 : PySem.W.keepIn K (.ref f10) = true)
    {f11 : Addr} {od11 an11 : Option Addr} {sl11 : Array (Option Value)} {oc11 kV11 dc11 pm11 cd11 ct11 : Value}
    (a11 : PySem.W.nsIn K mainGlobals "host_fits" = some (some (.ref f11))) (l11 : K.lookup f11 = some ⟨oc11, od11, .func (PySem.W.fnOf "host_fits" "host_fits" (defArgs S_host_fits) (defBody S_host_fits) (defScope S_host_fits) .none kV11 dc11 pm11 an11 cd11 ct11), sl11⟩) (c11 : PySem.W.codeIn K cd11 "host_fits" = true) (k11 : PySem.W.keepIn K (.ref f11) = true)
    {f12 : Addr} {od12 an12 : Option Addr} {sl12 : Array (Option Value)} {oc12 kV12 dc12 pm12 cd12 ct12 : Value}
    (a12 : PySem.W.nsIn K mainGlobals "_law_mixed" = some (some (.ref f12))) (l12 : K.lookup f12 = some ⟨oc12, od12, .func (PySem.W.fnOf "_law_mixed" "_law_mixed" (defArgs S__law_mixed) (defBody S__law_mixed) (defScope S__law_mixed) .none kV12 dc12 pm12 an12 cd12 ct12), sl12⟩) (c12 : PySem.W.codeIn K cd12 "_law_mixed" = true) (k12 : PySem.W.keepIn K (.ref f12) = true)
    {f13 : Addr} {od13 an13 : Option Addr} {sl13 : Array (Option Value)} {oc13 kV13 dc13 pm13 cd13 ct13 : Value}
    (a13 : PySem.W.nsIn K mainGlobals "_law_draw" = some (some (.ref f13))) (l13 : K.lookup f13 = some ⟨oc13, od13, .func (PySem.W.fnOf "_law_draw" "_law_draw" (defArgs S__law_draw) (defBody S__law_draw) (defScope S__law_draw) .none kV13 dc13 pm13 an13 cd13 ct13), sl13⟩) (c13 : PySem.W.codeIn K cd13 "_law_draw" = true) (k13 : PySem.W.keepIn K (.ref f13) = true)
    {f14 : Addr} {od14 an14 : Option Addr} {sl14 : Array (Option Value)} {oc14 kV14 dc14 pm14 cd14 ct14 : Value}
    (a14 : PySem.W.nsIn K mainGlobals "_law_digit" = some (some (.ref f14))) (l14 : K.lookup f14 = some ⟨oc14, od14, .func (PySem.W.fnOf "_law_digit" "_law_digit" (defArgs S__law_digit) (defBody S__law_digit) (defScope S__law_digit) .none kV14 dc14 pm14 an14 cd14 ct14), sl14⟩) (c14 : PySem.W.codeIn K cd14 "_law_digit" = true) (k14 : PySem.W.keepIn K (.ref f14) = true)
    {f15 : Addr} {od15 an15 : Option Addr} {sl15 : Array (Option Value)} {oc15 kV15 dc15 pm15 cd15 ct15 : Value}
    (a15 : PySem.W.nsIn K mainGlobals "_law_host" = some (some (.ref f15))) (l15 : K.lookup f15 = some ⟨oc15, od15, .func (PySem.W.fnOf "_law_host" "_law_host" (defArgs S__law_host) (defBody S__law_host) (defScope S__law_host) .none kV15 dc15 pm15 an15 cd15 ct15), sl15⟩) (c15 : PySem.W.codeIn K cd15 "_law_host" = true) (k15 : PySem.W.keepIn K (.ref f15) = true)
    {f16 : Addr} {od16 an16 : Option Addr} {sl16 : Array (Option Value)} {oc16 kV16 dc16 pm16 cd16 ct16 : Value}
    (a16 : PySem.W.nsIn K mainGlobals "_law_pair" = some (some (.ref f16))) (l16 : K.lookup f16 = some ⟨oc16, od16, .func (PySem.W.fnOf "_law_pair" "_law_pair" (defArgs S__law_pair) (defBody S__law_pair) (defScope S__law_pair) .none kV16 dc16 pm16 an16 cd16 ct16), sl16⟩) (c16 : PySem.W.codeIn K cd16 "_law_pair" = true) (k16 : PySem.W.keepIn K (.ref f16) = true)
    {f17 : Addr} {od17 an17 : Option Addr} {sl17 : Array (Option Value)} {oc17 kV17 dc17 pm17 cd17 ct17 : Value}
    (a17 : PySem.W.nsIn K mainGlobals "_law_due" = some (some (.ref f17))) (l17 : K.lookup f17 = some ⟨oc17, od17, .func (PySem.W.fnOf "_law_due" "_law_due" (defArgs S__law_due) (defBody S__law_due) (defScope S__law_due) .none kV17 dc17 pm17 an17 cd17 ct17), sl17⟩) (c17 : PySem.W.codeIn K cd17 "_law_due" = true) (k17 : PySem.W.keepIn K (.ref f17) = true)
    {f18 : Addr} {od18 an18 : Option Addr} {sl18 : Array (Option Value)} {oc18 kV18 dc18 pm18 cd18 ct18 : Value}
    (a18 : PySem.W.nsIn K mainGlobals "law" = some (some (.ref f18))) (l18 : K.lookup f18 = some ⟨oc18, od18, .func (PySem.W.fnOf "law" "law" (defArgs S_law) (defBody S_law) (defScope S_law) .none kV18 dc18 pm18 an18 cd18 ct18), sl18⟩) (c18 : PySem.W.codeIn K cd18 "law" = true) (k18 : PySem.W.keepIn K (.ref f18) = true)
    {t_DIGITS : Tok} (v_DIGITS : PySem.W.nsIn K mainGlobals "DIGITS" = some (some (.str cs_DIGITS t_DIGITS)))
    {t_MOST_SIGNS : Tok} (v_MOST_SIGNS : PySem.W.nsIn K mainGlobals "MOST_SIGNS" = some (some (.int (100) t_MOST_SIGNS)))
    {t_MOST_LABELS : Tok} (v_MOST_LABELS : PySem.W.nsIn K mainGlobals "MOST_LABELS" = some (some (.int (10) t_MOST_LABELS)))
    {t_MOST_LABEL : Tok} (v_MOST_LABEL : PySem.W.nsIn K mainGlobals "MOST_LABEL" = some (some (.int (20) t_MOST_LABEL)))
    {t_LABEL_SIGNS : Tok} (v_LABEL_SIGNS : PySem.W.nsIn K mainGlobals "LABEL_SIGNS" = some (some (.str cs_LABEL_SIGNS t_LABEL_SIGNS)))
    (z_all : PySem.W.nsIn K mainGlobals "all" = some none)
    (z_enumerate : PySem.W.nsIn K mainGlobals "enumerate" = some none)
    (z_int : PySem.W.nsIn K mainGlobals "int" = some none)
    (z_isinstance : PySem.W.nsIn K mainGlobals "isinstance" = some none)
    (z_len : PySem.W.nsIn K mainGlobals "len" = some none)
    (z_range : PySem.W.nsIn K mainGlobals "range" = some none)
    (z_str : PySem.W.nsIn K mainGlobals "str" = some none)
    (z_sum : PySem.W.nsIn K mainGlobals "sum" = some none)
    (z_tuple : PySem.W.nsIn K mainGlobals "tuple" = some none)
    : ∃ fd : FuncData, (∀ (s : Shared) (v : Value), BindsTo s fd ⟨[v], []⟩ [("_law_script", v)]) ∧ ∀ base : Heap, K.In base → base.Ns mainGlobals mg → FnOk l.prog w K mg base CX0 7 fa fd ["_law_script"] (sp_law K) := by
  have e := hfa.symm.trans (PySem.W.mg_of X G a18)
  cases e
  let T : Txt K mg := {
    f_s1_is_number_word := f0,
    d_s1_is_number_word := _,
    F_s1_is_number_word := fun_mk (st := S_s1_is_number_word) l0 c0 k0,
    g_s1_is_number_word := PySem.W.mg_of X G a0,
    f_s1_is_small := f1,
    d_s1_is_small := _,
    F_s1_is_small := fun_mk (st := S_s1_is_small) l1 c1 k1,
    g_s1_is_small := PySem.W.mg_of X G a1,
    f_s1_is_label := f2,
    d_s1_is_label := _,
    F_s1_is_label := fun_mk (st := S_s1_is_label) l2 c2 k2,
    g_s1_is_label := PySem.W.mg_of X G a2,
    f_is_address_host := f3,
    d_is_address_host := _,
    F_is_address_host := fun_mk (st := S_is_address_host) l3 c3 k3,
    g_is_address_host := PySem.W.mg_of X G a3,
    f_is_host := f4,
    d_is_host := _,
    F_is_host := fun_mk (st := S_is_host) l4 c4 k4,
    g_is_host := PySem.W.mg_of X G a4,
    f_s1_may_become_address := f5,
    d_s1_may_become_address := _,
    F_s1_may_become_address := fun_mk (st := S_s1_may_become_address) l5 c5 k5,
    g_s1_may_become_address := PySem.W.mg_of X G a5,
    f_s1_begins := f6,
    d_s1_begins := _,
    F_s1_begins := fun_mk (st := S_s1_begins) l6 c6 k6,
    g_s1_begins := PySem.W.mg_of X G a6,
    f_need_host := f7,
    d_need_host := _,
    F_need_host := fun_mk (st := S_need_host) l7 c7 k7,
    g_need_host := PySem.W.mg_of X G a7,
    f_s1_place := f8,
    d_s1_place := _,
    F_s1_place := fun_mk (st := S_s1_place) l8 c8 k8,
    g_s1_place := PySem.W.mg_of X G a8,
    f_labels_of := f9,
    d_labels_of := _,
    F_labels_of := fun_mk (st := S_labels_of) l9 c9 k9,
    g_labels_of := PySem.W.mg_of X G a9,
    f_s1_fits := f10,
    d_s1_fits := _,
    F_s1_fits := fun_mk (st := S_s1_fits) l10 c10 k10,
    g_s1_fits := PySem.W.mg_of X G a10,
    f_host_fits := f11,
    d_host_fits := _,
    F_host_fits := fun_mk (st := S_host_fits) l11 c11 k11,
    g_host_fits := PySem.W.mg_of X G a11,
    f__law_mixed := f12,
    d__law_mixed := _,
    F__law_mixed := fun_mk (st := S__law_mixed) l12 c12 k12,
    g__law_mixed := PySem.W.mg_of X G a12,
    f__law_draw := f13,
    d__law_draw := _,
    F__law_draw := fun_mk (st := S__law_draw) l13 c13 k13,
    g__law_draw := PySem.W.mg_of X G a13,
    f__law_digit := f14,
    d__law_digit := _,
    F__law_digit := fun_mk (st := S__law_digit) l14 c14 k14,
    g__law_digit := PySem.W.mg_of X G a14,
    f__law_host := f15,
    d__law_host := _,
    F__law_host := fun_mk (st := S__law_host) l15 c15 k15,
    g__law_host := PySem.W.mg_of X G a15,
    f__law_pair := f16,
    d__law_pair := _,
    F__law_pair := fun_mk (st := S__law_pair) l16 c16 k16,
    g__law_pair := PySem.W.mg_of X G a16,
    f__law_due := f17,
    d__law_due := _,
    F__law_due := fun_mk (st := S__law_due) l17 c17 k17,
    g__law_due := PySem.W.mg_of X G a17,
    f_law := fa,
    d_law := _,
    F_law := fun_mk (st := S_law) l18 c18 k18,
    g_law := PySem.W.mg_of X G a18,
    c_DIGITS := ⟨_, PySem.W.mg_of X G v_DIGITS⟩,
    c_MOST_SIGNS := ⟨_, PySem.W.mg_of X G v_MOST_SIGNS⟩,
    c_MOST_LABELS := ⟨_, PySem.W.mg_of X G v_MOST_LABELS⟩,
    c_MOST_LABEL := ⟨_, PySem.W.mg_of X G v_MOST_LABEL⟩,
    c_LABEL_SIGNS := ⟨_, PySem.W.mg_of X G v_LABEL_SIGNS⟩,
    n_all := PySem.W.mg_none_of X G z_all,
    n_enumerate := PySem.W.mg_none_of X G z_enumerate,
    n_int := PySem.W.mg_none_of X G z_int,
    n_isinstance := PySem.W.mg_none_of X G z_isinstance,
    n_len := PySem.W.mg_none_of X G z_len,
    n_range := PySem.W.mg_none_of X G z_range,
    n_str := PySem.W.mg_none_of X G z_str,
    n_sum := PySem.W.mg_none_of X G z_sum,
    n_tuple := PySem.W.mg_none_of X G z_tuple }
  exact ⟨PySem.W.fnOf "law" "law" (defArgs S_law) (defBody S_law) (defScope S_law) .none kV18 dc18 pm18 an18 cd18 ct18, fun s v => .of_eq rfl, fun base _ _ => ok_law T⟩
end LawK04
open PySem PySem.W PyProof.Rows
set_option maxHeartbeats 0 in
theorem PySem.Challenge.cw_crumbjar_k04_hosts_that_fit_holds : PySem.Challenge.rw_crumbjar_k04_hosts_that_fit.Holds := by
  w_on; o_law; k_head; (case hw => w_witness2)
  k_fill
  refine L2.walk_of (l := PySem.Challenge.rw_crumbjar_k04_hosts_that_fit) (n := 63) (k := 7) (x := "_law_script") (CX := fun _ => L2.CX0) (sp := fun w => LawK04.sp_law _) rfl (by decide) rfl ⟨rfl, by decide, by decide⟩ (fun w h Y => PySem.W.kIn_of Y) ?F (fun _ _ a ns hl _ hS => ⟨a, ns, rfl, hS, hl, fun _ => rfl⟩) (fun _ _ _ _ _ h => h)
  case F =>
    intro w mg fa h KX G hmg
    refine' LawK04.all_mk KX G hmg ?a0 ?l0 ?c0 ?k0 ?a1 ?l1 ?c1 ?k1 ?a2 ?l2 ?c2 ?k2 ?a3 ?l3 ?c3 ?k3 ?a4 ?l4 ?c4 ?k4 ?a5 ?l5 ?c5 ?k5 ?a6 ?l6 ?c6 ?k6 ?a7 ?l7 ?c7 ?k7 ?a8 ?l8 ?c8 ?k8 ?a9 ?l9 ?c9 ?k9 ?a10 ?l10 ?c10 ?k10 ?a11 ?l11 ?c11 ?k11 ?a12 ?l12 ?c12 ?k12 ?a13 ?l13 ?c13 ?k13 ?a14 ?l14 ?c14 ?k14 ?a15 ?l15 ?c15 ?k15 ?a16 ?l16 ?c16 ?k16 ?a17 ?l17 ?c17 ?k17 ?a18 ?l18 ?c18 ?k18 ?v_DIGITS ?v_MOST_SIGNS ?v_MOST_LABELS ?v_MOST_LABEL ?v_LABEL_SIGNS ?z_all ?z_enumerate ?z_int ?z_isinstance ?z_len ?z_range ?z_str ?z_sum ?z_tuple
    (case a0 => k_is); (case l0 => k_is); (case c0 => k_is); (case k0 => k_is); (case a1 => k_is); (case l1 => k_is); (case c1 => k_is); (case k1 => k_is); (case a2 => k_is); (case l2 => k_is); (case c2 => k_is); (case k2 => k_is); (case a3 => k_is); (case l3 => k_is); (case c3 => k_is); (case k3 => k_is); (case a4 => k_is); (case l4 => k_is); (case c4 => k_is); (case k4 => k_is); (case a5 => k_is); (case l5 => k_is); (case c5 => k_is); (case k5 => k_is); (case a6 => k_is); (case l6 => k_is); (case c6 => k_is); (case k6 => k_is); (case a7 => k_is); (case l7 => k_is); (case c7 => k_is); (case k7 => k_is); (case a8 => k_is); (case l8 => k_is); (case c8 => k_is); (case k8 => k_is); (case a9 => k_is); (case l9 => k_is); (case c9 => k_is); (case k9 => k_is); (case a10 => k_is); (case l10 => k_is); (case c10 => k_is); (case k10 => k_is); (case a11 => k_is); (case l11 => k_is); (case c11 => k_is); (case k11 => k_is); (case a12 => k_is); (case l12 => k_is); (case c12 => k_is); (case k12 => k_is); (case a13 => k_is); (case l13 => k_is); (case c13 => k_is); (case k13 => k_is); (case a14 => k_is); (case l14 => k_is); (case c14 => k_is); (case k14 => k_is); (case a15 => k_is); (case l15 => k_is); (case c15 => k_is); (case k15 => k_is); (case a16 => k_is); (case l16 => k_is); (case c16 => k_is); (case k16 => k_is); (case a17 => k_is); (case l17 => k_is); (case c17 => k_is); (case k17 => k_is); (case a18 => k_is); (case l18 => k_is); (case c18 => k_is); (case k18 => k_is); (case v_DIGITS => k_is); (case v_MOST_SIGNS => k_is); (case v_MOST_LABELS => k_is); (case v_MOST_LABEL => k_is); (case v_LABEL_SIGNS => k_is); (case z_all => k_is); (case z_enumerate => k_is); (case z_int => k_is); (case z_isinstance => k_is); (case z_len => k_is); (case z_range => k_is); (case z_str => k_is); (case z_sum => k_is); (case z_tuple => k_is)
