import PyProof.Rows.All
import Wide.All
import OpenK.AllK
import Wide.FinOn
import PySem.Challenge.RW_crumbjar_k07_whole_families_are_classes
import HandS.ForMost
import HandS.Codes
import HandS.Walk
import HandS.Flow
import HandS.IsInst
import HandS.StrMore
import HandS.Style
import HandS.TupAny
import HandS.WordsExc
import HandS.SortKw
import HandS.TupMul
import KE.GoesEnumKw
import KE.GoesEnum
import KE.KMinKey
set_option Elab.async false
set_option linter.all false
set_option maxRecDepth 100000
set_option maxHeartbeats 4000000
set_option pp.maxSteps 1500

namespace LawK07
open PySem PySem.Spec PyProof.Rows L2
def topS (i : Nat) : Stmt := PySem.Challenge.pw_crumbjar_k07_whole_families_are_classes.main.body.getD i (.Pass ⟨0, 0, 0, 0⟩)
abbrev S_s1_is_number_word : Stmt := topS 11
abbrev N_s1_is_number_word : List Str := ["text", "sign"]
theorem sc_s1_is_number_word : FnScope N_s1_is_number_word ["text"] (defScope S_s1_is_number_word) := ⟨rfl, rfl, rfl, by decide +kernel, rfl, by decide +kernel, by decide +kernel⟩
abbrev S_s1_is_small : Stmt := topS 12
abbrev N_s1_is_small : List Str := ["word"]
theorem sc_s1_is_small : FnScope N_s1_is_small ["word"] (defScope S_s1_is_small) := ⟨rfl, rfl, rfl, by decide +kernel, rfl, by decide +kernel, by decide +kernel⟩
abbrev S_s1_is_label : Stmt := topS 13
abbrev N_s1_is_label : List Str := ["text", "sign"]
theorem sc_s1_is_label : FnScope N_s1_is_label ["text"] (defScope S_s1_is_label) := ⟨rfl, rfl, rfl, by decide +kernel, rfl, by decide +kernel, by decide +kernel⟩
abbrev S_is_address_host : Stmt := topS 14
abbrev N_is_address_host : List Str := ["value", "words", "word"]
theorem sc_is_address_host : FnScope N_is_address_host ["value"] (defScope S_is_address_host) := ⟨rfl, rfl, rfl, by decide +kernel, rfl, by decide +kernel, by decide +kernel⟩
abbrev S_is_host : Stmt := topS 15
abbrev N_is_host : List Str := ["value", "words", "word"]
theorem sc_is_host : FnScope N_is_host ["value"] (defScope S_is_host) := ⟨rfl, rfl, rfl, by decide +kernel, rfl, by decide +kernel, by decide +kernel⟩
abbrev S_s1_may_become_address : Stmt := topS 16
abbrev N_s1_may_become_address : List Str := ["words", "word"]
theorem sc_s1_may_become_address : FnScope N_s1_may_become_address ["words"] (defScope S_s1_may_become_address) := ⟨rfl, rfl, rfl, by decide +kernel, rfl, by decide +kernel, by decide +kernel⟩
abbrev S_s1_begins : Stmt := topS 17
abbrev N_s1_begins : List Str := ["text", "words", "last", "left", "word", "sign"]
theorem sc_s1_begins : FnScope N_s1_begins ["text"] (defScope S_s1_begins) := ⟨rfl, rfl, rfl, by decide +kernel, rfl, by decide +kernel, by decide +kernel⟩
abbrev S_need_host : Stmt := topS 18
abbrev N_need_host : List Str := ["value"]
theorem sc_need_host : FnScope N_need_host ["value"] (defScope S_need_host) := ⟨rfl, rfl, rfl, by decide +kernel, rfl, by decide +kernel, by decide +kernel⟩
abbrev S_s1_place : Stmt := topS 19
abbrev N_s1_place : List Str := ["value", "at"]
theorem sc_s1_place : FnScope N_s1_place ["value"] (defScope S_s1_place) := ⟨rfl, rfl, rfl, by decide +kernel, rfl, by decide +kernel, by decide +kernel⟩
abbrev S_s1_fits : Stmt := topS 20
abbrev N_s1_fits : List Str := ["host", "domain"]
theorem sc_s1_fits : FnScope N_s1_fits ["host", "domain"] (defScope S_s1_fits) := ⟨rfl, rfl, rfl, by decide +kernel, rfl, by decide +kernel, by decide +kernel⟩
abbrev S_host_fits : Stmt := topS 21
abbrev N_host_fits : List Str := ["host", "domain"]
theorem sc_host_fits : FnScope N_host_fits ["host", "domain"] (defScope S_host_fits) := ⟨rfl, rfl, rfl, by decide +kernel, rfl, by decide +kernel, by decide +kernel⟩
abbrev S_s1_is_rule : Stmt := topS 24
abbrev N_s1_is_rule : List Str := ["value", "is_exception", "words", "word"]
theorem sc_s1_is_rule : FnScope N_s1_is_rule ["value"] (defScope S_s1_is_rule) := ⟨rfl, rfl, rfl, by decide +kernel, rfl, by decide +kernel, by decide +kernel⟩
abbrev S_need_rules : Stmt := topS 25
abbrev N_need_rules : List Str := ["rules", "known", "at", "rule"]
theorem sc_need_rules : FnScope N_need_rules ["rules"] (defScope S_need_rules) := ⟨rfl, rfl, rfl, by decide +kernel, rfl, by decide +kernel, by decide +kernel⟩
abbrev S_s1_matching : Stmt := topS 26
abbrev N_s1_matching : List Str := ["rules", "labels", "exceptions", "others", "rule", "is_exception", "words", "tail", "word", "label"]
theorem sc_s1_matching : FnScope N_s1_matching ["rules", "labels"] (defScope S_s1_matching) := ⟨rfl, rfl, rfl, by decide +kernel, rfl, by decide +kernel, by decide +kernel⟩
abbrev S_s1_suffix : Stmt := topS 27
abbrev N_s1_suffix : List Str := ["rules", "host", "labels", "exceptions", "others", "many"]
theorem sc_s1_suffix : FnScope N_s1_suffix ["rules", "host"] (defScope S_s1_suffix) := ⟨rfl, rfl, rfl, by decide +kernel, rfl, by decide +kernel, by decide +kernel⟩
abbrev S_s1_family : Stmt := topS 28
abbrev N_s1_family : List Str := ["rules", "host", "suffix"]
theorem sc_s1_family : FnScope N_s1_family ["rules", "host"] (defScope S_s1_family) := ⟨rfl, rfl, rfl, by decide +kernel, rfl, by decide +kernel, by decide +kernel⟩
abbrev S_need_both : Stmt := topS 29
abbrev N_need_both : List Str := ["rules", "host"]
theorem sc_need_both : FnScope N_need_both ["rules", "host"] (defScope S_need_both) := ⟨rfl, rfl, rfl, by decide +kernel, rfl, by decide +kernel, by decide +kernel⟩
abbrev S_suffix_of : Stmt := topS 30
abbrev N_suffix_of : List Str := ["rules", "host"]
theorem sc_suffix_of : FnScope N_suffix_of ["rules", "host"] (defScope S_suffix_of) := ⟨rfl, rfl, rfl, by decide +kernel, rfl, by decide +kernel, by decide +kernel⟩
abbrev S_family_of : Stmt := topS 31
abbrev N_family_of : List Str := ["rules", "host"]
theorem sc_family_of : FnScope N_family_of ["rules", "host"] (defScope S_family_of) := ⟨rfl, rfl, rfl, by decide +kernel, rfl, by decide +kernel, by decide +kernel⟩
abbrev S_is_suffix : Stmt := topS 32
abbrev N_is_suffix : List Str := ["rules", "host"]
theorem sc_is_suffix : FnScope N_is_suffix ["rules", "host"] (defScope S_is_suffix) := ⟨rfl, rfl, rfl, by decide +kernel, rfl, by decide +kernel, by decide +kernel⟩
abbrev S__law_mixed : Stmt := topS 34
abbrev N__law_mixed : List Str := ["_law_cell", "_law_k", "_law_one"]
theorem sc__law_mixed : FnScope N__law_mixed ["_law_cell", "_law_k"] (defScope S__law_mixed) := ⟨rfl, rfl, rfl, by decide +kernel, rfl, by decide +kernel, by decide +kernel⟩
abbrev S__law_draw : Stmt := topS 35
abbrev N__law_draw : List Str := ["_law_cell", "_law_k"]
theorem sc__law_draw : FnScope N__law_draw ["_law_cell", "_law_k"] (defScope S__law_draw) := ⟨rfl, rfl, rfl, by decide +kernel, rfl, by decide +kernel, by decide +kernel⟩
abbrev S__law_digit : Stmt := topS 36
abbrev N__law_digit : List Str := ["_law_draw_here", "_law_span", "_law_j", "_law_found"]
theorem sc__law_digit : FnScope N__law_digit ["_law_draw_here", "_law_span"] (defScope S__law_digit) := ⟨rfl, rfl, rfl, by decide +kernel, rfl, by decide +kernel, by decide +kernel⟩
abbrev S__law_rules : Stmt := topS 37
abbrev N__law_rules : List Str := ["_law_draw_here", "_law_found", "_law_j", "_law_words", "_law_way", "_law_rule", "_law_i"]
theorem sc__law_rules : FnScope N__law_rules ["_law_draw_here"] (defScope S__law_rules) := ⟨rfl, rfl, rfl, by decide +kernel, rfl, by decide +kernel, by decide +kernel⟩
abbrev S__law_labels : Stmt := topS 41
abbrev N__law_labels : List Str := ["_law_draw_here", "_law_j"]
theorem sc__law_labels : FnScope N__law_labels ["_law_draw_here"] (defScope S__law_labels) := ⟨rfl, rfl, rfl, by decide +kernel, rfl, by decide +kernel, by decide +kernel⟩
abbrev S_law : Stmt := topS 42
abbrev N_law : List Str := ["_law_script", "_law_k", "_law_amount", "_law_draw_here", "_law_turn", "_law_rules_here", "_law_words", "_law_host", "_law_family_here", "_law_many", "_law_size", "_law_part", "_law_other", "_law_below"]
theorem sc_law : FnScope N_law ["_law_script"] (defScope S_law) := ⟨rfl, rfl, rfl, by decide +kernel, rfl, by decide +kernel, by decide +kernel⟩
def cs_DIGITS : Str := ⟨#[48, 49, 50, 51, 52, 53, 54, 55, 56, 57]⟩
def cs_LABEL_SIGNS : Str := ⟨#[97, 98, 99, 100, 101, 102, 103, 104, 105, 106, 107, 108, 109, 110, 111, 112, 113, 114, 115, 116, 117, 118, 119, 120, 121, 122, 48, 49, 50, 51, 52, 53, 54, 55, 56, 57, 45]⟩
structure Txt (K : PySem.W.Frag) (mg : Str → Option Value) where
  f_s1_is_number_word : Addr
  d_s1_is_number_word : FuncData
  F_s1_is_number_word : Fun K "s1_is_number_word" "s1_is_number_word" S_s1_is_number_word f_s1_is_number_word d_s1_is_number_word
  g_s1_is_number_word : mg "s1_is_number_word" = some (.ref f_s1_is_number_word)
  f_s1_is_small : Addr
  d_s1_is_small : FuncData
  F_s1_is_small : Fun K "s1_is_small" "s1_is_small" S_s1_is_small f_s1_is_small d_s1_is_small
  g_s1_is_small : mg "s1_is_small" = some (.ref f_s1_is_small)
  f_s1_is_label : Addr
  d_s1_is_label : FuncData
  F_s1_is_label : Fun K "s1_is_label" "s1_is_label" S_s1_is_label f_s1_is_label d_s1_is_label
  g_s1_is_label : mg "s1_is_label" = some (.ref f_s1_is_label)
  f_is_address_host : Addr
  d_is_address_host : FuncData
  F_is_address_host : Fun K "is_address_host" "is_address_host" S_is_address_host f_is_address_host d_is_address_host
  g_is_address_host : mg "is_address_host" = some (.ref f_is_address_host)
  f_is_host : Addr
  d_is_host : FuncData
  F_is_host : Fun K "is_host" "is_host" S_is_host f_is_host d_is_host
  g_is_host : mg "is_host" = some (.ref f_is_host)
  f_s1_may_become_address : Addr
  d_s1_may_become_address : FuncData
  F_s1_may_become_address : Fun K "s1_may_become_address" "s1_may_become_address" S_s1_may_become_address f_s1_may_become_address d_s1_may_become_address
  g_s1_may_become_address : mg "s1_may_become_address" = some (.ref f_s1_may_become_address)
  f_s1_begins : Addr
  d_s1_begins : FuncData
  F_s1_begins : Fun K "s1_begins" "s1_begins" S_s1_begins f_s1_begins d_s1_begins
  g_s1_begins : mg "s1_begins" = some (.ref f_s1_begins)
  f_need_host : Addr
  d_need_host : FuncData
  F_need_host : Fun K "need_host" "need_host" S_need_host f_need_host d_need_host
  g_need_host : mg "need_host" = some (.ref f_need_host)
  f_s1_place : Addr
  d_s1_place : FuncData
  F_s1_place : Fun K "s1_place" "s1_place" S_s1_place f_s1_place d_s1_place
  g_s1_place : mg "s1_place" = some (.ref f_s1_place)
  f_s1_fits : Addr
  d_s1_fits : FuncData
  F_s1_fits : Fun K "s1_fits" "s1_fits" S_s1_fits f_s1_fits d_s1_fits
  g_s1_fits : mg "s1_fits" = some (.ref f_s1_fits)
  f_host_fits : Addr
  d_host_fits : FuncData
  F_host_fits : Fun K "host_fits" "host_fits" S_host_fits f_host_fits d_host_fits
  g_host_fits : mg "host_fits" = some (.ref f_host_fits)
  f_s1_is_rule : Addr
  d_s1_is_rule : FuncData
  F_s1_is_rule : Fun K "s1_is_rule" "s1_is_rule" S_s1_is_rule f_s1_is_rule d_s1_is_rule
  g_s1_is_rule : mg "s1_is_rule" = some (.ref f_s1_is_rule)
  f_need_rules : Addr
  d_need_rules : FuncData
  F_need_rules : Fun K "need_rules" "need_rules" S_need_rules f_need_rules d_need_rules
  g_need_rules : mg "need_rules" = some (.ref f_need_rules)
  f_s1_matching : Addr
  d_s1_matching : FuncData
  F_s1_matching : Fun K "s1_matching" "s1_matching" S_s1_matching f_s1_matching d_s1_matching
  g_s1_matching : mg "s1_matching" = some (.ref f_s1_matching)
  f_s1_suffix : Addr
  d_s1_suffix : FuncData
  F_s1_suffix : Fun K "s1_suffix" "s1_suffix" S_s1_suffix f_s1_suffix d_s1_suffix
  g_s1_suffix : mg "s1_suffix" = some (.ref f_s1_suffix)
  f_s1_family : Addr
  d_s1_family : FuncData
  F_s1_family : Fun K "s1_family" "s1_family" S_s1_family f_s1_family d_s1_family
  g_s1_family : mg "s1_family" = some (.ref f_s1_family)
  f_need_both : Addr
  d_need_both : FuncData
  F_need_both : Fun K "need_both" "need_both" S_need_both f_need_both d_need_both
  g_need_both : mg "need_both" = some (.ref f_need_both)
  f_suffix_of : Addr
  d_suffix_of : FuncData
  F_suffix_of : Fun K "suffix_of" "suffix_of" S_suffix_of f_suffix_of d_suffix_of
  g_suffix_of : mg "suffix_of" = some (.ref f_suffix_of)
  f_family_of : Addr
  d_family_of : FuncData
  F_family_of : Fun K "family_of" "family_of" S_family_of f_family_of d_family_of
  g_family_of : mg "family_of" = some (.ref f_family_of)
  f_is_suffix : Addr
  d_is_suffix : FuncData
  F_is_suffix : Fun K "is_suffix" "is_suffix" S_is_suffix f_is_suffix d_is_suffix
  g_is_suffix : mg "is_suffix" = some (.ref f_is_suffix)
  f__law_mixed : Addr
  d__law_mixed : FuncData
  F__law_mixed : Fun K "_law_mixed" "_law_mixed" S__law_mixed f__law_mixed d__law_mixed
  g__law_mixed : mg "_law_mixed" = some (.ref f__law_mixed)
  f__law_draw : Addr
  d__law_draw : FuncData
  F__law_draw : Fun K "_law_draw" "_law_draw" S__law_draw f__law_draw d__law_draw
  g__law_draw : mg "_law_draw" = some (.ref f__law_draw)
  f__law_digit : Addr
  d__law_digit : FuncData
  F__law_digit : Fun K "_law_digit" "_law_digit" S__law_digit f__law_digit d__law_digit
  g__law_digit : mg "_law_digit" = some (.ref f__law_digit)
  f__law_rules : Addr
  d__law_rules : FuncData
  F__law_rules : Fun K "_law_rules" "_law_rules" S__law_rules f__law_rules d__law_rules
  g__law_rules : mg "_law_rules" = some (.ref f__law_rules)
  f__law_labels : Addr
  d__law_labels : FuncData
  F__law_labels : Fun K "_law_labels" "_law_labels" S__law_labels f__law_labels d__law_labels
  g__law_labels : mg "_law_labels" = some (.ref f__law_labels)
  f_law : Addr
  d_law : FuncData
  F_law : Fun K "law" "law" S_law f_law d_law
  g_law : mg "law" = some (.ref f_law)
  c_DIGITS : ∃ t, mg "DIGITS" = some (.str cs_DIGITS t)
  c_MOST_SIGNS : ∃ t, mg "MOST_SIGNS" = some (.int (100) t)
  c_MOST_LABELS : ∃ t, mg "MOST_LABELS" = some (.int (10) t)
  c_MOST_LABEL : ∃ t, mg "MOST_LABEL" = some (.int (20) t)
  c_LABEL_SIGNS : ∃ t, mg "LABEL_SIGNS" = some (.str cs_LABEL_SIGNS t)
  c_MOST_RULES : ∃ t, mg "MOST_RULES" = some (.int (30) t)
  n_all : mg "all" = none
  n_enumerate : mg "enumerate" = none
  n_int : mg "int" = none
  n_isinstance : mg "isinstance" = none
  n_len : mg "len" = none
  n_max : mg "max" = none
  n_range : mg "range" = none
  n_str : mg "str" = none
  n_sum : mg "sum" = none
  n_tuple : mg "tuple" = none
  n_zip : mg "zip" = none
section
variable {K : PySem.W.Frag} {mg : Str → Option Value}
theorem Txt.b_s1_is_number_word (T : Txt K mg) : Binds K T.d_s1_is_number_word ["text"] [] := T.F_s1_is_number_word.binds fun _ _ _ _ _ _ us hl => match us, hl with | [_], _ => rfl
theorem Txt.b_s1_is_small (T : Txt K mg) : Binds K T.d_s1_is_small ["word"] [] := T.F_s1_is_small.binds fun _ _ _ _ _ _ us hl => match us, hl with | [_], _ => rfl
theorem Txt.b_s1_is_label (T : Txt K mg) : Binds K T.d_s1_is_label ["text"] [] := T.F_s1_is_label.binds fun _ _ _ _ _ _ us hl => match us, hl with | [_], _ => rfl
theorem Txt.b_is_address_host (T : Txt K mg) : Binds K T.d_is_address_host ["value"] [] := T.F_is_address_host.binds fun _ _ _ _ _ _ us hl => match us, hl with | [_], _ => rfl
theorem Txt.b_is_host (T : Txt K mg) : Binds K T.d_is_host ["value"] [] := T.F_is_host.binds fun _ _ _ _ _ _ us hl => match us, hl with | [_], _ => rfl
theorem Txt.b_s1_may_become_address (T : Txt K mg) : Binds K T.d_s1_may_become_address ["words"] [] := T.F_s1_may_become_address.binds fun _ _ _ _ _ _ us hl => match us, hl with | [_], _ => rfl
theorem Txt.b_s1_begins (T : Txt K mg) : Binds K T.d_s1_begins ["text"] [] := T.F_s1_begins.binds fun _ _ _ _ _ _ us hl => match us, hl with | [_], _ => rfl
theorem Txt.b_need_host (T : Txt K mg) : Binds K T.d_need_host ["value"] [] := T.F_need_host.binds fun _ _ _ _ _ _ us hl => match us, hl with | [_], _ => rfl
theorem Txt.b_s1_place (T : Txt K mg) : Binds K T.d_s1_place ["value"] [] := T.F_s1_place.binds fun _ _ _ _ _ _ us hl => match us, hl with | [_], _ => rfl
theorem Txt.b_s1_fits (T : Txt K mg) : Binds K T.d_s1_fits ["host", "domain"] [] := T.F_s1_fits.binds fun _ _ _ _ _ _ us hl => match us, hl with | [_, _], _ => rfl
theorem Txt.b_host_fits (T : Txt K mg) : Binds K T.d_host_fits ["host", "domain"] [] := T.F_host_fits.binds fun _ _ _ _ _ _ us hl => match us, hl with | [_, _], _ => rfl
theorem Txt.b_s1_is_rule (T : Txt K mg) : Binds K T.d_s1_is_rule ["value"] [] := T.F_s1_is_rule.binds fun _ _ _ _ _ _ us hl => match us, hl with | [_], _ => rfl
theorem Txt.b_need_rules (T : Txt K mg) : Binds K T.d_need_rules ["rules"] [] := T.F_need_rules.binds fun _ _ _ _ _ _ us hl => match us, hl with | [_], _ => rfl
theorem Txt.b_s1_matching (T : Txt K mg) : Binds K T.d_s1_matching ["rules", "labels"] [] := T.F_s1_matching.binds fun _ _ _ _ _ _ us hl => match us, hl with | [_, _], _ => rfl
theorem Txt.b_s1_suffix (T : Txt K mg) : Binds K T.d_s1_suffix ["rules", "host"] [] := T.F_s1_suffix.binds fun _ _ _ _ _ _ us hl => match us, hl with | [_, _], _ => rfl
theorem Txt.b_s1_family (T : Txt K mg) : Binds K T.d_s1_family ["rules", "host"] [] := T.F_s1_family.binds fun _ _ _ _ _ _ us hl => match us, hl with | [_, _], _ => rfl
theorem Txt.b_need_both (T : Txt K mg) : Binds K T.d_need_both ["rules", "host"] [] := T.F_need_both.binds fun _ _ _ _ _ _ us hl => match us, hl with | [_, _], _ => rfl
theorem Txt.b_suffix_of (T : Txt K mg) : Binds K T.d_suffix_of ["rules", "host"] [] := T.F_suffix_of.binds fun _ _ _ _ _ _ us hl => match us, hl with | [_, _], _ => rfl
theorem Txt.b_family_of (T : Txt K mg) : Binds K T.d_family_of ["rules", "host"] [] := T.F_family_of.binds fun _ _ _ _ _ _ us hl => match us, hl with | [_, _], _ => rfl
theorem Txt.b_is_suffix (T : Txt K mg) : Binds K T.d_is_suffix ["rules", "host"] [] := T.F_is_suffix.binds fun _ _ _ _ _ _ us hl => match us, hl with | [_, _], _ => rfl
theorem Txt.b__law_mixed (T : Txt K mg) : Binds K T.d__law_mixed ["_law_cell", "_law_k"] [] := T.F__law_mixed.binds fun _ _ _ _ _ _ us hl => match us, hl with | [_, _], _ => rfl
theorem Txt.b__law_draw (T : Txt K mg) : Binds K T.d__law_draw ["_law_cell", "_law_k"] [] := T.F__law_draw.binds fun _ _ _ _ _ _ us hl => match us, hl with | [_, _], _ => rfl
theorem Txt.b__law_digit (T : Txt K mg) : Binds K T.d__law_digit ["_law_draw_here", "_law_span"] [] := T.F__law_digit.binds fun _ _ _ _ _ _ us hl => match us, hl with | [_, _], _ => rfl
theorem Txt.b__law_rules (T : Txt K mg) : Binds K T.d__law_rules ["_law_draw_here"] [] := T.F__law_rules.binds fun _ _ _ _ _ _ us hl => match us, hl with | [_], _ => rfl
theorem Txt.b__law_labels (T : Txt K mg) : Binds K T.d__law_labels ["_law_draw_here"] [] := T.F__law_labels.binds fun _ _ _ _ _ _ us hl => match us, hl with | [_], _ => rfl
theorem Txt.b_law (T : Txt K mg) : Binds K T.d_law ["_law_script"] [] := T.F_law.binds fun _ _ _ _ _ _ us hl => match us, hl with | [_], _ => rfl
end
/-! ### kay -/
/-! the rules that lean on the written part, told with K (a comprehension's block has the same K) -/
section
variable {X : Cx} {K : PySem.W.Frag}
theorem kIxL (h : X.K = K) : IxR X (rIxL K) := by subst h; exact ix_list
theorem kIxT (h : X.K = K) : IxR X (rIxT K) := by subst h; exact ix_tup
theorem kSlL (h : X.K = K) : SlR X (rSlL K) := by subst h; exact sl_list
theorem kSlA (h : X.K = K) : SlR X (rSlA K) := by subst h; exact sl_tupA
theorem kIn (h : X.K = K) : OpR X (compareOp .In) (rIn K false) := by subst h; exact op_in_seq
theorem kNi (h : X.K = K) : OpR X (compareOp .NotIn) (rIn K true) := by subst h; exact op_notIn_seq
theorem kEq (h : X.K = K) (hu : X.A.units + 64 < cLine) : OpR X (compareOp .Eq) (rEqD K) := by subst h; exact op_eqD hu
theorem kNe (h : X.K = K) (hu : X.A.units + 64 < cLine) : OpR X (compareOp .NotEq) (rNeD K) := by subst h; exact op_neD hu
theorem kCatA (h : X.K = K) : OpR X (binaryOp .Add) (rCatA K) := by subst h; exact op_catA
def rLenQ (K : PySem.W.Frag) : List V → Hp → VK → Prop := fun xs H Q => ∃ p ys, xs = [.ref p] ∧ (SqL K H p ys ∨ SqT K H p ys) ∧ Q (.int ys.length) H
theorem kLen (h : X.K = K) : CallR X (.builtin "len") (rLenQ K) := by subst h; exact call_len_seq
theorem kSum (h : X.K = K) (hc : X.calm = true) : CallR X (.builtin "sum") (rSum K) := by subst h; exact cr_sum hc
theorem kAll (h : X.K = K) (hc : X.calm = true) : CallR X (.builtin "all") (rAll K) := by subst h; exact cr_all hc
theorem kAny (h : X.K = K) (hc : X.calm = true) : CallR X (.builtin "any") (rAny K) := by subst h; exact cr_any hc
theorem kMax (h : X.K = K) (hc : X.calm = true) : CallR X (.builtin "max") (rMax K) := by subst h; exact cr_max hc
theorem kMin (h : X.K = K) (hc : X.calm = true) : CallR X (.builtin "min") (rMin K) := by subst h; exact cr_min hc
theorem kIsi (h : X.K = K) : CallR X (.builtin "isinstance") (rIsi K) := by subst h; exact call_isi
def rTupQ (K : PySem.W.Frag) : List V → Hp → VK → Prop := fun xs H Q => ∃ p ys, xs = [.ref p] ∧ ((SqL K H p ys ∧ ∀ l, H l = none → Q (.ref l) (upd H l (.tup ys))) ∨ (SqT K H p ys ∧ Q (.ref p) H))
theorem kTup (h : X.K = K) : CallR X (.type "tuple") (rTupQ K) := by subst h; exact call_tuple_of
def rLstQ (K : PySem.W.Frag) : List V → Hp → VK → Prop := fun xs H Q => ∃ p ys, xs = [.ref p] ∧ (SqL K H p ys ∨ SqT K H p ys) ∧ ∀ l, H l = none → Q (.ref l) (upd H l (.lst ys))
theorem kLst (h : X.K = K) : CallR X (.type "list") (rLstQ K) := by subst h; exact call_list_of
def rJoinQ (K : PySem.W.Frag) : V → List V → Hp → VK → Prop := fun x xs H Q => ∃ a p, ∃ ys : List Str, x = .str a ∧ xs = [.ref p] ∧ (SqL K H p (ys.map V.str) ∨ SqT K H p (ys.map V.str)) ∧ (ys.map (·.length)).sum + ys.length * a.length ≤ 16777216 ∧ Q (.str (Txt.join a ys)) H
theorem kJoin (h : X.K = K) : MtR X "str.join" (rJoinQ K) := by subst h; exact mt_join
theorem kSorted (h : X.K = K) : CallR X (.builtin "sorted") (rSorted K) := by subst h; exact cr_sorted
theorem kSortedS (h : X.K = K) : CallR X (.builtin "sorted") (rSortedS K) := by subst h; exact cr_sortedS
variable {tg a b e l : Expr} {ta tb tl : TE} {tas : TA} {rest : List Expr} {p pos tpos : Pos} {elts : List Expr} {kk : Nat}
theorem kpList (h : X.K = K) (hl : PE X l tl) : PI X tg l (iList K tl) := by subst h; exact pi_list hl
theorem kpTup (h : X.K = K) (hl : PE X l tl) : PI X tg l (iTup K tl) := by subst h; exact pi_tup hl
theorem kpEnum (h : X.K = K) (hg : Gl X "enumerate") (hm : X.mg "enumerate" = none) (ha : PA X [e] tas) (hs : starEach [e] X.env = [(false, eval e X.env)] := by rfl) :
    PI X (.Tuple elts kk tpos) (.Call (.Name "enumerate" p) [e] [] pos) (iEnum K tas) := by subst h; exact pi_enum hg hm ha hs
theorem keOr (h : X.K = K) (ha : PE X a ta) (hb : PE X (.BoolOp .Or (b :: rest) pos) tb) : PE X (.BoolOp .Or (a :: b :: rest) pos) (tOrT K ta tb) := by subst h; exact pe_orT ha hb
theorem keAnd (h : X.K = K) (ha : PE X a ta) (hb : PE X (.BoolOp .And (b :: rest) pos) tb) : PE X (.BoolOp .And (a :: b :: rest) pos) (tAndT K ta tb) := by subst h; exact pe_andT ha hb
theorem keNot (h : X.K = K) (ha : PE X a ta) : PE X (.UnaryOp .Not a pos) (tNotT K ta) := by subst h; exact pe_notT ha
def tTruQ (K : PySem.W.Frag) (ta : TE) : TT := fun σ H Q => ta σ H fun x H' => ∃ k, TruV K x H' k ∧ Q k H'
theorem ktTru (h : X.K = K) (ha : PE X a ta) (he : ∀ whole, isTrue a X.env whole = (do let v ← whole; standAt a.pos; holding [v] (truthy v)) := by intro _; rfl) : PT X a (tTruQ K ta) := by subst h; exact pt_truth ha he
theorem kgTup {es : List Expr} {k : Nat} {t : TGs} {n : Nat} {pos : Pos} (h : X.K = K) (hc : X.calm = true) (hp : PGs X es t) (hn : (assignEach es X.env).length = n) (hst : (assignEach es X.env).findIdx? (·.1) = none) : PG X (.Tuple es k pos) (gTup K n t) := by subst h; exact pg_tup hc hp hn hst
end

/-! ### prelude -/
/-- all that was tracked but d is as it was -/
def Sx (d : Addr) (H H' : Hp) : Prop := ∀ b o, b ≠ d → H b = some o → H' b = some o
theorem Sx.refl (d : Addr) (H : Hp) : Sx d H H := fun _ _ _ h => h
theorem Sx.trans {d : Addr} {H H1 H2 : Hp} (a : Sx d H H1) (b : Sx d H1 H2) : Sx d H H2 := fun c o n h => b c o n (a c o n h)
theorem Sx.of {d : Addr} {H H' : Hp} (a : Same H H') : Sx d H H' := fun b o _ h => a b o h
theorem Sx.seq {K : PySem.W.Frag} {d : Addr} {H H' : Hp} {a : Addr} {xs : List V} (e : Sx d H H') (n : a ≠ d) (h : SqL K H a xs) : SqL K H' a xs := by
  rcases h with (h | ⟨o, h⟩) | h
  · exact .inl (.inl (e _ _ n h))
  · exact .inl (.inr ⟨o, e _ _ n h⟩)
  · exact .inr h
theorem same_upd {H : Hp} {p : Addr} {o : HO} (h : H p = none) : Same H (upd H p o) := fun b x e => by
  rw [upd_ne (ne_of_none e h)]
  exact e
theorem same_back {H H' : Hp} {p : Addr} (e : Same H H') (h : H' p = none) : H p = none := e.free h
/-- the source of drawn numbers stands at d, having turned n times at most -/
def Dr (d : Addr) (n : Nat) (H : Hp) : Prop := ∃ left cell turns : Int,
  H d = some (.dK [(.inr ("left" : Str), .int left), (.inr ("cell" : Str), .int cell), (.inr ("turns" : Str), .int turns)]) ∧ 0 ≤ turns ∧ turns ≤ n
theorem Dr.mono {d : Addr} {n m : Nat} {H : Hp} (h : Dr d n H) (e : n ≤ m) : Dr d m H := by
  obtain ⟨a, b, c, h1, h2, h3⟩ := h
  exact ⟨a, b, c, h1, h2, by omega⟩
theorem Dr.same {d : Addr} {n : Nat} {H H' : Hp} (h : Dr d n H) (e : Same H H') : Dr d n H' := by
  obtain ⟨a, b, c, h1, h2, h3⟩ := h
  exact ⟨a, b, c, e _ _ h1, h2, h3⟩
theorem Dr.ne {d p : Addr} {n : Nat} {H : Hp} (h : Dr d n H) (e : H p = none) : p ≠ d := by
  obtain ⟨a, b, c, h1, _⟩ := h
  exact (ne_of_none h1 e).symm
theorem same_sx {d : Addr} {H0 Ha Hb Hc : Hp} (a : Same H0 Ha) (n : Ha d = none) (b : Same Ha Hb) (c : Sx d Hb Hc) : Same H0 Hc := fun x o h => c x o (ne_of_none (a x o h) n) (b x o (a x o h))
theorem Sx.upd {d : Addr} {H H' : Hp} {o : HO} (e : Sx d H H') : Sx d H (upd H' d o) := fun b x n h => by
  rw [upd_ne n]
  exact e b x n h

/-! ### prelude2 -/
open SX (S S_len S_cat S_inj)
theorem ifT {c : Bool} {A B : Prop} (hc : c = true) (h : A) : if c = true then A else B := by
  rw [if_pos hc]
  exact h
theorem ifF {c : Bool} {A B : Prop} (hc : c = false) (h : B) : if c = true then A else B := by
  rw [hc, if_neg Bool.false_ne_true]
  exact h
theorem if2 {c : Bool} {A B : Prop} (h1 : c = true → A) (h2 : c = false → B) : if c = true then A else B := by
  cases c with
  | true => exact ifT rfl (h1 rfl)
  | false => exact ifF rfl (h2 rfl)
theorem dS (a b : List Nat) : decide (V.str (S a) = V.str (S b)) = decide (a = b) := by
  by_cases e : a = b
  · subst e
    rw [decide_eq_true rfl, decide_eq_true rfl]
  · rw [decide_eq_false e, decide_eq_false fun z => e (S_inj (V.str.inj z))]
theorem dI (a b : Int) : decide (V.int a = V.int b) = decide (a = b) := by
  by_cases e : a = b
  · subst e
    rw [decide_eq_true rfl, decide_eq_true rfl]
  · rw [decide_eq_false e, decide_eq_false fun z => e (V.int.inj z)]
theorem dB (a b : Bool) : decide (V.bl a = V.bl b) = (a == b) := by
  cases a <;> cases b <;> rfl
theorem ndB (a : Bool) : (!decide (V.bl a = V.bl a)) = false := by
  rw [decide_eq_true rfl]
  rfl
/-- sizes -/
theorem szS {l : List Nat} (h : l.length ≤ 100000) : (S l).length ≤ sizeLine := by
  rw [S_len]
  exact Nat.le_trans h (by decide)
theorem sz {n : Nat} (h : n ≤ 100000) : n ≤ sizeLine := Nat.le_trans h (by decide)
theorem szlt {n : Nat} (h : n ≤ 100000) : n < sizeLine := Nat.lt_of_le_of_lt h (by decide)
theorem szadd {a b : List Nat} (h : a.length + b.length ≤ 100000) : (S a).length + (S b).length ≤ sizeLine := by
  rw [S_len, S_len]
  exact Nat.le_trans h (by decide)
/-! texts as lists of signs -/
theorem at_S {a b : List Nat} {i : Nat} (hb : b ≠ []) : StrLaws.At (S a) (S b) (S a).length i ↔ TL.pre b (a.drop i) = true := TL.at_iff (x := S a) (y := S b) hb i
theorem startswith_S (a b : List Nat) : Txt.startswith (S a) (S b) = b.isPrefixOf a := by
  have e : Txt.startswith (S a) (S b) = (decide (0 + b.length ≤ a.length) && (a.toArray.extract 0 (0 + b.length) == b.toArray)) := by
    have h1 : Txt.startswith (S a) (S b) = (decide (0 + (S b).length ≤ (S a).length) && ((S a).cps.extract 0 (0 + (S b).length) == (S b).cps)) := rfl
    rw [h1, S_len, S_len]
  rw [e]
  apply Bool.eq_iff_iff.mpr
  rw [List.isPrefixOf_iff_prefix, Bool.and_eq_true, decide_eq_true_eq, beq_iff_eq, Nat.zero_add]
  constructor
  · rintro ⟨h1, h2⟩
    have h3 : (a.toArray.extract 0 b.length).toList = b := by rw [h2]
    rw [Array.toList_extract] at h3
    have h4 : a.take b.length = b := by simpa [List.extract_eq_take_drop] using h3
    have h5 := List.take_append_drop b.length a
    rw [h4] at h5
    exact ⟨_, h5⟩
  · rintro ⟨t, rfl⟩
    refine ⟨by simp, ?_⟩
    apply Array.toList_inj.mp
    rw [Array.toList_extract]
    simp [List.extract_eq_take_drop]
theorem endswith_S (a b : List Nat) : Txt.endswith (S a) (S b) = b.isSuffixOf a := by
  have e : Txt.endswith (S a) (S b) = (decide (0 + b.length ≤ a.length) && (a.toArray.extract (a.length - b.length) (a.length - b.length + b.length) == b.toArray)) := by
    have h1 : Txt.endswith (S a) (S b) = (decide (0 + (S b).length ≤ (S a).length) && ((S a).cps.extract ((S a).length - (S b).length) ((S a).length - (S b).length + (S b).length) == (S b).cps)) := rfl
    rw [h1, S_len, S_len]
  rw [e]
  apply Bool.eq_iff_iff.mpr
  rw [List.isSuffixOf_iff_suffix, Bool.and_eq_true, decide_eq_true_eq, beq_iff_eq, Nat.zero_add]
  constructor
  · rintro ⟨h1, h2⟩
    have h3 : (a.toArray.extract (a.length - b.length) (a.length - b.length + b.length)).toList = b := by rw [h2]
    rw [Array.toList_extract] at h3
    have h4 : a.drop (a.length - b.length) = b := by
      have h5 : (a.drop (a.length - b.length)).take b.length = b := by simpa [List.extract_eq_take_drop] using h3
      rw [List.take_of_length_le (by rw [List.length_drop]; omega)] at h5
      exact h5
    have h5 := List.take_append_drop (a.length - b.length) a
    rw [h4] at h5
    exact ⟨_, h5⟩
  · rintro ⟨t, rfl⟩
    refine ⟨by simp, ?_⟩
    apply Array.toList_inj.mp
    rw [Array.toList_extract]
    have e2 : (t ++ b).length - b.length = t.length := by simp
    rw [e2]
    simp [List.extract_eq_take_drop]
/-- the cut of a list -/
def cut {α : Type} (l : List α) (lo hi : Option Int) : List α := (l.drop (HT.sIx l.length 0 lo)).take (HT.sIx l.length l.length hi - HT.sIx l.length 0 lo)
theorem cutS_S (l : List Nat) (lo hi : Option Int) : cutS (S l) lo hi = S (cut l lo hi) := by
  unfold cutS cut
  rw [S_len]
theorem cutV_map {α : Type} (l : List α) (f : α → V) (lo hi : Option Int) : cutV (l.map f) lo hi = (cut l lo hi).map f := by
  unfold cutV cut
  rw [List.length_map, List.map_take, List.map_drop]
theorem cut_len {α : Type} (l : List α) (lo hi : Option Int) : (cut l lo hi).length ≤ l.length := by
  unfold cut
  rw [List.length_take, List.length_drop]
  omega
/-- [:k] -/
theorem cut_to {α : Type} (l : List α) (k : Nat) : cut l none (some (k : Int)) = l.take k := by
  unfold cut
  rw [HT.sIx_none, HT.sIx_nat, List.drop_zero, Nat.sub_zero]
  by_cases h : k ≤ l.length
  · rw [Nat.min_eq_left h]
  · rw [Nat.min_eq_right (by omega), List.take_of_length_le (Nat.le_refl _), List.take_of_length_le (by omega)]
/-- [k:] -/
theorem cut_from {α : Type} (l : List α) (k : Nat) : cut l (some (k : Int)) none = l.drop k := by
  unfold cut
  rw [HT.sIx_none, HT.sIx_nat]
  by_cases h : k ≤ l.length
  · rw [Nat.min_eq_left h, List.take_of_length_le (by rw [List.length_drop]; exact Nat.le_refl _)]
  · rw [Nat.min_eq_right (by omega), List.drop_of_length_le (Nat.le_refl _), List.drop_of_length_le (by omega), List.take_nil]
/-- [:-1] -/
theorem cut_init {α : Type} (l : List α) : cut l none (some (-1)) = l.dropLast := by
  unfold cut
  rw [HT.sIx_none]
  have e : HT.sIx l.length l.length (some (-1)) = l.length - 1 := by
    have h1 : HT.sIx l.length l.length (some (-1)) = (if (-1 : Int) < 0 then ((-1 : Int) + (l.length : Int)).toNat else min (-1 : Int).toNat l.length) := rfl
    rw [h1, if_pos (by decide)]
    omega
  rw [e, List.drop_zero, Nat.sub_zero, List.dropLast_eq_take]
theorem atI_neg1 {α : Type} {l : List α} {v : α} (h : l.getLast? = some v) : atI l (-1) = some v := by
  have hne : l ≠ [] := fun z => by
    rw [z] at h
    cases h
  have e : l = l.dropLast ++ [v] := by
    have h1 := List.dropLast_concat_getLast hne
    have h2 : l.getLast hne = v := Option.some.inj ((List.getLast?_eq_some_getLast hne).symm.trans h)
    rw [h2] at h1
    exact h1.symm
  rw [e]
  exact atI_last _ v
theorem cut_t1 {α : Type} (l : List α) : cut l none (some 1) = l.take 1 := cut_to l 1
theorem cut_f1 {α : Type} (l : List α) : cut l (some 1) none = l.drop 1 := cut_from l 1
theorem and_false {c : Bool} {A B : Prop} (h : c = true → B → A) (k : B) : if c = true then A else B := by
  cases c with
  | true => exact ifT rfl (h rfl k)
  | false => exact ifF rfl k

/-! ### prelude3 -/
/-- a comprehension over a text's signs, one value each -/
theorem lc_str {z : List Nat} {f : Nat → V} {j : Nat} {te : TE} {vs : List Nat} {σ : L2.St} {H1 : Hp} {D : Addr} {Qd : Hp → Prop} (hD : H1 D = none) (hz : z.length ≤ 100000)
    (hw : ∀ x, wipe ((wipe σ vs).set j (some x)) vs = wipe σ vs)
    (hs : ∀ c ∈ z, ∀ H', Same H1 H' → ∀ Q : VK, (∀ H'', Same H' H'' → Q (f c) H'') → te ((wipe σ vs).set j (some (.str (S [c])))) H' Q)
    (hd : ∀ H', Same H1 H' → H' D = some (.lst (z.map f)) → Qd H') :
    ∃ W : Nat → Nat → Hp → Prop, (∃ m, W 0 m (upd H1 D (.lst []))) ∧ ∀ i m H, W i m H →
      ((Its (S z)).stop i H ∧ Qd H) ∨ ((Its (S z)).go i H ∧ ∃ Nx : Hp → Prop, (∀ H', Nx H' → ∃ m', m' < m ∧ W (i + 1) m' H') ∧ ∀ x H', (Its (S z)).yld i H x H' → gName j x (wipe σ vs) H' fun σ2 H2 => wipe σ2 vs = wipe σ vs ∧ tYes σ2 H2 fun b H3 =>
        if b = true then te σ2 H3 fun y H4 => ∃ acc, H4 D = some (.lst acc) ∧ acc.length < sizeLine ∧ Nx (upd H4 D (.lst (acc ++ [y]))) else Nx H3) := by
  have size : (S z).cps.size = z.length := by simp [S]
  refine lc_it (n := (S z).cps.size) walk_str (fun i H' => Same H1 H' ∧ H' D = some (.lst ((z.take i).map f))) ⟨same_upd hD, by rw [upd_same]; rfl⟩ (fun _ _ _ _ => trivial) (fun i x H H' hi hP hY => ?_) (fun H' hP => ?_)
  · obtain ⟨rfl, c, hc, rfl⟩ := hY
    have hc' : z[i]? = some c := by
      have : (S z).cps[i]? = z[i]? := by simp [S]
      rw [← this]
      exact hc
    refine ⟨hw _, ?_⟩
    refine hs c (List.mem_of_getElem? hc') _ hP.1 _ fun H'' s'' => ⟨_, s'' _ _ hP.2, szlt ?_, ?_, ?_⟩
    · rw [List.length_map, List.length_take]
      omega
    · intro b o e
      have nb : b ≠ D := ne_of_none e hD
      rw [upd_ne nb]
      exact s'' _ _ (hP.1 _ _ e)
    · rw [upd_same, List.take_add_one, hc', List.map_append]
      rfl
  · refine hd H' hP.1 ?_
    rw [hP.2, size, List.take_length]
/-- .. over a list, one value each -/
theorem lc_lst {K : PySem.W.Frag} {a : Addr} {xs : List V} {f : V → V} {j : Nat} {te : TE} {vs : List Nat} {σ : L2.St} {H1 : Hp} {D : Addr} {Qd : Hp → Prop} (hD : H1 D = none) (hz : xs.length ≤ 100000) (hx : SqL K H1 a xs)
    (hw : ∀ x, wipe ((wipe σ vs).set j (some x)) vs = wipe σ vs)
    (hs : ∀ c ∈ xs, ∀ H', Same H1 H' → ∀ Q : VK, (∀ H'', Same H' H'' → Q (f c) H'') → te ((wipe σ vs).set j (some c)) H' Q)
    (hd : ∀ H', Same H1 H' → H' D = some (.lst (xs.map f)) → Qd H') :
    ∃ W : Nat → Nat → Hp → Prop, (∃ m, W 0 m (upd H1 D (.lst []))) ∧ ∀ i m H, W i m H →
      ((Itl K a).stop i H ∧ Qd H) ∨ ((Itl K a).go i H ∧ ∃ Nx : Hp → Prop, (∀ H', Nx H' → ∃ m', m' < m ∧ W (i + 1) m' H') ∧ ∀ x H', (Itl K a).yld i H x H' → gName j x (wipe σ vs) H' fun σ2 H2 => wipe σ2 vs = wipe σ vs ∧ tYes σ2 H2 fun b H3 =>
        if b = true then te σ2 H3 fun y H4 => ∃ acc, H4 D = some (.lst acc) ∧ acc.length < sizeLine ∧ Nx (upd H4 D (.lst (acc ++ [y]))) else Nx H3) := by
  refine lc_it (n := xs.length) walk_list (fun i H' => Same H1 H' ∧ H' D = some (.lst ((xs.take i).map f))) ⟨same_upd hD, by rw [upd_same]; rfl⟩ (fun _ _ _ hP => hP.1.seq hx) (fun i x H H' hi hP hY => ?_) (fun H' hP => ?_)
  · obtain ⟨rfl, hc⟩ := hY
    refine ⟨hw _, ?_⟩
    refine hs x (List.mem_of_getElem? hc) _ hP.1 _ fun H'' s'' => ⟨_, s'' _ _ hP.2, szlt ?_, ?_, ?_⟩
    · rw [List.length_map, List.length_take]
      omega
    · intro b o e
      have nb : b ≠ D := ne_of_none e hD
      rw [upd_ne nb]
      exact s'' _ _ (hP.1 _ _ e)
    · rw [upd_same, List.take_add_one, hc, List.map_append]
      rfl
  · refine hd H' hP.1 ?_
    rw [hP.2, List.take_length]
theorem map_bl {α : Type} (l : List α) (p : α → Bool) : l.map (fun c => V.bl (p c)) = (l.map p).map V.bl := by
  rw [List.map_map]
  rfl
theorem all_map {α : Type} (l : List α) (p : α → Bool) : (l.map p).all id = l.all p := by
  rw [List.all_map]
  rfl
/-- isinstance(x, str) of a text -/
theorem isi_str {K : PySem.W.Frag} {x : Str} {H : Hp} {Q : VK} (q : Q (.bl true) H) : rIsi K [.str x, .ty "str"] H Q :=
  ⟨.str x, .ty "str", .type "str", .type "str", true, rfl, .ty _, .base (.str _), kit_ty (by decide +kernel), q⟩
/-- an item of a written list at a drawn place -/
theorem at_some {xs : List V} {i : Int} (h0 : 0 ≤ i) (h1 : i < xs.length) : ∃ v, atI xs i = some v ∧ v ∈ xs := by
  have h2 : i.toNat < xs.length := by omega
  refine ⟨xs[i.toNat], ?_, List.getElem_mem h2⟩
  exact at_of (by omega) (List.getElem?_eq_getElem h2)
theorem qb {Q : VK} {H : Hp} {a b : Bool} (e : a = b) (q : Q (.bl a) H) : Q (.bl b) H := e ▸ q
theorem qs {Q : VK} {H : Hp} {a b : List Nat} (e : a = b) (q : Q (.str (S a)) H) : Q (.str (S b)) H := e ▸ q
/-- no text: isinstance(x, str) is False -/
def NotStr (K : PySem.W.Frag) (H : Hp) (v : V) : Prop := ∃ T : String, TyX K H v (.type T) ∧ kitB T "str" = some false

/-! ### prelude4 -/
/-! lists of texts, compared -/
abbrev vS (l : List Nat) : V := .str (S l)
def dS1 (l : List Nat) : PyData := .str (S l)
def dL (ws : List (List Nat)) : PyData := .list (ws.map dS1)
theorem dpAll_S {K : PySem.W.Frag} {H : Hp} : ∀ ws : List (List Nat), DpAll K H (ws.map vS) (ws.map dS1)
  | [] => .nil
  | _ :: r => .cons (.str _) (dpAll_S r)
theorem dp_L {K : PySem.W.Frag} {H : Hp} {a : Addr} {ws : List (List Nat)} (h : SqL K H a (ws.map vS)) : Dp K H (.ref a) (dL ws) := .lst h (dpAll_S ws)
def Asc (l : List Nat) : Prop := ∀ c ∈ l, c < 128
theorem asc_ok {l : List Nat} (h : Asc l) : PyData.strOk (S l) = true := by
  show (l.toArray.all (· < 0x110000)) = true
  rw [← Array.all_toList, List.all_eq_true]
  exact fun c hc => decide_eq_true (Nat.lt_trans (h c hc) (by decide))
theorem canLay_S : ∀ ws : List (List Nat), (∀ w ∈ ws, Asc w) → PyData.canLayAll0 (ws.map dS1) = true
  | [], _ => rfl
  | w :: r, h => by
    rw [List.map_cons, PyData.canLayAll0, canLay_S r fun x hx => h x (List.mem_cons_of_mem _ hx)]
    have h1 : PyData.canLay0 (dS1 w) = true := by
      show PyData.canLay0 (.str (S w)) = true
      rw [PyData.canLay0]
      exact asc_ok (h w List.mem_cons_self)
    rw [h1]
    rfl
theorem depth_S : ∀ ws : List (List Nat), PyData.depthAll (ws.map dS1) ≤ 1
  | [] => by
    show 0 ≤ 1
    decide
  | w :: r => by
    rw [List.map_cons, PyData.depthAll]
    have h1 := depth_S r
    have h2 : PyData.depth (dS1 w) ≤ 1 := by
      show PyData.depth (.str (S w)) ≤ 1
      rw [PyData.depth]
      decide
    omega
theorem shaped_L {ws : List (List Nat)} (h : ∀ w ∈ ws, Asc w) : SeqAt.shaped (dL ws) = true := by
  unfold SeqAt.shaped dL
  rw [PyData.canLay0, canLay_S ws h, PyData.depth, decide_eq_true]
  · rfl
  · have := depth_S ws
    omega
theorem eqvAll_S : ∀ a b : List (List Nat), PyData.eqvAll (a.map dS1) (b.map dS1) = decide (a = b)
  | [], [] => rfl
  | [], _ :: _ => rfl
  | _ :: _, [] => rfl
  | x :: a, y :: b => by
    rw [List.map_cons, List.map_cons, PyData.eqvAll, eqvAll_S a b]
    have h1 : PyData.eqv (dS1 x) (dS1 y) = decide (x = y) := by
      show PyData.eqv (.str (S x)) (.str (S y)) = _
      rw [PyData.eqv]
      exact SX.S_beq_eq
    rw [h1]
    apply Bool.eq_iff_iff.mpr
    rw [Bool.and_eq_true, decide_eq_true_eq, decide_eq_true_eq, decide_eq_true_eq, List.cons.injEq]
theorem eqv_L (a b : List (List Nat)) : PyData.eqv (dL a) (dL b) = decide (a = b) := by
  unfold dL
  rw [PyData.eqv]
  exact eqvAll_S a b
/-- the parts of a text between single signs -/
def parts (c : Nat) (l : List Nat) : List (List Nat) := TL.spl [c] 0 [] l
theorem split_S {c : Nat} (hc : c < 256) (l : List Nat) : (Txt.split (S l) (S [c])).map V.str = (parts c l).map vS := by
  rw [SX.split_S (a := l) (b := [c]) (by simp) (by simpa using hc), List.map_map]
  rfl
theorem spl_acc (c : Nat) : ∀ (l acc : List Nat), ∃ p r, TL.spl [c] 0 acc l = (acc ++ p) :: r ∧ TL.spl [c] 0 [] l = p :: r
  | [], acc => ⟨[], [], by rw [TL.spl_nil, List.append_nil], by rw [TL.spl_nil]⟩
  | x :: l, acc => by
    by_cases h : TL.pre [c] (x :: l) = true
    · exact ⟨[], TL.spl [c] ([c].length - 1) [] l, by rw [TL.spl_hit h, List.append_nil], by rw [TL.spl_hit h]⟩
    · have h' : TL.pre [c] (x :: l) = false := by simpa using h
      obtain ⟨p, r, e1, e2⟩ := spl_acc c l (acc ++ [x])
      obtain ⟨p', r', e3, e4⟩ := spl_acc c l ([] ++ [x])
      rw [e2] at e4
      cases e4
      exact ⟨x :: p, r, by rw [TL.spl_miss h', e1]; simp, by rw [TL.spl_miss h', e3]; simp⟩
theorem parts_nil (c : Nat) : parts c [] = [[]] := TL.spl_nil _ _ _
theorem parts_hit (c : Nat) (l : List Nat) : parts c (c :: l) = [] :: parts c l := by
  unfold parts
  rw [TL.spl_hit (by simp [TL.pre])]
  rfl
theorem parts_miss {c x : Nat} (h : x ≠ c) (l : List Nat) : ∃ p r, parts c l = p :: r ∧ parts c (x :: l) = (x :: p) :: r := by
  obtain ⟨p, r, e1, e2⟩ := spl_acc c l ([] ++ [x])
  refine ⟨p, r, e2, ?_⟩
  unfold parts
  rw [TL.spl_miss (by simp [TL.pre, h]), e1]
  rfl
theorem parts_ne (c : Nat) (l : List Nat) : parts c l ≠ [] := by
  obtain ⟨p, r, _, e⟩ := spl_acc c l []
  unfold parts
  rw [e]
  exact List.cons_ne_nil _ _
theorem parts_len (c : Nat) : ∀ l : List Nat, (parts c l).length ≤ l.length + 1
  | [] => by rw [parts_nil]; simp
  | x :: l => by
    have ih := parts_len c l
    by_cases h : x = c
    · subst h
      rw [parts_hit]
      simp only [List.length_cons]
      omega
    · obtain ⟨p, r, e1, e2⟩ := parts_miss h l
      rw [e1] at ih
      rw [e2]
      simp only [List.length_cons] at ih ⊢
      omega
theorem parts_cut (c : Nat) : ∀ a b : List Nat, parts c (a ++ c :: b) = parts c a ++ parts c b
  | [], b => by
    rw [List.nil_append, parts_hit, parts_nil]
    rfl
  | x :: a, b => by
    rw [List.cons_append]
    by_cases h : x = c
    · subst h
      rw [parts_hit, parts_hit, parts_cut]
      rfl
    · obtain ⟨p, r, e1, e2⟩ := parts_miss h a
      obtain ⟨p', r', e3, e4⟩ := parts_miss h (a ++ c :: b)
      rw [parts_cut, e1] at e3
      rw [e4, e2]
      cases e3
      rfl
theorem parts_one {c : Nat} : ∀ {l : List Nat}, c ∉ l → parts c l = [l]
  | [], _ => parts_nil c
  | x :: l, h => by
    rw [List.mem_cons, not_or] at h
    obtain ⟨p, r, e1, e2⟩ := parts_miss (fun z => h.1 z.symm) l
    rw [parts_one h.2] at e1
    cases e1
    exact e2
/-- glued again -/
theorem join_parts (c : Nat) : ∀ l : List Nat, TL.joinL [c] (parts c l) = l
  | [] => by
    rw [parts_nil]
    rfl
  | x :: l => by
    have ih := join_parts c l
    by_cases h : x = c
    · subst h
      rw [parts_hit]
      obtain ⟨p, r, e⟩ : ∃ p r, parts x l = p :: r := by
        cases e : parts x l with
        | nil => exact absurd e (parts_ne x l)
        | cons p r => exact ⟨p, r, rfl⟩
      rw [e] at ih ⊢
      show [] ++ ([x] ++ TL.joinL [x] (p :: r)) = x :: l
      rw [ih]
      rfl
    · obtain ⟨p, r, e1, e2⟩ := parts_miss h l
      rw [e1] at ih
      rw [e2]
      cases r with
      | nil =>
        have ih : p = l := ih
        rw [← ih]
        rfl
      | cons q r =>
        have ih : p ++ ([c] ++ TL.joinL [c] (q :: r)) = l := ih
        rw [← ih]
        rfl
theorem join_S (y : List Nat) (ws : List (List Nat)) : Txt.join (S y) (ws.map S) = S (TL.joinL y ws) := by
  rw [TL.join_eq]
  refine TL.ext_tl ?_
  rw [TL.tl_join, SX.map_S_tl]
theorem parts_asc (c : Nat) : ∀ {l : List Nat}, Asc l → ∀ w ∈ parts c l, Asc w
  | [], h, w, hw => by
    rw [parts_nil] at hw
    rcases List.mem_cons.mp hw with rfl | hw
    · exact h
    · cases hw
  | x :: l, h, w, hw => by
    have hl : Asc l := fun c hc => h c (List.mem_cons_of_mem _ hc)
    by_cases e : x = c
    · subst e
      rw [parts_hit] at hw
      rcases List.mem_cons.mp hw with rfl | hw
      · exact fun _ z => nomatch z
      · exact parts_asc x hl w hw
    · obtain ⟨p, r, e1, e2⟩ := parts_miss e l
      have ih := parts_asc c hl
      rw [e1] at ih
      rw [e2] at hw
      rcases List.mem_cons.mp hw with rfl | hw
      · intro z hz
        rcases List.mem_cons.mp hz with rfl | hz
        · exact h _ List.mem_cons_self
        · exact ih p List.mem_cons_self z hz
      · exact ih w (List.mem_cons_of_mem _ hw)
theorem empty_S : ("" : Str) = S [] := by decide +kernel
theorem join_size (c : Nat) : ∀ ws : List (List Nat), (ws.map (·.length)).sum + ws.length ≤ (TL.joinL [c] ws).length + 1
  | [] => by simp
  | [x] => by
    show [x.length].sum + 1 ≤ x.length + 1
    simp
  | x :: y :: r => by
    have ih := join_size c (y :: r)
    show (x.length :: (y :: r).map (·.length)).sum + ((y :: r).length + 1) ≤ (x ++ ([c] ++ TL.joinL [c] (y :: r))).length + 1
    rw [List.sum_cons, List.length_append, List.length_append, List.length_singleton]
    omega
theorem size_join {c : Nat} {ws : List (List Nat)} (h : (TL.joinL [c] ws).length ≤ 1000000) : ((ws.map S).map (·.length)).sum + (ws.map S).length * (S [c]).length ≤ 16777216 := by
  have := join_size c ws
  rw [SX.lens, List.length_map, S_len, List.length_singleton, Nat.mul_one]
  omega
theorem join_app (c : Nat) : ∀ {A B : List (List Nat)}, A ≠ [] → B ≠ [] → TL.joinL [c] (A ++ B) = TL.joinL [c] A ++ c :: TL.joinL [c] B
  | [], _, h, _ => absurd rfl h
  | [x], [], _, h => absurd rfl h
  | [x], y :: B, _, _ => rfl
  | x :: y :: A, B, _, h => by
    have ih := join_app c (A := y :: A) (B := B) (List.cons_ne_nil _ _) h
    show x ++ ([c] ++ TL.joinL [c] (y :: A ++ B)) = x ++ ([c] ++ TL.joinL [c] (y :: A)) ++ c :: TL.joinL [c] B
    rw [ih]
    simp
theorem parts_cut_iff {c : Nat} (p u : List Nat) : (∃ t, p = u ++ c :: t) ↔ (parts c p).length > (parts c u).length ∧ (parts c p).take (parts c u).length = parts c u := by
  constructor
  · rintro ⟨t, rfl⟩
    rw [parts_cut, List.length_append, List.take_left']
    · have : 1 ≤ (parts c t).length := by
        cases e : parts c t with
        | nil => exact absurd e (parts_ne c t)
        | cons x r => simp
      exact ⟨by omega, rfl⟩
    · rfl
  · rintro ⟨h1, h2⟩
    have h3 : (parts c p).drop (parts c u).length ≠ [] := fun z => by
      have := congrArg List.length z
      rw [List.length_drop, List.length_nil] at this
      omega
    refine ⟨TL.joinL [c] ((parts c p).drop (parts c u).length), ?_⟩
    have h4 := join_app c (parts_ne c u) h3
    have h5 : parts c u ++ (parts c p).drop (parts c u).length = parts c p := by
      conv => rhs; rw [← List.take_append_drop (parts c u).length (parts c p)]
      rw [h2]
    rw [h5, join_parts, join_parts] at h4
    exact h4

/-! ### prelude5 -/
/-- a comprehension over a list, with a test -/
theorem lc_fil {K : PySem.W.Frag} {a : Addr} {xs : List V} {b : V → Bool} {j : Nat} {tt : TT} {te : TE} {vs : List Nat} {σ : L2.St} {H1 : Hp} {D : Addr} {Qd : Hp → Prop} (hD : H1 D = none) (hz : xs.length ≤ 100000) (hx : SqL K H1 a xs)
    (hw : ∀ x, wipe ((wipe σ vs).set j (some x)) vs = wipe σ vs)
    (hs : ∀ c ∈ xs, ∀ H', Same H1 H' → ∀ Q : Bool → Hp → Prop, (∀ H'', Same H' H'' → Q (b c) H'') → tt ((wipe σ vs).set j (some c)) H' Q)
    (he : ∀ c ∈ xs, ∀ H', Same H1 H' → ∀ Q : VK, Q c H' → te ((wipe σ vs).set j (some c)) H' Q)
    (hd : ∀ H', Same H1 H' → H' D = some (.lst (xs.filter b)) → Qd H') :
    ∃ W : Nat → Nat → Hp → Prop, (∃ m, W 0 m (upd H1 D (.lst []))) ∧ ∀ i m H, W i m H →
      ((Itl K a).stop i H ∧ Qd H) ∨ ((Itl K a).go i H ∧ ∃ Nx : Hp → Prop, (∀ H', Nx H' → ∃ m', m' < m ∧ W (i + 1) m' H') ∧ ∀ x H', (Itl K a).yld i H x H' → gName j x (wipe σ vs) H' fun σ2 H2 => wipe σ2 vs = wipe σ vs ∧ tt σ2 H2 fun b H3 =>
        if b = true then te σ2 H3 fun y H4 => ∃ acc, H4 D = some (.lst acc) ∧ acc.length < sizeLine ∧ Nx (upd H4 D (.lst (acc ++ [y]))) else Nx H3) := by
  refine lc_it (n := xs.length) walk_list (fun i H' => Same H1 H' ∧ H' D = some (.lst ((xs.take i).filter b))) ⟨same_upd hD, by rw [upd_same]; rfl⟩ (fun _ _ _ hP => hP.1.seq hx) (fun i x H H' hi hP hY => ?_) (fun H' hP => ?_)
  · obtain ⟨rfl, hc⟩ := hY
    have mx := List.mem_of_getElem? hc
    refine ⟨hw _, ?_⟩
    refine hs x mx _ hP.1 _ fun H'' s'' => ?_
    have e1 : xs.take (i + 1) = xs.take i ++ [x] := by rw [List.take_add_one, hc]; rfl
    refine if2 (fun hb => ?_) (fun hb => ?_)
    · refine he x mx H'' (hP.1.trans s'') _ ⟨_, s'' _ _ hP.2, szlt ?_, ?_, ?_⟩
      · have := List.length_filter_le b (xs.take i)
        rw [List.length_take] at this
        omega
      · intro c o e
        rw [upd_ne (ne_of_none e hD)]
        exact s'' _ _ (hP.1 _ _ e)
      · rw [upd_same, e1, List.filter_append, List.filter_cons_of_pos hb]
        rfl
    · refine ⟨hP.1.trans s'', ?_⟩
      rw [s'' _ _ hP.2, e1, List.filter_append, List.filter_cons_of_neg (by rw [hb]; exact Bool.false_ne_true), List.filter_nil, List.append_nil]
  · refine hd H' hP.1 ?_
    rw [hP.2, List.take_length]
theorem putK_len {κ : Type} [DecidableEq κ] (kvs : List (κ × V)) (k : κ) (v : V) : (putK kvs k v).length ≤ kvs.length + 1 := by
  unfold putK
  by_cases a : (kvs.any fun kv => decide (kv.1 = k)) = true
  · rw [if_pos a, List.length_map]
    omega
  · rw [if_neg a, List.length_append]
    exact Nat.le_refl _
theorem dgetT {H : Hp} {a b : Addr} {kvs : List (List Key × V)} {k : List Key} {v : V} (e : H a = some (.dT kvs)) (eb : H b = some (.tup (k.map kV))) (g : valV kvs k = some v) : DGet H a (.ref b) (some v) := g ▸ DGet.t e eb

/-! ### prelude6 -/
/-! lists of numbers -/
def nV (l : List Nat) : List V := l.map fun n => .int (n : Nat)
theorem nV_app (a b : List Nat) : nV (a ++ b) = nV a ++ nV b := List.map_append
theorem nV_len (a : List Nat) : (nV a).length = a.length := List.length_map _
def zs (l : List Nat) : List Int := l.map fun n : Nat => (n : Int)
theorem nV_zs (l : List Nat) : nV l = (zs l).map V.int := by
  unfold nV zs
  rw [List.map_map]
  rfl
def dN1 (n : Nat) : PyData := .int n
def dN (l : List Nat) : PyData := .list (l.map dN1)
theorem dpAll_N {K : PySem.W.Frag} {H : Hp} : ∀ l : List Nat, DpAll K H (nV l) (l.map dN1)
  | [] => .nil
  | n :: r => .cons (.int (n : Nat)) (dpAll_N r)
theorem dp_N {K : PySem.W.Frag} {H : Hp} {a : Addr} {l : List Nat} (h : SqL K H a (nV l)) : Dp K H (.ref a) (dN l) := .lst h (dpAll_N l)
theorem canLay_N : ∀ l : List Nat, PyData.canLayAll0 (l.map dN1) = true
  | [] => rfl
  | n :: r => by
    rw [List.map_cons, PyData.canLayAll0, canLay_N r]
    have h1 : PyData.canLay0 (dN1 n) = true := by
      show PyData.canLay0 (.int n) = true
      rw [PyData.canLay0]
    rw [h1]
    rfl
theorem depth_N : ∀ l : List Nat, PyData.depthAll (l.map dN1) ≤ 1
  | [] => by
    show 0 ≤ 1
    decide
  | n :: r => by
    rw [List.map_cons, PyData.depthAll]
    have h1 := depth_N r
    have h2 : PyData.depth (dN1 n) ≤ 1 := by
      show PyData.depth (.int n) ≤ 1
      rw [PyData.depth]
      decide
    omega
theorem shaped_N (l : List Nat) : SeqAt.shaped (dN l) = true := by
  unfold SeqAt.shaped dN
  rw [PyData.canLay0, canLay_N l, PyData.depth, decide_eq_true]
  · rfl
  · have := depth_N l
    omega
theorem eqvAll_N : ∀ a b : List Nat, PyData.eqvAll (a.map dN1) (b.map dN1) = decide (a = b)
  | [], [] => rfl
  | [], _ :: _ => rfl
  | _ :: _, [] => rfl
  | x :: a, y :: b => by
    rw [List.map_cons, List.map_cons, PyData.eqvAll, eqvAll_N a b]
    have h1 : PyData.eqv (dN1 x) (dN1 y) = decide (x = y) := by
      show PyData.eqv (.int x) (.int y) = _
      rw [PyData.eqv]
      apply Bool.eq_iff_iff.mpr
      rw [decide_eq_true_eq]
      constructor
      · intro h
        have h' : (x : Int) = (y : Int) := by simpa using h
        exact Int.ofNat.inj h'
      · intro h
        rw [h]
        simp
    rw [h1]
    apply Bool.eq_iff_iff.mpr
    rw [Bool.and_eq_true, decide_eq_true_eq, decide_eq_true_eq, decide_eq_true_eq, List.cons.injEq]
theorem eqv_N (a b : List Nat) : PyData.eqv (dN a) (dN b) = decide (a = b) := by
  unfold dN
  rw [PyData.eqv]
  exact eqvAll_N a b
def maxL (l : List Nat) : Nat := l.foldr max 0
theorem maxL_le : ∀ {l : List Nat} {x : Nat}, x ∈ l → x ≤ maxL l
  | y :: r, x, h => by
    show x ≤ max y (maxL r)
    rcases List.mem_cons.mp h with rfl | h
    · omega
    · have := maxL_le h
      omega
theorem maxL_mem : ∀ {l : List Nat}, l ≠ [] → maxL l ∈ l
  | [y], _ => by
    show max y 0 ∈ [y]
    simp
  | y :: z :: r, _ => by
    have ih := maxL_mem (l := z :: r) (List.cons_ne_nil _ _)
    show max y (maxL (z :: r)) ∈ y :: z :: r
    by_cases h : maxL (z :: r) ≤ y
    · rw [Nat.max_eq_left h]
      exact List.mem_cons_self
    · rw [Nat.max_eq_right (by omega)]
      exact List.mem_cons_of_mem _ ih
theorem maxL_is {l : List Nat} {m : Int} (h1 : m ∈ zs l) (h2 : ∀ y ∈ zs l, y ≤ m) : m = (maxL l : Nat) := by
  obtain ⟨k, hk, rfl⟩ := List.mem_map.mp h1
  have a := maxL_le hk
  have b := h2 _ (List.mem_map.mpr ⟨maxL l, maxL_mem (fun z => by rw [z] at hk; cases hk), rfl⟩)
  omega
theorem join_drop_len (c : Nat) (ws : List (List Nat)) (k : Nat) : (TL.joinL [c] (ws.drop k)).length ≤ (TL.joinL [c] ws).length := by
  by_cases h1 : ws.take k = []
  · have e : ws.drop k = ws := by
      conv => rhs; rw [← List.take_append_drop k ws, h1]
      rfl
    rw [e]
    exact Nat.le_refl _
  · by_cases h2 : ws.drop k = []
    · rw [h2]
      exact Nat.zero_le _
    · have e := join_app c h1 h2
      rw [List.take_append_drop] at e
      rw [e, List.length_append, List.length_cons]
      omega
theorem count_S (c : Nat) (l : List Nat) : Txt.count (S l) (S [c]) = ((parts c l).length : Int) - 1 := by
  have e : Txt.count (S l) ⟨#[c]⟩ = PyProof.Rows.cnt c (S l).cps.toList := PyProof.Rows.count_is _ _
  have e1 : Txt.count (S l) (S [c]) = PyProof.Rows.cnt c l := e
  rw [e1]
  have step : ∀ l : List Nat, PyProof.Rows.cnt c l = ((parts c l).length : Int) - 1 := by
    intro l
    induction l with
    | nil =>
      rw [parts_nil]
      rfl
    | cons x r ih =>
      rw [PyProof.Rows.cnt_cons, ih]
      by_cases h : x = c
      · subst h
        rw [parts_hit, if_pos rfl, List.length_cons]
        omega
      · obtain ⟨p, q, e1, e2⟩ := parts_miss h r
        rw [e1, e2, if_neg h]
        simp only [List.length_cons]
        omega
  exact step l
/-- [-k:] -/
theorem cut_neg {α : Type} (l : List α) {k : Nat} (h0 : 1 ≤ k) (h : k ≤ l.length) : cut l (some (-(k : Int))) none = l.drop (l.length - k) := by
  unfold cut
  rw [HT.sIx_none]
  have e : HT.sIx l.length 0 (some (-(k : Int))) = l.length - k := by
    have h1 : HT.sIx l.length 0 (some (-(k : Int))) = (if (-(k : Int)) < 0 then (-(k : Int) + (l.length : Int)).toNat else min (-(k : Int)).toNat l.length) := rfl
    rw [h1, if_pos (by omega)]
    omega
  rw [e, List.take_of_length_le (by rw [List.length_drop]; omega)]

/-! ### zipS -/
/-! zip(xs, ys, strict=True) over two lists of one length -/
namespace ZS
section
variable {prog : Program} {w : World} {A : Around} {E : Value → Shared → Prop} {s : Shared}
abbrev Zs (h : Heap) (z TI TO : Addr) (f : Value) : Prop :=
  h.get? z = some { cls := .type "zip", dict := none, data := .fields #[f, .bool false, .bool true, .ref TI, .ref TO], slots := #[] }
theorem noe_item {it l : Addr} {i : Nat} {items : Array Value} {x : Value} {Q : Option Value → Shared → Prop} (a1 : s.heap.IsListIter it l i) (a2 : s.heap.IsList l items) (a3 : items[i]? = some x)
    (q : ∀ h', h'.IsListIter it l (i + 1) → Heap.SameBut it s.heap h' → Q (some x) { s with heap := h' }) : wpAny (model prog w) A (Builtin.SmallTypes.nextOrEnd (.ref it)) Q E s := by
  unfold Builtin.SmallTypes.nextOrEnd
  exact wpAny_bind (wpAny_attempt (wpAny_nextOf_list_item a1 a2 a3 fun h' b1 b2 => wpAny_pure (q h' b1 b2)))
theorem noe_end {it l : Addr} {i : Nat} {items : Array Value} {Q : Option Value → Shared → Prop} (hh : A.handled = none) (a1 : s.heap.IsListIter it l i) (a2 : s.heap.IsList l items) (a3 : items[i]? = none)
    (q : ∀ h', Heap.ExtBut it s.heap h' → Q none { s with heap := h' }) : wpAny (model prog w) A (Builtin.SmallTypes.nextOrEnd (.ref it)) Q E s := by
  unfold Builtin.SmallTypes.nextOrEnd
  refine wpAny_bind (wpAny_attempt (wpAny_nextOf_list_end hh a1 a2 a3 fun h' e b1 b2 => ?_))
  obtain ⟨o, c1, c2⟩ := b2
  refine wpAny_bind (wpAny_isInstance (T := "StopIteration") (b := true) ⟨o, c1, c2⟩ isSubtype_stop ?_)
  exact wpAny_pure (q h' b1)
variable {z TI TO i1 i2 l1 l2 : Addr} {k : Nat} {xs ys : Array Value} {x y a b : Value}
theorem zs_item {Q : Value → Shared → Prop} (D : ZipApart z TI TO i1 i2 l1 l2)
    (cz : Zs s.heap z TI TO .none) (cI : IsPair s.heap TI (.ref i1) (.ref i2)) (cO : IsPair s.heap TO a b)
    (e1 : s.heap.IsListIter i1 l1 k) (e2 : s.heap.IsListIter i2 l2 k) (d1 : s.heap.IsList l1 xs) (d2 : s.heap.IsList l2 ys) (gx : xs[k]? = some x) (gy : ys[k]? = some y)
    (q : ∀ h', Zs h' z TI TO (rawInt s.heap.objs.size) → IsPair h' TO x y → h'.IsListIter i1 l1 (k + 1) → h'.IsListIter i2 l2 (k + 1) → IsPair h' s.heap.objs.size x y → h'.objs.size = s.heap.objs.size + 1 →
      (∀ c o, c ≠ z → c ≠ TO → c ≠ i1 → c ≠ i2 → s.heap.get? c = some o → h'.get? c = some o) → Q (.ref s.heap.objs.size) { s with heap := h' }) :
    wpAny (model prog w) A (Builtin.«zip.__next__» ⟨[.ref z], []⟩) (fun fin s' => ∃ v, fin = .done (.ret v) ∧ Q v s') E s := by
  show wpAny _ _ (field (.ref z) 2 >>= _) _ _ _
  refine wpAny_bind (wpAny_field cz rfl (x := .bool true) rfl ?_)
  show wpAny _ _ (field (.ref z) 3 >>= _) _ _ _
  refine wpAny_bind (wpAny_field cz rfl (x := .ref TI) rfl ?_)
  refine wpAny_bind (wpAny_seqItems cI rfl ?_)
  show wpAny _ _ (Builtin.SmallTypes.ownedTupleIsFree (.ref z) >>= _) _ _ _
  refine wpAny_bind ?_
  unfold Builtin.SmallTypes.ownedTupleIsFree
  refine wpAny_bind (wpAny_field cz rfl (x := .none) rfl (wpAny_pure ?_))
  simp only [if_true]
  refine wpAny_bind (wpAny_rule ?_)
  refine wpAny_bind (wpAny_field cz rfl (x := .ref TO) rfl ?_)
  refine wpAny_bind (wpAny_setField_rec cz (by simp) fun ha ca sa => ?_)
  replace ca : Zs ha z TI TO .ellipsis := ca
  refine wpAny_bind ?_
  simp only [List.zipIdx_cons, List.zipIdx_nil, List.forIn_cons, List.forIn_nil]
  refine wpAny_bind (wpAny_bind (wpAny_onRaise ?_))
  show wpAny _ _ (Builtin.SmallTypes.nextOrEnd (.ref i1)) _ _ _
  refine noe_item (e1.extBut sa.extBut D.i1z) (d1.extBut sa.extBut D.l1z) gx fun hb eb sb => ?_
  have ob : IsPair hb TO a b := sb.extBut _ _ D.TOi1 (sa.extBut _ _ D.TOz cO)
  refine wpAny_bind (wpAny_seqItems ob rfl ?_)
  refine wpAny_bind (wpAny_updateSeq_pair ob fun hc oc sc => ?_)
  replace oc : IsPair hc TO x b := oc
  refine wpAny_bind (wpAny_letGo (wpAny_pure ?_))
  refine wpAny_bind (wpAny_bind (wpAny_onRaise ?_))
  show wpAny _ _ (Builtin.SmallTypes.nextOrEnd (.ref i2)) _ _ _
  refine noe_item (((e2.extBut sa.extBut D.i2z).extBut sb.extBut D.i12.symm).extBut sc.extBut D.TOi2.symm)
    (((d2.extBut sa.extBut D.l2z).extBut sb.extBut D.l2i1).extBut sc.extBut D.l2TO) gy fun hd ed sd => ?_
  have od : IsPair hd TO x b := sd.extBut _ _ D.TOi2 oc
  refine wpAny_bind (wpAny_seqItems od rfl ?_)
  refine wpAny_bind (wpAny_updateSeq_pair od fun he oe se => ?_)
  replace oe : IsPair he TO x y := oe
  refine wpAny_bind (wpAny_letGo (wpAny_pure (wpAny_pure ?_)))
  refine wpAny_bind (wpAny_seqItems oe rfl ?_)
  refine wpAny_bind (wpAny_newTuple ?_)
  have ez : he.objs.size = s.heap.objs.size := by rw [se.1, sd.1, sc.1, sb.1, sa.1]
  have ce : Zs he z TI TO .ellipsis := se.extBut _ _ D.TOz.symm (sd.extBut _ _ D.i2z.symm (sc.extBut _ _ D.TOz.symm (sb.extBut _ _ D.i1z.symm ca)))
  have ke : ∀ c o, c ≠ z → c ≠ TO → c ≠ i1 → c ≠ i2 → s.heap.get? c = some o → he.get? c = some o := fun c o c1 c2 c3 c4 e =>
    se.extBut _ _ c2 (sd.extBut _ _ c4 (sc.extBut _ _ c2 (sb.extBut _ _ c3 (sa.extBut _ _ c1 e))))
  have ee1 : he.IsListIter i1 l1 (k + 1) := ((eb.extBut sc.extBut D.TOi1.symm).extBut sd.extBut D.i12).extBut se.extBut D.TOi1.symm
  have ee2 : he.IsListIter i2 l2 (k + 1) := ed.extBut se.extBut D.TOi2.symm
  have lz : z < he.objs.size := Heap.lt_size ce
  show wpAny _ _ (Builtin.SmallTypes.ownedTupleHandOut (.ref z) (.ref he.objs.size) >>= _) _ _ _
  refine wpAny_bind ?_
  unfold Builtin.SmallTypes.ownedTupleHandOut
  have cf : Zs (he.push { cls := .type "tuple", data := .seq #[x, y] }) z TI TO .ellipsis := Heap.get?_push_of_some _ ce
  refine wpAny_bind (wpAny_setField_rec cf (by simp) fun hg cg sg => ?_)
  replace cg : Zs hg z TI TO (rawInt he.objs.size) := cg
  refine wpAny_setField_rec cg (by simp) fun hi ci si => ?_
  replace ci : Zs hi z TI TO (rawInt he.objs.size) := ci
  have up : ∀ c o, c ≠ z → he.get? c = some o → hi.get? c = some o := fun c o c1 e => si.extBut _ _ c1 (sg.extBut _ _ c1 (Heap.get?_push_of_some _ e))
  have ti : IsPair hi he.objs.size x y := si.extBut _ _ (Nat.ne_of_gt lz) (sg.extBut _ _ (Nat.ne_of_gt lz) (Heap.get?_push_size _ rfl))
  have zi : hi.objs.size = he.objs.size + 1 := by rw [si.1, sg.1, Heap.size_push]
  rw [ez] at ci ti zi
  refine wpAny_pure ⟨_, rfl, ?_⟩
  show Q (.ref he.objs.size) _
  rw [ez]
  exact q hi ci (up _ _ D.TOz oe) (ee1.at fun o e => up _ o D.i1z e) (ee2.at fun o e => up _ o D.i2z e) ti zi fun c o c1 c2 c3 c4 e => up c o c1 (ke c o c1 c2 c3 c4 e)
theorem zs_end {Q : Fin → Shared → Prop} (hh : A.handled = none) (D : ZipApart z TI TO i1 i2 l1 l2)
    (cz : Zs s.heap z TI TO .none) (cI : IsPair s.heap TI (.ref i1) (.ref i2)) (cO : IsPair s.heap TO a b)
    (e1 : s.heap.IsListIter i1 l1 k) (e2 : s.heap.IsListIter i2 l2 k) (d1 : s.heap.IsList l1 xs) (d2 : s.heap.IsList l2 ys) (gx : xs[k]? = none) (gy : ys[k]? = none)
    (q : ∀ h' e, (∀ c o, c ≠ z → c ≠ TO → c ≠ i1 → c ≠ i2 → s.heap.get? c = some o → h'.get? c = some o) → (∃ o, h'.get? e = some o ∧ o.cls = .type "StopIteration") → E (.ref e) { s with heap := h' }) :
    wpAny (model prog w) A (Builtin.«zip.__next__» ⟨[.ref z], []⟩) Q E s := by
  show wpAny _ _ (field (.ref z) 2 >>= _) _ _ _
  refine wpAny_bind (wpAny_field cz rfl (x := .bool true) rfl ?_)
  show wpAny _ _ (field (.ref z) 3 >>= _) _ _ _
  refine wpAny_bind (wpAny_field cz rfl (x := .ref TI) rfl ?_)
  refine wpAny_bind (wpAny_seqItems cI rfl ?_)
  show wpAny _ _ (Builtin.SmallTypes.ownedTupleIsFree (.ref z) >>= _) _ _ _
  refine wpAny_bind ?_
  unfold Builtin.SmallTypes.ownedTupleIsFree
  refine wpAny_bind (wpAny_field cz rfl (x := .none) rfl (wpAny_pure ?_))
  simp only [if_true]
  refine wpAny_bind (wpAny_rule ?_)
  refine wpAny_bind (wpAny_field cz rfl (x := .ref TO) rfl ?_)
  refine wpAny_bind (wpAny_setField_rec cz (by simp) fun ha ca sa => ?_)
  replace ca : Zs ha z TI TO .ellipsis := ca
  refine wpAny_bind ?_
  simp only [List.zipIdx_cons, List.zipIdx_nil, List.forIn_cons, List.forIn_nil]
  refine wpAny_bind (wpAny_bind (wpAny_onRaise ?_))
  show wpAny _ _ (Builtin.SmallTypes.nextOrEnd (.ref i1)) _ _ _
  refine noe_end hh (e1.extBut sa.extBut D.i1z) (d1.extBut sa.extBut D.l1z) gx fun hb sb => ?_
  have cb : Zs hb z TI TO .ellipsis := sb _ _ D.i1z.symm ca
  refine wpAny_bind (wpAny_setField_rec cb (by simp) fun hc _ sc => ?_)
  refine wpAny_bind ?_
  show wpAny _ _ (forIn (List.zipIdx (List.drop 1 [Value.ref i1, Value.ref i2]) 1) _ _ >>= _) _ _ _
  simp only [List.drop_succ_cons, List.drop_zero, List.zipIdx_cons, List.zipIdx_nil, List.forIn_cons, List.forIn_nil]
  refine wpAny_bind (wpAny_bind ?_)
  refine wpAny_bind (noe_end hh ((e2.extBut sa.extBut D.i2z).at fun o e => sc.extBut _ _ D.i2z (sb _ _ D.i12.symm e)) ((d2.extBut sa.extBut D.l2z).at fun o e => sc.extBut _ _ D.l2z (sb _ _ D.l2i1 e)) gy fun hd sd => ?_)
  refine wpAny_pure (wpAny_pure ?_)
  refine wpAny_bind (wpAny_rule ?_)
  unfold Builtin.SmallTypes.stopIteration
  refine wpAny_bind ?_
  simp only [newExc, newTuple]
  refine wpAny_bind (wpAny_newObj_type ?_ (by size_fits))
  refine wpAny_bind (m := firstArgMember _ _) (wpAny_of_eq (a := Value.none) (by first | rfl | (simp only [firstArgMember]; rfl)) ?_)
  refine wpAny_newObj_type ?_ (by size_fits)
  simp only [raiseNew]
  refine wpAny_bind (wpAny_handled ?_)
  first | rw [show A.in1.handled = none from hh] | rw [hh]
  refine wpAny_bind (wpAny_pure (wpAny_throw ?_))
  exact q _ _ (fun c o c1 _ c3 c4 e => Heap.get?_push_of_some _ (Heap.get?_push_of_some _ (sd _ _ c4 (sc.extBut _ _ c1 (sb _ _ c3 (sa.extBut _ _ c1 e)))))) ⟨_, Heap.get?_push_size _ rfl, rfl⟩
theorem next_item {Q : Option Value → Shared → Prop} (D : ZipApart z TI TO i1 i2 l1 l2)
    (cz : Zs s.heap z TI TO .none) (cI : IsPair s.heap TI (.ref i1) (.ref i2)) (cO : IsPair s.heap TO a b)
    (e1 : s.heap.IsListIter i1 l1 k) (e2 : s.heap.IsListIter i2 l2 k) (d1 : s.heap.IsList l1 xs) (d2 : s.heap.IsList l2 ys) (gx : xs[k]? = some x) (gy : ys[k]? = some y)
    (q : ∀ h', Zs h' z TI TO (rawInt s.heap.objs.size) → IsPair h' TO x y → h'.IsListIter i1 l1 (k + 1) → h'.IsListIter i2 l2 (k + 1) → IsPair h' s.heap.objs.size x y → h'.objs.size = s.heap.objs.size + 1 →
      (∀ c o, c ≠ z → c ≠ TO → c ≠ i1 → c ≠ i2 → s.heap.get? c = some o → h'.get? c = some o) → Q (some (.ref s.heap.objs.size)) { s with heap := h' }) :
    wpAny (model prog w) A (pyNext (.ref z)) Q E s := by
  have ty : s.TypeIs (.ref z) "zip" := ⟨_, cz, rfl⟩
  unfold pyNext
  refine wpAny_bind (wpAny_attempt (wpAny_callSpecial?_slot (name := Str.ofString "__next__") ty F.slot_zip_next (wpAny_call_entry F.slot_zip_next ty F.entry_zip_next ?_ (F.args_zip_next_1 _))))
  exact zs_item D cz cI cO e1 e2 d1 d2 gx gy fun h' a1 a2 a3 a4 a5 a6 a7 => wpAny_pure (q h' a1 a2 a3 a4 a5 a6 a7)
theorem next_end {Q : Option Value → Shared → Prop} (hh : A.handled = none) (D : ZipApart z TI TO i1 i2 l1 l2)
    (cz : Zs s.heap z TI TO .none) (cI : IsPair s.heap TI (.ref i1) (.ref i2)) (cO : IsPair s.heap TO a b)
    (e1 : s.heap.IsListIter i1 l1 k) (e2 : s.heap.IsListIter i2 l2 k) (d1 : s.heap.IsList l1 xs) (d2 : s.heap.IsList l2 ys) (gx : xs[k]? = none) (gy : ys[k]? = none)
    (q : ∀ h', (∀ c o, c ≠ z → c ≠ TO → c ≠ i1 → c ≠ i2 → s.heap.get? c = some o → h'.get? c = some o) → Q none { s with heap := h' }) :
    wpAny (model prog w) A (pyNext (.ref z)) Q E s := by
  have ty : s.TypeIs (.ref z) "zip" := ⟨_, cz, rfl⟩
  unfold pyNext
  refine wpAny_bind (wpAny_attempt (wpAny_callSpecial?_slot (name := Str.ofString "__next__") ty F.slot_zip_next (wpAny_call_entry F.slot_zip_next ty F.entry_zip_next ?_ (F.args_zip_next_1 _))))
  refine zs_end hh D cz cI cO e1 e2 d1 d2 gx gy fun h' e a1 a2 => ?_
  obtain ⟨o, c1, c2⟩ := a2
  refine wpAny_bind (wpAny_isInstance (T := "StopIteration") (b := true) ⟨o, c1, c2⟩ isSubtype_stop ?_)
  exact wpAny_pure (q h' a1)
theorem go_zs {elts : List Expr} {m : Nat} {pos : Pos} {T : Addr} {Q : Unit → Shared → Prop} (cz : Zs s.heap z TI TO (rawInt T))
    (q : ∀ h', Zs h' z TI TO .none → Heap.SameBut z s.heap h' → Q () { s with heap := h' }) : wpAny (model prog w) A (letOwnedTupleGo (.Tuple elts m pos) (.ref z) (.ref T)) Q E s := by
  unfold letOwnedTupleGo
  refine wpAny_bind (wpAny_load cz ?_)
  show wpAny _ _ (if (["enumerate", "zip", "dict_itemiterator", "dict_reverseitemiterator", "odict_iterator", "itertools.zip_longest", "itertools.pairwise"].contains "zip" && (#[rawInt T, .bool false, .bool true, .ref TI, .ref TO] : Array Value)[0]? == some (rawInt T)) = true then _ else _) Q E s
  rw [if_pos (by simp)]
  refine wpAny_bind (wpAny_rule ?_)
  show wpAny _ _ (setField (.ref z) 0 .none) Q E s
  exact wpAny_setField_rec cz (by simp) fun h' a1 a2 => q h' a1 a2
theorem iter_zs {f : Value} {Q : Value → Shared → Prop} (cz : Zs s.heap z TI TO f) (q : Q (.ref z) s) : wpAny (model prog w) A (pyIter (.ref z)) Q E s := by
  have ty : s.TypeIs (.ref z) "zip" := ⟨_, cz, rfl⟩
  refine wpAny_pyIter_slot ty F.slot_zip_iter (wpAny_call_entry F.slot_zip_iter ty F.entry_zip_iter ?_ (F.args_zip_iter_1 _))
  show wpAny _ _ (ret (.ref z)) _ _ s
  exact wpAny_pure ⟨_, rfl, "zip", _, ty, F.slot_zip_next.lookup, q⟩
end
theorem tc_zs (a b : Value) : checkTypeCall "zip" ⟨[a, b], [(Str.ofString "strict", .bool true)]⟩ = pure () := by kernel_rfl
theorem nc_zs (a b : Value) : checkBuiltinCall "zip.__new__" ⟨[.type "zip", a, b], [(Str.ofString "strict", .bool true)]⟩ = pure () := by kernel_rfl
theorem ai_zs (o a b : Value) : argsOk "object.__init__" ⟨[o, a, b], [(Str.ofString "strict", .bool true)]⟩ := by unfold argsOk; kernel_rfl
abbrev zp (h : Heap) (l1 l2 : Addr) : Heap := (zipH4 h l1 l2).push { cls := .type "zip", data := .fields #[.none, .bool false, .bool true, .ref (zipH2 h l1 l2).objs.size, .ref (zipH3 h l1 l2).objs.size] }
theorem meets_zs (l1 l2 : Addr) (xs ys : Array Value) : Meets (Builtin.«zip.__new__» ⟨[.type "zip", .ref l1, .ref l2], [(Str.ofString "strict", .bool true)]⟩) (fun _ R s => s.heap.IsList l1 xs ∧ s.heap.IsList l2 ys ∧
      R (.ok (.ret (.ref (zipH4 s.heap l1 l2).objs.size))) { s with heap := zp s.heap l1 l2 }) := by
  refine .of_wp fun prog w A R s h => ?_
  obtain ⟨hp, g, d, tk, os⟩ := s
  obtain ⟨k1, k2, h⟩ := h
  have hsub := sub_zip
  have m1 : Heap.IsList (Shared.heap ⟨hp, g, d, tk, os⟩) l1 xs := k1
  have m2 : Heap.IsList (Shared.heap ⟨hp.push { cls := .type "list_iterator", data := .fields #[.ref l1, .int 0 0] }, g, d, tk, os⟩) l2 ys := Heap.IsList.push k2 _
  have s1 : (Str.ofString "strict" != ("strict" : Str)) = false := by decide +kernel
  wp_walk using wpAny_pyIter_list m1, wpAny_pyIter_list m2
  exact ⟨_, rfl, h⟩
section
variable {prog : Program} {w : World} {A : Around} {E : Value → Shared → Prop} {s : Shared}
theorem call_zs {l1 l2 : Addr} {xs ys : Array Value} {Q : Value → Shared → Prop} (k1 : s.heap.IsList l1 xs) (k2 : s.heap.IsList l2 ys)
    (q : ∀ h', Zs h' (s.heap.objs.size + 4) (s.heap.objs.size + 2) (s.heap.objs.size + 3) .none → IsPair h' (s.heap.objs.size + 2) (.ref s.heap.objs.size) (.ref (s.heap.objs.size + 1)) →
      IsPair h' (s.heap.objs.size + 3) .none .none → h'.IsListIter s.heap.objs.size l1 0 → h'.IsListIter (s.heap.objs.size + 1) l2 0 →
      (∀ c o, s.heap.get? c = some o → h'.get? c = some o) → Q (.ref (s.heap.objs.size + 4)) { s with heap := h' }) :
    wpAny (model prog w) A (call (.type "zip") [.ref l1, .ref l2] [(Str.ofString "strict", .bool true)]) Q E s := by
  refine callType_newKw F.called_zip (by decide) (tc_zs _ _) (nc_zs _ _) (fun o => ai_zs o _ _) F.entry_zip_new (meets_zs l1 l2 xs ys) ⟨k1, k2, ?_⟩
  have n1 : (zipH1 s.heap l1).objs.size = s.heap.objs.size + 1 := Heap.size_push ..
  have n2 : (zipH2 s.heap l1 l2).objs.size = s.heap.objs.size + 2 := by rw [Heap.size_push, n1]
  have n3 : (zipH3 s.heap l1 l2).objs.size = s.heap.objs.size + 3 := by rw [Heap.size_push, n2]
  have n4 : (zipH4 s.heap l1 l2).objs.size = s.heap.objs.size + 4 := by rw [Heap.size_push, n3]
  have p5 : (zp s.heap l1 l2).get? (zipH4 s.heap l1 l2).objs.size = some _ := Heap.get?_push_size _ rfl
  have p4 : (zp s.heap l1 l2).get? (zipH3 s.heap l1 l2).objs.size = some _ := Heap.get?_push_of_some _ (Heap.get?_push_size _ rfl)
  have p3 : (zp s.heap l1 l2).get? (zipH2 s.heap l1 l2).objs.size = some _ := Heap.get?_push_of_some _ (Heap.get?_push_of_some _ (Heap.get?_push_size _ rfl))
  have p2 : (zp s.heap l1 l2).get? (zipH1 s.heap l1).objs.size = some _ := Heap.get?_push_of_some _ (Heap.get?_push_of_some _ (Heap.get?_push_of_some _ (Heap.get?_push_size _ rfl)))
  have p1 : (zp s.heap l1 l2).get? s.heap.objs.size = some _ := Heap.get?_push_of_some _ (Heap.get?_push_of_some _ (Heap.get?_push_of_some _ (Heap.get?_push_of_some _ (Heap.get?_push_size _ rfl))))
  show _ ∧ _
  rw [n2, n3, n4] at p5
  rw [n1, n2] at p3
  rw [n3] at p4
  rw [n1] at p2
  rw [n4]
  exact ⟨⟨_, p5, rfl⟩, q _ p5 p3 p4 ⟨_, p1, rfl, rfl⟩ ⟨_, p2, rfl, rfl⟩ fun c o e => Heap.get?_push_of_some _ (Heap.get?_push_of_some _ (Heap.get?_push_of_some _ (Heap.get?_push_of_some _ (Heap.get?_push_of_some _ e))))⟩
/-- callee T, one keyword -/
theorem callWithT_kw {env : Env} {pos : Pos} {T : String} {e : Expr} {rest : List Expr} {kws : List Keyword} {Q : Value → Shared → Prop}
    (h : wpAny (model prog w) A (spliced (backTo pos (starEach (e :: rest) env))) (fun vs s1 => wpAny (model prog w) A (evalAll ((backToKw pos (keywordEach kws env)).map (·.2)))
      (fun ks s2 => wpAny (model prog w) A (call (.type T) vs (((backToKw pos (keywordEach kws env)).filterMap (·.1)).zip ks)) Q E s2) E s1) E s)
    (he : backTo pos (starEach (e :: rest) env) = (false, eval e env) :: backTo pos (starEach rest env))
    (hp : (backTo pos (starEach (e :: rest) env)).any (·.1) = false)
    (ha : (backToKw pos (keywordEach kws env)).all (·.1.isSome) = true)
    (hn : (backToKw pos (keywordEach kws env)).any (·.1.isNone) = false) :
    wpAny (model prog w) A (callWith pos (.type T) [] (backTo pos (starEach (e :: rest) env)) (backToKw pos (keywordEach kws env))) Q E s := by
  unfold callWith
  rw [he] at h hp ⊢
  have h0 : wpAny (model prog w) A (evalArgs (.type T) true ((false, eval e env) :: backTo pos (starEach rest env)) (backToKw pos (keywordEach kws env))) (fun a s1 => wpAny (model prog w) A (call (.type T) ([] ++ a.pos) a.kw) Q E s1) E s := PyProof.Rows.evalArgs_kwB ha h
  refine wpAny_bind (wpAny_holding (wpAny_mono h0 (fun a s1 h1 => wpAny_bind (wpAny_standAt ?_)) fun _ _ x => x))
  simp only [hp, hn, Bool.or_false]
  refine wpAny_bind (wpAny_pure ?_)
  exact wpAny_bind (wpAny_mono h1 (fun r s2 hr => wpAny_bind (wpAny_holding (wpAny_point (wpAny_pure hr)))) fun _ _ x => x)
end
/-- both lists, of one length -/
def ItS (K : PySem.W.Frag) (a b : Addr) : It :=
  ⟨fun i H => ∃ (xs ys : List V) (x y : V), SqL K H a xs ∧ SqL K H b ys ∧ xs[i]? = some x ∧ ys[i]? = some y,
    fun i H v H' => ∃ T x y, v = .ref T ∧ H T = none ∧ H' = upd H T (.tup [x, y]) ∧ (∀ xs, SqL K H a xs → xs[i]? = some x) ∧ ∀ ys, SqL K H b ys → ys[i]? = some y,
    fun i H => ∃ xs ys : List V, SqL K H a xs ∧ SqL K H b ys ∧ xs.length ≤ i ∧ ys.length ≤ i⟩
theorem turn_zs {P : Program} {w : World} {K : PySem.W.Frag} {elts : List Expr} {kk : Nat} {tpos : Pos} {a b z TI TO i1 i2 : Addr} (D : ZipApart z TI TO i1 i2 a b) :
    Turn P w K (.Tuple elts kk tpos) (ItS K a b) [z, TI, TO, i1, i2] z (fun i h => Zs h z TI TO .none ∧ IsPair h TI (.ref i1) (.ref i2) ∧ (∃ x y, IsPair h TO x y) ∧ h.IsListIter i1 a i ∧ h.IsListIter i2 b i) where
  mem := by simp
  obj := fun i h st c hc => by
    obtain ⟨c1, c2, ⟨_, _, c3⟩, ⟨o1, c4, _, d1⟩, ⟨o2, c5, _, d2⟩⟩ := st
    have e' : c = z ∨ c = TI ∨ c = TO ∨ c = i1 ∨ c = i2 := by simpa using hc
    rcases e' with rfl | rfl | rfl | rfl | rfl
    · exact ⟨_, c1, fun v q => nomatch q⟩
    · exact ⟨_, c2, fun v q => nomatch q⟩
    · exact ⟨_, c3, fun v q => nomatch q⟩
    · exact ⟨o1, c4, fun v q => by rw [d1] at q; cases q⟩
    · exact ⟨o2, c5, fun v q => by rw [d2] at q; cases q⟩
  keep := fun i h h' st k => by
    obtain ⟨c1, c2, ⟨x, y, c3⟩, c4, c5⟩ := st
    exact ⟨k _ (by simp) _ c1, k _ (by simp) _ c2, ⟨x, y, k _ (by simp) _ c3⟩, c4.at fun o q => k _ (by simp) o q, c5.at fun o q => k _ (by simp) o q⟩
  item := by
    intro X hP hw hK hc i pins s σ H E I hf st hg
    subst hP hw hK
    obtain ⟨c1, c2, ⟨x0, y0, c3⟩, c4, c5⟩ := st
    obtain ⟨xs, ys, x, y, qx, qy, hx, hy⟩ := hg
    obtain ⟨us, ru, pu, _⟩ := I.list qx
    obtain ⟨vs, rv, pv, _⟩ := I.list qy
    obtain ⟨u, hu, r1⟩ := ru.get hx
    obtain ⟨v, hv, r2⟩ := rv.get hy
    have lz : z < s.heap.objs.size := Heap.lt_size c1
    refine next_item D c1 c2 c3 c4 c5 pu.isList pv.isList (x := u) (y := v) (by simpa using hu) (by simpa using hv) fun h' d1 d2 d3 d4 d5 _ hk => ?_
    refine ⟨_, rfl, go_zs (s := { s with heap := h' }) d1 fun h2 e1 sb => ?_⟩
    have nT : h2.get? s.heap.objs.size = some { cls := .type "tuple", data := .seq #[u, v] } := (sb.2 _ (Nat.ne_of_gt lz)).trans d5
    have new : ObjOk X.prog X.w (upd H s.heap.objs.size (.tup [x, y])) h2 s.heap.objs.size (.tup [x, y]) :=
      ⟨by show 2 ≤ sizeLine; decide, [u, v], .cons r1 (.cons r2 .nil), ⟨_, nT, rfl, _, rfl⟩⟩
    have I1 : Inv X pins σ (upd H s.heap.objs.size (.tup [x, y])) { s with heap := h2 } := by
      refine I.turnedNew (t' := s.toks) (ch := [z, TI, TO, i1, i2]) (fun c o hb q => (sb.2 c (fun q' => hb (by simp [q']))).trans (hk c o ?_ ?_ ?_ ?_ q)) hf (Nat.le_refl _) new
      all_goals exact fun q' => hb (by simp [q'])
    refine ⟨.ref s.heap.objs.size, _, I1, rfl, ⟨_, x, y, rfl, I.hok.fresh (Nat.le_refl _), rfl, fun l hl => by rw [I.list_inj hl qx]; exact hx, fun l hl => by rw [I.list_inj hl qy]; exact hy⟩, ⟨e1, ?_, ⟨u, v, ?_⟩, ?_, ?_⟩, fun c hcm => ?_⟩
    · exact (sb.2 _ D.TIz).trans (hk _ _ D.TIz D.TITO D.TIi1 D.TIi2 c2)
    · exact (sb.2 _ D.TOz).trans d2
    · exact d3.at fun o q => (sb.2 _ D.i1z).trans q
    · exact d4.at fun o q => (sb.2 _ D.i2z).trans q
    · have lt : c < s.heap.objs.size := by
        have e' : c = z ∨ c = TI ∨ c = TO ∨ c = i1 ∨ c = i2 := by simpa using hcm
        rcases e' with rfl | rfl | rfl | rfl | rfl
        · exact lz
        · exact Heap.lt_size c2
        · exact Heap.lt_size c3
        · exact c4.elim fun _ e => Heap.lt_size e.1
        · exact c5.elim fun _ e => Heap.lt_size e.1
      rw [upd_ne (Nat.ne_of_lt lt)]
      exact (hf c hcm).1
  done := by
    intro X hP hw hK hc i pins s σ H E I hf st hg
    subst hP hw hK
    obtain ⟨c1, c2, ⟨x0, y0, c3⟩, c4, c5⟩ := st
    obtain ⟨xs, ys, qx, qy, g1, g2⟩ := hg
    obtain ⟨us, ru, pu, _⟩ := I.list qx
    obtain ⟨vs, rv, pv, _⟩ := I.list qy
    have l1 := ru.length
    have l2 := rv.length
    refine next_end (I.ok.hd hc) D c1 c2 c3 c4 c5 pu.isList pv.isList (by simp; omega) (by simp; omega) fun h' hk => ⟨rfl, I.turnedL (t' := s.toks) (ch := [z, TI, TO, i1, i2]) (fun c o hb q => hk c o ?_ ?_ ?_ ?_ q) hf⟩
    all_goals exact fun q' => hb (by simp [q'])
  self := fun A i s Q E st h => iter_zs st.1 h
theorem walk_zs {K : PySem.W.Frag} {a b : Addr} {xs ys : List V} (hl : xs.length = ys.length) : Walk (ItS K a b) xs.length (fun H => SqL K H a xs ∧ SqL K H b ys) (YPair (fun i => xs[i]?) (fun i => ys[i]?)) := by
  refine ⟨fun i _ hi q => ?_, fun _ q => ⟨xs, ys, q.1, q.2, by omega, by omega⟩, fun i H v H' _ q y => ?_⟩
  · exact ⟨xs, ys, xs[i], ys[i]'(by omega), q.1, q.2, by simp [hi], by simp [show i < ys.length by omega]⟩
  · obtain ⟨T, x, u, h1, h2, h3, h4, h5⟩ := y
    exact ⟨T, x, u, h1, h2, h3, h4 xs q.1, h5 ys q.2⟩
def iZs (K : PySem.W.Frag) (ta : TA) : TI := fun σ H R => ta σ H fun vs H1 => ∃ a b xs ys, vs = [.ref a, .ref b] ∧ SqL K H1 a xs ∧ SqL K H1 b ys ∧ R (ItS K a b) H1
theorem pi_zs {X : Cx} {K : PySem.W.Frag} {e e2 : Expr} {ta : TA} {p pos tpos kp kq : Pos} {elts : List Expr} {kk kj : Nat} (hK : X.K = K) (hg : Gl X "zip") (hm : X.mg "zip" = none) (ha : PA X [e, e2] ta)
    (he : backTo pos (starEach (e :: [e2]) X.env) = (false, eval e X.env) :: backTo pos (starEach [e2] X.env) := by rfl)
    (hp : (backTo pos (starEach (e :: [e2]) X.env)).any (·.1) = false := by rfl) :
    PI X (.Tuple elts kk tpos) (.Call (.Name "zip" p) [e, e2] [⟨some "strict", .Constant (.bool true) kj kq, kp⟩] pos) (iZs K ta) := by
  subst hK
  refine ⟨fun pins s σ H R I h => ?_⟩
  refine wpAny_Call_Name_kw (ld_blt I hg hm PyProof.Rows.boot_zip (callWithT_kw (thn (ha.run pos pins s σ H _ I h) fun us s1 ⟨vs, H1, I1, r1, q1⟩ => thn ((pk_cons pe_bl pk_nil).run pos pins s1 σ H1 (fun zs H2 => zs = [.bl true] ∧ H2 = H1) I1 ⟨rfl, rfl⟩) fun ws s2 ⟨zs, H2, I2, r2, q2⟩ => ?_) he hp rfl rfl))
  obtain ⟨q2, q3⟩ := q2
  subst q2 q3
  obtain ⟨a, b, xs, ys, ex, qx, qy, q⟩ := q1
  subst ex
  cases r1 with
  | cons ra rr =>
    cases rr with
    | cons rb rr =>
      cases rr
      cases ra
      cases rb
      cases r2 with
      | cons rz rr =>
        cases rr
        cases rz
        obtain ⟨us, ru, pu, _⟩ := I2.list qx
        obtain ⟨vs, rv, pv, _⟩ := I2.list qy
        have la : a < s2.heap.objs.size := pu.lt
        have lb : b < s2.heap.objs.size := pv.lt
        refine call_zs pu.isList pv.isList fun h' c1 c2 c3 c4 c5 hk => iter_zs c1 ?_
        refine ⟨s2.heap.objs.size + 4, [s2.heap.objs.size + 4, s2.heap.objs.size + 2, s2.heap.objs.size + 3, s2.heap.objs.size, s2.heap.objs.size + 1], _, _, H2, rfl, I2.kept (t' := s2.toks) hk, turn_zs (PySem.W.ktu_apart s2.heap.objs.size a b la lb), ⟨c1, c2, ⟨_, _, c3⟩, c4, c5⟩, fun c hcm => ?_, q⟩
        have e' : c = s2.heap.objs.size + 4 ∨ c = s2.heap.objs.size + 2 ∨ c = s2.heap.objs.size + 3 ∨ c = s2.heap.objs.size ∨ c = s2.heap.objs.size + 1 := by simpa using hcm
        have le : s2.heap.objs.size ≤ c := by
          rcases e' with w | w | w | w | w <;> (rw [w]; first | exact Nat.le_refl _ | exact Nat.le_add_right _ _)
        exact I2.fpOk le (I2.hok.fresh le)
end ZS

/-! ### enumT -/
/-! enumerate(tuple) -/
namespace ET
theorem meets_en {v : Value} {o : Obj} {G : Heap → Prop} (B : Begins v o G) :
    Meets (Builtin.«enumerate.__new__» ⟨[.type "enumerate", v], []⟩) (fun _ R s => G s.heap ∧
      R (.ok (.ret (.ref (s.heap.push o).objs.size))) { s with heap := (s.heap.push o).push { cls := .type "enumerate", data := .fields #[.none, .bool false, .ref s.heap.objs.size, rawInt 0, .none, .none] } }) := by
  refine .of_wp fun prog w A R s h => ?_
  obtain ⟨hp, g, d, tk, os⟩ := s
  obtain ⟨k1, h⟩ := h
  have hsub := sub_enumerate
  have it1 : ∀ {A' : Around} {E : Value → Shared → Prop} {Q : Value → Shared → Prop}, Q (.ref hp.objs.size) ⟨hp.push o, g, d, tk, os⟩ → wpAny (model prog w) A' (pyIter v) Q E ⟨hp, g, d, tk, os⟩ := fun q => B.iter prog w _ _ ⟨hp, g, d, tk, os⟩ _ k1 q
  wp_walk using it1
  refine wpAny_stack_any fun st => wpAny_pure ?_
  split
  · rename_i c _ _ _ _ _
    cases (c == Value.type "enumerate") <;> (wp_walk using it1; exact ⟨_, rfl, h⟩)
  · wp_walk using it1
    exact ⟨_, rfl, h⟩
section
variable {prog : Program} {w : World} {A : Around} {E : Value → Shared → Prop} {s : Shared}
theorem call_en {v : Value} {o : Obj} {G : Heap → Prop} {Q : Value → Shared → Prop} (B : Begins v o G) (k1 : G s.heap)
    (q : ∀ h', IsEnum h' (s.heap.objs.size + 1) s.heap.objs.size 0 .none → h'.get? s.heap.objs.size = some o → (∀ b o, s.heap.get? b = some o → h'.get? b = some o) → Q (.ref (s.heap.objs.size + 1)) { s with heap := h' }) :
    wpAny (model prog w) A (call (.type "enumerate") [v]) Q E s := by
  refine callType_new F.called_enumerate (by decide) (F.typeCall_enumerate_1 _) (F.newCall_enumerate_1 _) (fun o => F.args_object_init_2 o _) F.entry_enumerate_new (meets_en B) ⟨k1, ?_⟩
  have n1 : (s.heap.push o).objs.size = s.heap.objs.size + 1 := Heap.size_push ..
  have p1 : ((s.heap.push o).push { cls := .type "enumerate", data := .fields #[.none, .bool false, .ref s.heap.objs.size, rawInt 0, .none, .none] }).get? (s.heap.push o).objs.size = some _ := Heap.get?_push_size _ rfl
  show _ ∧ _
  rw [n1] at p1
  rw [n1]
  exact ⟨⟨_, p1, rfl⟩, q _ p1 (Heap.get?_push_of_some _ (Heap.get?_push_size _ B.free)) fun b o x => Heap.get?_push_of_some _ (Heap.get?_push_of_some _ x)⟩
end
/-- the tuple at a, each item in a new pair -/
def ItN (K : PySem.W.Frag) (a : Addr) : It :=
  ⟨fun i H => ∃ (xs : List V) (x : V), SqT K H a xs ∧ xs[i]? = some x,
    fun i H v H' => ∃ T x, v = .ref T ∧ H T = none ∧ H' = upd H T (.tup [.int (i : Nat), x]) ∧ ∀ xs, SqT K H a xs → xs[i]? = some x,
    fun i H => ∃ xs : List V, SqT K H a xs ∧ xs.length = i⟩
theorem turn_en {P : Program} {w : World} {K : PySem.W.Frag} {elts : List Expr} {kk : Nat} {tpos : Pos} (a e it : Addr) (na : a ≠ it) (ne : e ≠ it) (nea : e ≠ a) :
    Turn P w K (.Tuple elts kk tpos) (ItN K a) [e, it] e (fun i h => (∃ old, IsEnum h e it ((i : Nat) : Int) old) ∧ h.IsTupleIter it a i) where
  mem := by simp
  obj := fun i h st b hb => by
    obtain ⟨⟨old, c1⟩, ⟨o, c2, _, d2⟩⟩ := st
    have e' : b = e ∨ b = it := by simpa using hb
    rcases e' with rfl | rfl
    · exact ⟨_, c1, fun v q => nomatch q⟩
    · exact ⟨o, c2, fun v q => by rw [d2] at q; cases q⟩
  keep := fun i h h' st k => by
    obtain ⟨⟨old, c1⟩, c2⟩ := st
    exact ⟨⟨old, k _ (by simp) _ c1⟩, c2.at fun o q => k _ (by simp) o q⟩
  item := by
    intro X hP hw hK hc i pins s σ H E I hf st hg
    subst hP hw hK
    obtain ⟨⟨old, c1⟩, c2⟩ := st
    obtain ⟨xs, x, qx, hx⟩ := hg
    obtain ⟨us, ru, pu, _⟩ := I.tuple qx
    obtain ⟨u, hu, r1⟩ := ru.get hx
    have le : e < s.heap.objs.size := Heap.lt_size c1
    have li : it < s.heap.objs.size := c2.elim fun _ q => Heap.lt_size q.1
    have D := Draws.tuple (prog := X.prog) (w := X.w) (A := X.A.in1) (I.ok.hd hc) it a na us.toArray
    have hi : i < us.toArray.size := by
      have hu' : us[i]? = some u := by simpa using hu
      have := (List.getElem?_eq_some_iff.mp hu').1
      simpa using this
    refine wpAny_pyNext_enum_itemC D c1 ⟨c2, (show s.heap.IsTuple a us.toArray from pu)⟩ hi ne (by simp [ne, nea]) fun y h' tk hy d1 d2 d3 d4 hk => ?_
    have ey : y = u := by
      have h1 : us[i]? = some y := by simpa using hy
      have h2 : us[i]? = some u := by simpa using hu
      rw [h1] at h2
      exact Option.some.inj h2
    subst ey
    refine ⟨_, rfl, wpAny_letOwnedTupleGo_enum (s := { s with heap := h', toks := tk + 1 }) d1 fun h2 e1 sb => ?_⟩
    have nT : h2.get? s.heap.objs.size = some { cls := .type "tuple", data := .seq #[.int i tk, y] } := (sb.2 _ (Nat.ne_of_gt le)).trans d3
    have new : ObjOk X.prog X.w (upd H s.heap.objs.size (.tup [.int (i : Nat), x])) h2 s.heap.objs.size (.tup [.int (i : Nat), x]) :=
      ⟨by show 2 ≤ sizeLine; decide, [.int i tk, y], .cons ⟨_, rfl⟩ (.cons r1 .nil), ⟨_, nT, rfl, _, rfl⟩⟩
    have I1 : Inv X pins σ (upd H s.heap.objs.size (.tup [.int (i : Nat), x])) { s with heap := h2, toks := tk + 1 } := by
      refine I.turnedNew (ch := [e, it]) (fun b o hb q => (sb.2 b ?_).trans (hk b o ?_ ?_ q)) hf (Nat.le_refl _) new
      all_goals exact fun q' => hb (by simp [q'])
    refine ⟨.ref s.heap.objs.size, _, I1, rfl, ⟨_, x, rfl, I.hok.fresh (Nat.le_refl _), rfl, fun l hl => by rw [I.tuple_inj hl qx]; exact hx⟩, ⟨⟨y, ?_⟩, d2.1.at fun o q => (sb.2 it (Ne.symm ne)).trans q⟩, fun b hb => ?_⟩
    · have e2 : ((i + 1 : Nat) : Int) = (i : Int) + 1 := by omega
      rw [e2]
      exact e1
    · have lt : b < s.heap.objs.size := by
        have e' : b = e ∨ b = it := by simpa using hb
        rcases e' with rfl | rfl
        · exact le
        · exact li
      rw [upd_ne (Nat.ne_of_lt lt)]
      exact (hf b hb).1
  done := by
    intro X hP hw hK hc i pins s σ H E I hf st hg
    subst hP hw hK
    obtain ⟨⟨old, c1⟩, c2⟩ := st
    obtain ⟨xs, qx, hx⟩ := hg
    obtain ⟨us, ru, pu, _⟩ := I.tuple qx
    have hl := ru.length
    have D := Draws.tuple (prog := X.prog) (w := X.w) (A := X.A.in1) (I.ok.hd hc) it a na us.toArray
    have hi : us.toArray.size = i := by simp; omega
    refine wpAny_pyNext_enum_endD D c1 (by rw [hi]; exact ⟨c2, (show s.heap.IsTuple a us.toArray from pu)⟩) fun h' eb => ⟨rfl, I.turnedL (t' := s.toks) (ch := [e, it]) (fun b o hb q => eb b o ?_ q) hf⟩
    exact fun q' => hb (by simp [q'])
  self := fun A i s Q E st h => let ⟨⟨_, c1⟩, _⟩ := st; wpAny_pyIter_enum c1 h
theorem walk_en {K : PySem.W.Frag} {a : Addr} {xs : List V} : Walk (ItN K a) xs.length (fun H => SqT K H a xs) (YPair (fun i => some (.int (i : Nat))) (fun i => xs[i]?)) := by
  refine ⟨fun i _ hi q => ⟨xs, xs[i], q, by simp [hi]⟩, fun _ q => ⟨xs, q, rfl⟩, fun i H v H' _ q y => ?_⟩
  obtain ⟨T, x, h1, h2, h3, h4⟩ := y
  exact ⟨T, .int (i : Nat), x, h1, h2, h3, rfl, h4 xs q⟩
def iEn (K : PySem.W.Frag) (ta : TA) : TI := fun σ H R => ta σ H fun vs H1 => ∃ a xs, vs = [.ref a] ∧ SqT K H1 a xs ∧ R (ItN K a) H1
theorem pi_en {X : Cx} {K : PySem.W.Frag} {e : Expr} {ta : TA} {p pos tpos : Pos} {elts : List Expr} {kk : Nat} (hK : X.K = K) (hg : Gl X "enumerate") (hm : X.mg "enumerate" = none) (ha : PA X [e] ta) (hs : starEach [e] X.env = [(false, eval e X.env)] := by rfl) :
    PI X (.Tuple elts kk tpos) (.Call (.Name "enumerate" p) [e] [] pos) (iEn K ta) := by
  subst hK
  refine ⟨fun pins s σ H R I h => ?_⟩
  refine Call_ (ld_blt I hg hm boot_enumerate (PyProof.Rows.callWith_type1 (thn (ha.run pos pins s σ H _ I h) fun us s1 ⟨vs, H1, I1, r1, q1⟩ => ?_) hs rfl))
  obtain ⟨a, xs, ex, hq, q⟩ := q1
  subst ex
  cases r1 with
  | cons r rr =>
    cases rr
    cases r
    obtain ⟨vs, rv, pv, _⟩ := I1.tuple hq
    have pt : s1.heap.IsTuple a vs.toArray := pv
    have la : a < s1.heap.objs.size := pt.elim fun _ q => Heap.lt_size q.1
    refine call_en (begins_tuple a vs.toArray) pt fun h' c1 c2 hk => wpAny_pyIter_enum c1 ?_
    refine ⟨s1.heap.objs.size + 1, [s1.heap.objs.size + 1, s1.heap.objs.size], _, _, H1, rfl, I1.kept (t' := s1.toks) hk, turn_en a (s1.heap.objs.size + 1) s1.heap.objs.size (Nat.ne_of_lt la) (Nat.succ_ne_self _) (Nat.ne_of_gt (Nat.lt_succ_of_lt la)), ⟨⟨.none, c1⟩, ⟨_, c2, rfl, rfl⟩⟩, fun b hb => ?_, q⟩
    have e' : b = s1.heap.objs.size + 1 ∨ b = s1.heap.objs.size := by simpa using hb
    have le : s1.heap.objs.size ≤ b := by
      rcases e' with w | w <;> (rw [w]; first | exact Nat.le_refl _ | exact Nat.le_add_right _ _)
    exact I1.fpOk le (I1.hok.fresh le)
end ET

/-! ### maxD -/
/-! max(xs, default=d) of a list of ints -/
namespace MD
section
variable {prog : Program} {w : World} {A : Around} {R : Result → Shared → Prop} {I : Addr} {fp wr : List Addr} {n : Nat} {P : Nat → Value → Prop} {St : Nat → Heap → Prop} {kw : List (Str × Value)}
theorem nm : (toString "max" ++ toString ".loop" : String) = "max.loop" := by decide
theorem loop (W : Walks prog w A.in1 I fp wr n P St) (bt : Nat → Nat → Bool) (cmp : CmpOf prog w A.in1 .Gt P bt) (S : Addr) (sf : S ∉ fp) :
    ∀ (k j : Nat) (s : Shared) (v0 : Value) (c : Nat), n - (j + 1) = k → j + 1 ≤ n → St (j + 1) s.heap → P (argBest bt j) v0 →
    s.heap.get? S = some { cls := .type "list", dict := none, data := .seq #[v0, v0] c, slots := #[] } →
    (∀ v h' tk, P (argBest bt (n - 1)) v → (∀ b o, b ∉ wr → b ≠ S → s.heap.get? b = some o → h'.get? b = some o) → R (.ok (.ret v)) { s with heap := h', toks := tk }) →
    codeAny (model prog w) A (.builtin "max.loop" ⟨[.ref I, .none, .ref S], kw⟩) R s := by
  have sw : S ∉ wr := fun h => sf (W.sub _ h)
  intro k
  induction k with
  | zero =>
    intro j s v0 c e1 e2 st p0 cS q
    have e3 : j + 1 = n := by omega
    refine codeAny_builtin F.entry_max_loop ?_
    rw [Around.under_plainId F.plain_max_loop _]
    show wpAny _ A.in1 (seqItems? (.ref S) >>= _) _ _ s
    refine wpAny_bind (wpAny_seqItems cS rfl ?_)
    show wpAny _ A.in1 (tryCatch (pyNext (.ref I)) _ >>= _) _ _ s
    refine wpAny_bind (wpAny_tryCatch (W.done s _ _ (e3 ▸ st) fun h' tk kk => ?_))
    have cS' := kk S _ sw cS
    show wpAny _ A.in1 (updateSeq S (fun _ => #[]) >>= _) _ _ _
    refine wpAny_bind (wpAny_updateSeq cS' rfl (wpAny_bind (wpAny_letGo (wpAny_pure ?_))))
    exact q v0 _ tk (by rw [← e3]; exact p0) fun b o b1 b2 e => (Heap.get?_update_other _ _ (Ne.symm b2)).trans (kk b o b1 e)
  | succ k ih =>
    intro j s v0 c e1 e2 st p0 cS q
    have lt : j + 1 < n := by omega
    refine codeAny_builtin F.entry_max_loop ?_
    rw [Around.under_plainId F.plain_max_loop _]
    show wpAny _ A.in1 (seqItems? (.ref S) >>= _) _ _ s
    refine wpAny_bind (wpAny_seqItems cS rfl ?_)
    show wpAny _ A.in1 (tryCatch (pyNext (.ref I)) _ >>= _) _ _ s
    refine wpAny_bind (wpAny_tryCatch (W.item (j + 1) s _ _ lt st fun v h' tk pv st' kk => ?_))
    have cS' := kk S _ sw cS
    show wpAny _ A.in1 (tryCatch (holding [v, v] (richCompare .Gt v v0 >>= _)) _ >>= _) _ _ _
    refine wpAny_bind (wpAny_tryCatch (wpAny_holding (wpAny_bind (cmp (j + 1) (argBest bt j) v v0 _ _ _ pv p0 ?_))))
    refine wpAny_bind (wpAny_holding (wpAny_truthy_bool ?_))
    refine wpAny_bind (wpAny_letGo (wpAny_pure ?_))
    cases hb : bt (j + 1) (argBest bt j) with
    | true =>
      simp only [if_true]
      refine wpAny_bind (wpAny_updateSeq cS' rfl (wpAny_bind (wpAny_letGo ?_)))
      rw [nm]
      refine wpAny_pure ⟨plainId_quiet F.plain_max_loop _, ih (j + 1) _ v _ (by omega) lt (W.frame _ _ _ st' fun b bf o e => ?_) (by simp only [argBest, hb, if_true]; exact pv) (Heap.get?_update_self _ cS' rfl) fun v' h2 tk2 pv' kk2 => ?_⟩
      · exact (Heap.get?_update_other _ _ (fun h : S = b => sf (by rw [h]; exact bf))).trans e
      · exact q v' h2 tk2 pv' fun b o b1 b2 e => kk2 b o b1 b2 ((Heap.get?_update_other _ _ (Ne.symm b2)).trans (kk b o b1 e))
    | false =>
      simp only [Bool.false_eq_true, if_false]
      refine wpAny_bind (wpAny_letGo ?_)
      rw [nm]
      refine wpAny_pure ⟨plainId_quiet F.plain_max_loop _, ih (j + 1) _ v0 c (by omega) lt st' (by simp only [argBest, hb, Bool.false_eq_true, if_false]; exact p0) cS' fun v' h2 tk2 pv' kk2 => ?_⟩
      exact q v' h2 tk2 pv' fun b o b1 b2 e => kk2 b o b1 b2 (kk b o b1 e)
theorem first (W : Walks prog w A.in1 I fp wr n P St) (bt : Nat → Nat → Bool) (cmp : CmpOf prog w A.in1 .Gt P bt) (S : Addr) (sf : S ∉ fp) (n0 : 0 < n) {s : Shared} {c : Nat} (st : St 0 s.heap)
    (cS : s.heap.get? S = some { cls := .type "list", dict := none, data := .seq #[] c, slots := #[] })
    (q : ∀ v h' tk, P (argBest bt (n - 1)) v → (∀ b o, b ∉ wr → b ≠ S → s.heap.get? b = some o → h'.get? b = some o) → R (.ok (.ret v)) { s with heap := h', toks := tk }) :
    codeAny (model prog w) A (.builtin "max.loop" ⟨[.ref I, .none, .ref S], kw⟩) R s := by
  have sw : S ∉ wr := fun h => sf (W.sub _ h)
  refine codeAny_builtin F.entry_max_loop ?_
  rw [Around.under_plainId F.plain_max_loop _]
  show wpAny _ A.in1 (seqItems? (.ref S) >>= _) _ _ s
  refine wpAny_bind (wpAny_seqItems cS rfl ?_)
  show wpAny _ A.in1 (tryCatch (pyNext (.ref I)) _ >>= _) _ _ s
  refine wpAny_bind (wpAny_tryCatch (W.item 0 s _ _ n0 st fun v h' tk pv st' kk => ?_))
  have cS' := kk S _ sw cS
  show wpAny _ A.in1 (updateSeq S (fun _ => #[v, v]) >>= _) _ _ _
  refine wpAny_bind (wpAny_updateSeq cS' rfl ?_)
  rw [nm]
  refine wpAny_pure ⟨plainId_quiet F.plain_max_loop _, loop W bt cmp S sf _ 0 _ v _ rfl n0 (W.frame _ _ _ st' fun b bf o e => ?_) pv (Heap.get?_update_self _ cS' rfl) fun v' h2 tk2 pv' kk2 => ?_⟩
  · exact (Heap.get?_update_other _ _ (fun h : S = b => sf (by rw [h]; exact bf))).trans e
  · exact q v' h2 tk2 pv' fun b o b1 b2 e => kk2 b o b1 b2 ((Heap.get?_update_other _ _ (Ne.symm b2)).trans (kk b o b1 e))
theorem none_ (W : Walks prog w A.in1 I fp wr n P St) (n0 : n = 0) (S : Addr) (sf : S ∉ fp) {s : Shared} {c : Nat} {d : Value} (st : St 0 s.heap)
    (cS : s.heap.get? S = some { cls := .type "list", dict := none, data := .seq #[] c, slots := #[] })
    (q : ∀ h' tk, (∀ b o, b ∉ wr → b ≠ S → s.heap.get? b = some o → h'.get? b = some o) → R (.ok (.ret d)) { s with heap := h', toks := tk }) :
    codeAny (model prog w) A (.builtin "max.loop" ⟨[.ref I, .none, .ref S], [(Str.ofString "default", d)]⟩) R s := by
  subst n0
  refine codeAny_builtin F.entry_max_loop ?_
  rw [Around.under_plainId F.plain_max_loop _]
  show wpAny _ A.in1 (seqItems? (.ref S) >>= _) _ _ s
  refine wpAny_bind (wpAny_seqItems cS rfl ?_)
  show wpAny _ A.in1 (tryCatch (pyNext (.ref I)) _ >>= _) _ _ s
  refine wpAny_bind (wpAny_tryCatch (W.done s _ _ st fun h' tk kk => ?_))
  show wpAny _ A.in1 (rule _ >>= _) _ _ _
  refine wpAny_bind (wpAny_rule (wpAny_pure ?_))
  exact q h' tk fun b o b1 _ e => kk b o b1 e
end
section
variable {prog : Program} {w : World} {A : Around} {E : Value → Shared → Prop} {s : Shared}
theorem ok_args (a d : Value) : argsOk "max" ⟨[a], [(Str.ofString "default", d)]⟩ := by unfold argsOk; kernel_rfl
theorem bp (d : Value) : Builtin.Builtins.bindParams "max" ["key", "default"] 0 ⟨[], [(Str.ofString "default", d)]⟩ = pure [none, some d] := by kernel_rfl
theorem call_md {l : Addr} {its : List Value} {ns : List Int} {d : Int} {t : Tok} {Q : Value → Shared → Prop} (hh : A.handled = none) (hl : s.heap.IsList l its.toArray) (hi : IntsAre its ns)
    (q : ∀ h' tk M t', (∀ b o, s.heap.get? b = some o → h'.get? b = some o) → (ns = [] ∧ M = d ∨ M ∈ ns ∧ ∀ a, a ∈ ns → a ≤ M) → Q (.int M t') { s with heap := h', toks := tk }) :
    wpAny (model prog w) A (call (.builtin "max") [.ref l] [(Str.ofString "default", .int d t)]) Q E s := by
  obtain ⟨xs, e⟩ := hi.allInts.items
  have hn : numsOf (intItems xs).toList = ns := by rw [← e]; exact hi.numsOf
  rw [nums_intItems] at hn
  subst hn
  rw [e] at hl
  refine PyProof.Rows.kmk_tree F.kind_max F.plain_max F.entry_max (ok_args _ _) ?_
  show wpAny _ A.in1 (Builtin.Builtins.bindParams "max" ["key", "default"] 0 ⟨[], [(Str.ofString "default", .int d t)]⟩ >>= _) _ _ s
  refine wpAny_bind (wpAny_of_eq (bp _) ?_)
  refine wpAny_bind (wpAny_pure ?_)
  refine wpAny_bind (iter_intList hl fun s2 e2 st hfp hlI => ?_)
  subst e2
  refine wpAny_bind (wpAny_newObj_type ?_)
  rw [nm]
  have sf : (s.heap.push { cls := .type "list_iterator", data := .fields #[.ref l, .int 0 0] }).objs.size ∉ [s.heap.objs.size, l] := fun hm => Nat.lt_irrefl _ (hfp _ hm)
  have W := Walks.list (prog := prog) (w := w) (A := A.in1) hh s.heap.objs.size l hlI (intItems xs)
  by_cases h0 : 0 < xs.size
  · refine wpAny_pure ⟨plainId_quiet F.plain_max_loop _, first W (fun i j => decide (numAt xs i > numAt xs j)) (CmpOf.ints_gt (numAt xs) (fun _ _ => intItems_at)) _ sf (by simpa [intItems] using h0) (W.frame _ _ _ st fun b _ o e => Heap.get?_push_of_some _ e) (Heap.get?_push_size _ rfl) fun v h' tk pv kk => ?_⟩
    have pv' : (intItems xs)[argBest (fun i j => decide (numAt xs i > numAt xs j)) (xs.size - 1)]? = some v := by simpa [intItems] using pv
    obtain ⟨t2, rfl⟩ := intItems_at pv'
    obtain ⟨m1, m2⟩ := argBest_gt (numAt xs) (xs.size - 1)
    refine q h' tk _ t2 (fun b o e => ?_) (.inr ⟨?_, fun a ha => ?_⟩)
    · have lb := Heap.lt_size e
      refine kk b o (fun z => ?_) (fun z => ?_) (Heap.get?_push_of_some _ (Heap.get?_push_of_some _ e))
      · have z' : b = s.heap.objs.size := by simpa using z
        exact Nat.lt_irrefl _ (z' ▸ lb)
      · rw [z, Heap.size_push] at lb
        exact absurd lb (Nat.not_lt_of_le (Nat.le_succ _))
    · rw [numAt_eq]; exact PySem.getD_mem (by rw [List.length_map, Array.length_toList]; omega)
    · obtain ⟨j, hj, rfl⟩ := mem_getD ha
      rw [List.length_map, Array.length_toList] at hj
      rw [← numAt_eq]; exact m2 j (by omega)
  · have e0 : xs = #[] := Array.eq_empty_of_size_eq_zero (by omega)
    subst e0
    refine wpAny_pure ⟨plainId_quiet F.plain_max_loop _, none_ W (by simp [intItems]) _ sf (W.frame _ _ _ st fun b _ o e => Heap.get?_push_of_some _ e) (Heap.get?_push_size _ rfl) fun h' tk kk => ?_⟩
    refine q h' tk d t (fun b o e => ?_) (.inl ⟨rfl, rfl⟩)
    have lb := Heap.lt_size e
    refine kk b o (fun z => ?_) (fun z => ?_) (Heap.get?_push_of_some _ (Heap.get?_push_of_some _ e))
    · have z' : b = s.heap.objs.size := by simpa using z
      exact Nat.lt_irrefl _ (z' ▸ lb)
    · rw [z, Heap.size_push] at lb
      exact absurd lb (Nat.not_lt_of_le (Nat.le_succ _))
end
def rMd (K : PySem.W.Frag) : List V → List V → Hp → VK → Prop := fun vs zs H Q => ∃ (a : Addr) (ns : List Int) (d : Int), vs = [V.ref a] ∧ zs = [.int d] ∧ SqL K H a (ns.map V.int) ∧ ∀ m, (ns = [] ∧ m = d ∨ m ∈ ns ∧ ∀ y, y ∈ ns → y ≤ m) → Q (.int m) H
theorem cr_md {X : Cx} {K : PySem.W.Frag} (hK : X.K = K) (hc : X.calm = true) : CallRK X (.builtin "max") ["default"] (rMd K) := by
  subst hK
  intro pins s σ H vs zs us ws Q I r rz h
  obtain ⟨a, ns, d, rfl, rfl, hs, q⟩ := h
  obtain ⟨its, rv, hl, _⟩ := I.list hs
  rw [Vals.ref1 r]
  cases rz with
  | cons r1 rr =>
    cases rr
    obtain ⟨t, rfl⟩ := r1
    exact call_md (I.ok.hd hc) hl.isList rv.ints fun h' tk m t' hk h1 => ⟨.int _, H, I.kept hk, ⟨_, rfl⟩, q m h1⟩
end MD

/-! ### mul01 -/
/-! tuple * 0, tuple * 1 -/
namespace M01
theorem mul1 (l : Addr) (items : Array Value) (n : Nat) (dd : Option Addr) (sl : Array (Option Value)) (u : Tok) (c1 : (items.isEmpty || (1 : Int) == 1) = true) :
    Meets (Builtin.«tuple.__mul__» ⟨[.ref l, .int 1 u], []⟩) (fun _ R s => s.heap.get? l = some { cls := .type "tuple", dict := dd, data := .seq items n, slots := sl } ∧ R (.ok (.ret (.ref l))) s) := by
  refine .of_wp fun prog w A R s h => ?_
  obtain ⟨hp, g, d, tk, os⟩ := s
  obtain ⟨hl, h⟩ := h
  have f1 := AutoSeq1.idx_int
  wp_walk using wpAny_loadPart' hl
  repeat (first
    | (refine wpAny_ite_false (by decide) ?_; wp_walk using wpAny_loadPart' hl)
    | (refine wpAny_ite_true (decide_eq_true c1) ?_; wp_walk using wpAny_loadPart' hl))
  exact ⟨_, rfl, h⟩
theorem mul0 (l : Addr) (items : Array Value) (n : Nat) (dd : Option Addr) (sl : Array (Option Value)) (u : Tok) (c1 : (items.isEmpty || (0 : Int) == 1) = false) (c2 : (decide ((0 : Int) ≤ 0) || items.isEmpty) = true) :
    Meets (Builtin.«tuple.__mul__» ⟨[.ref l, .int 0 u], []⟩) (fun _ R s => s.heap.get? l = some { cls := .type "tuple", dict := dd, data := .seq items n, slots := sl } ∧
      R (.ok (.ret (.ref s.heap.objs.size))) { s with heap := s.heap.push { cls := .type "tuple", data := .seq #[] } }) := by
  refine .of_wp fun prog w A R s h => ?_
  obtain ⟨hp, g, d, tk, os⟩ := s
  obtain ⟨hl, h⟩ := h
  have f1 := AutoSeq1.idx_int
  wp_walk using wpAny_loadPart' hl
  repeat (first
    | (refine wpAny_ite_false (by decide) ?_; wp_walk using wpAny_loadPart' hl)
    | (refine wpAny_ite_false (decide_eq_false (by rw [c1]; exact Bool.false_ne_true)) ?_; wp_walk using wpAny_loadPart' hl)
    | (refine wpAny_ite_true (decide_eq_true c2) ?_; wp_walk using wpAny_loadPart' hl))
  exact ⟨_, rfl, h⟩
def rM01 (K : PySem.W.Frag) : R2 := fun x y H Q => ∃ (l : Addr) (xs : List V) (b : Bool), x = .ref l ∧ y = .int (if b then 1 else 0) ∧ SqT K H l xs ∧ xs ≠ [] ∧ (b = true → Q (.ref l) H) ∧ (b = false → ∀ p, H p = none → Q (.ref p) (upd H p (.tup [])))
theorem op_m01 {X : Cx} {K : PySem.W.Frag} (hK : X.K = K) : OpR X (binaryOp .Mult) (rM01 K) := by
  subst hK
  intro pins s σ H x y v u Q I rx ry h
  obtain ⟨l, xs, b, rfl, rfl, hT, hne, q1, q0⟩ := h
  cases rx
  obtain ⟨t, rfl⟩ := ry
  obtain ⟨its, r, ⟨⟨cls, dd, data, sl⟩, ho, hc, n, hd⟩, hs⟩ := I.tuple hT
  simp only at hc hd
  subst hc hd
  have e0 : its.toArray.isEmpty = false := by
    cases its with
    | nil => exact absurd (List.eq_nil_of_length_eq_zero r.length) hne
    | cons a b => rfl
  refine wpAny_binaryOp_repeat_ref (T := "tuple") (U := "int") (by decide) ⟨_, ho, rfl⟩ (fun s' => typeIs_int s' _ t) noFill_tuple_mul F.fills_int_mul F.slot_int_rmul repeat_tuple F.slot_int_index.lookup
    (call_meets F.slot_int_rmul (typeIs_int s _ t) F.entry_int_rmul (F.args_int_rmul_2 _ _) (int_rmul_tuple _ t l its.toArray n dd sl) ⟨ho, rfl, ⟨_, ho, rfl⟩, ?_⟩)
  cases b with
  | true => exact call_meets F.slot_tuple_mul ⟨_, ho, rfl⟩ F.entry_tuple_mul (F.args_tuple_mul_2 _ _) (mul1 l its.toArray n dd sl t (by rw [e0]; rfl)) ⟨ho, .ref l, H, I, rfl, q1 rfl⟩
  | false =>
    refine call_meets F.slot_tuple_mul ⟨_, ho, rfl⟩ F.entry_tuple_mul (F.args_tuple_mul_2 _ _) (mul0 l its.toArray n dd sl t (by rw [e0]; rfl) rfl) ⟨ho, ?_⟩
    exact ⟨.ref s.heap.objs.size, _, I.laid (t' := s.toks) (o := .tup []) (fun b ob q => Heap.get?_push_of_some _ q) (Nat.le_refl _) ⟨Nat.zero_le _, [], .nil, IsTup.new _ _⟩, rfl, q0 rfl _ (I.hok.fresh (Nat.le_refl _))⟩
end M01

section
variable {P : Program} {w : World} {K : PySem.W.Frag} {mg : Str → Option Value} {base : Heap}
/-! ### s1_is_number_word -/
def digSign (c : Nat) : Bool := decide (c ∈ cs_DIGITS.cps.toList)
theorem digSign_iff {c : Nat} : digSign c = true ↔ 48 ≤ c ∧ c ≤ 57 := by
  unfold digSign
  rw [decide_eq_true_eq]
  constructor
  · have h : ∀ c ∈ cs_DIGITS.cps.toList, 48 ≤ c ∧ c ≤ 57 := by decide +kernel
    exact h c
  · intro h
    have h2 : ∀ k < 10, 48 + k ∈ cs_DIGITS.cps.toList := by decide +kernel
    have := h2 (c - 48) (by omega)
    rw [show 48 + (c - 48) = c by omega] at this
    exact this
def isNum (l : List Nat) : Bool := !decide (l = []) && l.all digSign
def sp_s1_is_number_word (K : PySem.W.Frag) : Sp := fun vs H Q _ => ∃ l : List Nat, vs = [vS l] ∧ l.length ≤ 100000 ∧ ∀ H', Same H H' → Q (.bl (isNum l)) H'
theorem ok_s1_is_number_word (T : Txt K mg) : FnOk P w K mg base CX0 1 T.f_s1_is_number_word T.d_s1_is_number_word ["text"] (sp_s1_is_number_word K) := by
  refine T.F_s1_is_number_word.ok sc_s1_is_number_word (fun vs H Q E h => ?_) (fun cdv A outer s H vs Q E hr h => ?_)
  · obtain ⟨l, rfl, _⟩ := h
    rfl
  · obtain ⟨l, rfl, hl, q⟩ := h
    refine ⟨_, (pss_one (ps_ret (pe_and (pe_cmpR op_ne (pv 0) pe_str (nomark _)) (pe_one (pe_callB (kAll (K := K) rfl rfl) (by rfl) T.n_all (by decide +kernel) (pa_cons (pe_lc (own := [("sign", 1)]) (g := gName 1) (tt := tYes) (by rfl) sc_s1_is_number_word.nd (pi_str (pv 0)) (blkOk_by (own := [("sign", 1)]) (N := N_s1_is_number_word) (sc := defScope S_s1_is_number_word) (by decide +kernel)) (fun _ _ _ _ _ => (pg_name (i := 1) sc_s1_is_number_word.nd rfl (.inl rfl))) (fun _ _ _ _ _ => pts_nil) (fun _ _ _ _ _ => (pe_cmpR op_in_sign (pv 1) (pe_glob (v := .str cs_DIGITS) (by rfl) T.c_DIGITS.choose_spec ⟨_, rfl⟩) (by rfl)))) pa_nil)))))), ?_⟩
    unfold isNum at q
    refine ⟨_, rfl, rfl, _, rfl, ?_⟩
    rw [empty_S, dS]
    refine if2 (fun h1 => ?_) (fun h1 => ?_)
    · rw [h1] at q
      refine ⟨_, rfl, S l, rfl, fun D hD => ?_⟩
      refine lc_str (f := fun c => .bl (digSign c)) hD hl (fun _ => rfl) (fun c hc H' s' Q' q' => ?_) (fun H' s' hL => ?_)
      · exact ⟨_, rfl, c, _, rfl, rfl, q' H' (Same.refl H')⟩
      · refine ⟨D, l.map digSign, rfl, ?_, ?_⟩
        · rw [← map_bl]
          exact SqL.of hL
        · rw [all_map]
          exact q H' s'
    · rw [h1] at q
      exact q H (Same.refl H)

/-! ### s1_is_small -/
theorem zero_S : ("0" : Str) = S [48] := by decide +kernel
theorem isNum_digits {l : List Nat} (h : isNum l = true) : l ≠ [] ∧ l.all (fun c => decide (48 ≤ c) && decide (c ≤ 57)) = true := by
  unfold isNum at h
  rw [Bool.and_eq_true, Bool.not_eq_true', decide_eq_false_iff_not] at h
  refine ⟨h.1, List.all_eq_true.mpr fun c hc => ?_⟩
  have := digSign_iff.mp (List.all_eq_true.mp h.2 c hc)
  rw [decide_eq_true this.1, decide_eq_true this.2]
  rfl
def isSmall (l : List Nat) : Bool := isNum l && decide (l.length ≤ 3) && !(decide (l.head? = some 48) && !decide (l = [48])) && decide (NumText.digitsVal l ≤ 255)
def sp_s1_is_small (K : PySem.W.Frag) : Sp := fun vs H Q _ => ∃ l : List Nat, vs = [vS l] ∧ l.length ≤ 100000 ∧ ∀ H', Same H H' → Q (.bl (isSmall l)) H'
theorem ok_s1_is_small (T : Txt K mg) : FnOk P w K mg base CX0 2 T.f_s1_is_small T.d_s1_is_small ["word"] (sp_s1_is_small K) := by
  refine T.F_s1_is_small.ok sc_s1_is_small (fun vs H Q E h => ?_) (fun cdv A outer s H vs Q E hr h => ?_)
  · obtain ⟨l, rfl, _⟩ := h
    rfl
  · obtain ⟨l, rfl, hl, q⟩ := h
    refine ⟨_, (pss_cons (ps_if (PW.pt (pw_or (pt_not (pt_val (pe_call (ok_s1_is_number_word T) (hr.mono (by decide)) (by rfl) T.g_s1_is_number_word T.F_s1_is_number_word.kp T.b_s1_is_number_word .nil pass0 (pa_cons (pv 0) pa_nil)))) (pw_or (pt_cmpR op_gt (pe_callB call_len_str (by rfl) T.n_len (by decide +kernel) (pa_cons (pv 0) pa_nil)) pe_int (nomark _)) (pw_or1 (PW.pt (pw_and (pt_cmpR op_eq (pe_ix ix_str (pv 0) pe_int (fun _ _ => rfl)) pe_str (nomark _)) (pw_and1 (pt_cmpR op_ne (pv 0) pe_str (nomark _)))))))))
      (pss_one (ps_ret pe_bl))
      pss_nil)
      (pss_one (ps_ret (pe_cmpR op_le (pe_callTy call_int_str (by rfl) T.n_int (by decide +kernel) (pa_cons (pv 0) pa_nil)) pe_int (nomark _))))), ?_⟩
    unfold isSmall at q
    refine ⟨_, rfl, l, rfl, hl, fun H1 s1 => ⟨_, rfl, ?_⟩⟩
    refine if2 (fun h1 => ?_) (fun h1 => ?_)
    · have e : isNum l = false := by simpa using h1
      rw [e] at q
      exact q H1 s1
    have e : isNum l = true := by simpa using h1
    rw [e, Bool.true_and] at q
    obtain ⟨hne, hdig⟩ := isNum_digits e
    refine ⟨_, rfl, S l, rfl, szS hl, _, _, rfl, rfl, _, rfl, ?_⟩
    rw [S_len]
    refine if2 (fun h2 => ?_) (fun h2 => ?_)
    · have e2 : ¬ l.length ≤ 3 := by simp at h2; omega
      rw [decide_eq_false e2] at q
      exact q H1 s1
    have e2 : l.length ≤ 3 := by simp at h2; omega
    rw [decide_eq_true e2, Bool.true_and] at q
    obtain ⟨c, r, rfl⟩ : ∃ c r, l = c :: r := by
      cases l with
      | nil => exact absurd rfl hne
      | cons c r => exact ⟨c, r, rfl⟩
    have fin : (!(decide ((c :: r).head? = some 48) && !decide (c :: r = [48]))) = true → ∃ n : Int, intText? (S (c :: r)) = some n ∧ (S (c :: r)).length ≤ 640 ∧ Q (.bl (decide (n ≤ 255))) H1 := fun h => by
      rw [h, Bool.true_and] at q
      refine ⟨_, SX.int_S hdig hne (by omega), by rw [S_len]; omega, ?_⟩
      refine qb ?_ (q H1 s1)
      apply Bool.eq_iff_iff.mpr
      rw [decide_eq_true_eq, decide_eq_true_eq]
      omega
    refine ⟨_, rfl, S (c :: r), 0, c, rfl, rfl, szS hl, atI_nat (j := 0) rfl, rfl, _, rfl, ?_⟩
    rw [zero_S, dS]
    refine if2 (fun h3 => ?_) (fun h3 => ?_)
    · have e3 : c = 48 := by simpa using h3
      subst e3
      refine ⟨_, rfl, rfl, _, rfl, ?_⟩
      rw [dS]
      refine if2 (fun h4 => ?_) (fun h4 => ?_)
      · have e4 : (!(decide ((48 :: r).head? = some 48) && !decide (48 :: r = [48]))) = false := by rw [h4]; rfl
        rw [e4] at q
        exact q H1 s1
      · obtain ⟨n, f1, f2, f3⟩ := fin (by rw [h4]; rfl)
        exact ⟨_, rfl, _, n, rfl, f1, f2, _, _, rfl, rfl, f3⟩
    · have e3 : ¬ c = 48 := by simpa using h3
      obtain ⟨n, f1, f2, f3⟩ := fin (by rw [List.head?_cons, decide_eq_false (fun z => e3 (Option.some.inj z))]; rfl)
      exact ⟨_, rfl, _, n, rfl, f1, f2, _, _, rfl, rfl, f3⟩

/-! ### s1_is_label -/
theorem dash_S : ("-" : Str) = S [45] := by decide +kernel
def labSign (c : Nat) : Bool := decide (c ∈ cs_LABEL_SIGNS.cps.toList)
def isLabel (l : List Nat) : Bool := decide (1 ≤ l.length ∧ l.length ≤ 20) && !decide (l.head? = some 45) && !decide (l.getLast? = some 45) && l.all labSign
def sp_s1_is_label (K : PySem.W.Frag) : Sp := fun vs H Q _ => ∃ l : List Nat, vs = [vS l] ∧ l.length ≤ 100000 ∧ ∀ H', Same H H' → Q (.bl (isLabel l)) H'
theorem ok_s1_is_label (T : Txt K mg) : FnOk P w K mg base CX0 1 T.f_s1_is_label T.d_s1_is_label ["text"] (sp_s1_is_label K) := by
  refine T.F_s1_is_label.ok sc_s1_is_label (fun vs H Q E h => ?_) (fun cdv A outer s H vs Q E hr h => ?_)
  · obtain ⟨l, rfl, _⟩ := h
    rfl
  · obtain ⟨l, rfl, hl, q⟩ := h
    refine ⟨_, (pss_cons (ps_if (PW.pt (pw_or (pt_not (pt_chain op_le op_le pe_int (pe_callB call_len_str (by rfl) T.n_len (by decide +kernel) (pa_cons (pv 0) pa_nil)) (pe_glob (v := .int (20)) (by rfl) T.c_MOST_LABEL.choose_spec ⟨_, rfl⟩))) (pw_or (pt_cmpR op_eq (pe_ix ix_str (pv 0) pe_int (fun _ _ => rfl)) pe_str (nomark _)) (pw_or1 (pt_cmpR op_eq (pe_ix ix_str (pv 0) (pe_un un_neg pe_int) (fun _ _ => rfl)) pe_str (nomark _))))))
      (pss_one (ps_ret pe_bl))
      pss_nil)
      (pss_one (ps_ret (pe_callB (kAll (K := K) rfl rfl) (by rfl) T.n_all (by decide +kernel) (pa_cons (pe_lc (own := [("sign", 1)]) (g := gName 1) (tt := tYes) (by rfl) sc_s1_is_label.nd (pi_str (pv 0)) (blkOk_by (own := [("sign", 1)]) (N := N_s1_is_label) (sc := defScope S_s1_is_label) (by decide +kernel)) (fun _ _ _ _ _ => (pg_name (i := 1) sc_s1_is_label.nd rfl (.inl rfl))) (fun _ _ _ _ _ => pts_nil) (fun _ _ _ _ _ => (pe_cmpR op_in_sign (pv 1) (pe_glob (v := .str cs_LABEL_SIGNS) (by rfl) T.c_LABEL_SIGNS.choose_spec ⟨_, rfl⟩) (by rfl)))) pa_nil))))), ?_⟩
    unfold isLabel at q
    refine ⟨_, rfl, S l, rfl, szS hl, 1, _, rfl, rfl, _, rfl, ?_⟩
    rw [S_len]
    refine if2 (fun h1 => ?_) (fun h1 => ?_)
    · refine ⟨_, _, rfl, rfl, _, rfl, ?_⟩
      refine if2 (fun h2 => ?_) (fun h2 => ?_)
      · rw [decide_eq_false (by simp at h2; omega)] at q
        exact q H (Same.refl H)
      · have h3 : 1 ≤ l.length ∧ l.length ≤ 20 := by simp at h1 h2; omega
        rw [decide_eq_true h3, Bool.true_and] at q
        obtain ⟨c, r, rfl⟩ : ∃ c r, l = c :: r := by
          cases l with
          | nil => simp at h1
          | cons c r => exact ⟨c, r, rfl⟩
        refine ⟨_, rfl, S (c :: r), 0, c, rfl, rfl, szS hl, atI_nat (j := 0) rfl, rfl, _, rfl, ?_⟩
        rw [dash_S, dS]
        refine if2 (fun h4 => ?_) (fun h4 => ?_)
        · have e4 : c = 45 := by simpa using h4
          rw [List.head?_cons, e4, decide_eq_true rfl] at q
          exact q H (Same.refl H)
        · have e4 : ¬ c = 45 := by simpa using h4
          rw [List.head?_cons, decide_eq_false (fun z => e4 (Option.some.inj z)), Bool.not_false, Bool.true_and] at q
          have hg : (c :: r).getLast? = some ((c :: r).getLast (List.cons_ne_nil c r)) := List.getLast?_eq_some_getLast _
          rw [hg] at q
          generalize hx : (c :: r).getLast (List.cons_ne_nil c r) = x at q hg
          refine ⟨_, rfl, 1, rfl, S (c :: r), -1, x, rfl, rfl, szS hl, atI_neg1 hg, rfl, _, rfl, ?_⟩
          rw [dS]
          refine if2 (fun h5 => ?_) (fun h5 => ?_)
          · have e5 : x = 45 := by simpa using h5
            rw [e5, decide_eq_true rfl] at q
            exact q H (Same.refl H)
          · have e5 : ¬ x = 45 := by simpa using h5
            rw [decide_eq_false (fun z => e5 (Option.some.inj z)), Bool.not_false, Bool.true_and] at q
            refine ⟨_, rfl, S (c :: r), rfl, fun D hD => ?_⟩
            refine lc_str (f := fun c => .bl (labSign c)) hD hl (fun _ => rfl) (fun c hc H' s' Q' q' => ?_) (fun H' s' hL => ?_)
            · exact ⟨_, rfl, c, _, rfl, rfl, q' H' (Same.refl H')⟩
            · refine ⟨D, (c :: r).map labSign, rfl, ?_, ?_⟩
              · rw [← map_bl]
                exact SqL.of hL
              · rw [all_map]
                exact q H' s'
    · refine ⟨false, rfl, ?_⟩
      rw [decide_eq_false (by simp at h1; omega)] at q
      exact q H (Same.refl H)

/-! ### is_address_host -/
theorem dot_S : ("." : Str) = S [46] := by decide +kernel
def isAddr (l : List Nat) : Bool := decide ((parts 46 l).length = 4) && (parts 46 l).all isSmall
theorem parts_each (c : Nat) : ∀ {l : List Nat}, ∀ w ∈ parts c l, w.length ≤ l.length
  | [], w, h => by
    rw [parts_nil] at h
    rcases List.mem_cons.mp h with rfl | h
    · exact Nat.le_refl _
    · cases h
  | x :: l, w, h => by
    by_cases e : x = c
    · subst e
      rw [parts_hit] at h
      rcases List.mem_cons.mp h with rfl | h
      · exact Nat.zero_le _
      · exact Nat.le_succ_of_le (parts_each x w h)
    · obtain ⟨p, r, e1, e2⟩ := parts_miss e l
      rw [e2] at h
      rcases List.mem_cons.mp h with rfl | h
      · exact Nat.succ_le_succ (parts_each c p (by rw [e1]; exact List.mem_cons_self))
      · exact Nat.le_succ_of_le (parts_each c w (by rw [e1]; exact List.mem_cons_of_mem _ h))
theorem map_vS_bl (ws : List (List Nat)) (f : List Nat → Bool) : (ws.map vS).map (fun v => match v with | .str x => V.bl (f x.cps.toList) | _ => .non) = (ws.map f).map V.bl := by
  rw [List.map_map, List.map_map]
  rfl
def sp_is_address_host (K : PySem.W.Frag) : Sp := fun vs H Q _ => ∃ v, vs = [v] ∧ ((∃ l : List Nat, v = vS l ∧ l.length ≤ 50000 ∧ ∀ H', Same H H' → Q (.bl (isAddr l)) H') ∨ (NotStr K H v ∧ Q (.bl false) H))
theorem ok_is_address_host (T : Txt K mg) : FnOk P w K mg base CX0 3 T.f_is_address_host T.d_is_address_host ["value"] (sp_is_address_host K) := by
  refine T.F_is_address_host.ok sc_is_address_host (fun vs H Q E h => ?_) (fun cdv A outer s H vs Q E hr h => ?_)
  · obtain ⟨l, rfl, _⟩ := h
    rfl
  · obtain ⟨v, rfl, ⟨l, rfl, hl, q⟩ | ⟨⟨T0, hty, hk⟩, q⟩⟩ := h
    · refine ⟨_, (pss_cons (ps_if (pt_not (pt_val (pe_callB (kIsi (K := K) rfl) (by rfl) T.n_isinstance (by decide +kernel) (pa_cons (pv 0) (pa_cons (pe_bltn (v := .ty "str") (by rfl) T.n_str (by decide +kernel) rfl) pa_nil)))))
      (pss_one (ps_ret pe_bl))
      pss_nil)
      (pss_cons (ps_set (i := 1) sc_is_address_host.nd rfl (.inl rfl) (pe_split (pv 0) pe_str))
      (pss_one (ps_ret (pe_and (pe_cmpR op_eq (pe_callB (kLen (K := K) rfl) (by rfl) T.n_len (by decide +kernel) (pa_cons (pv 1) pa_nil)) pe_int (nomark _)) (pe_one (pe_callB (kAll (K := K) rfl rfl) (by rfl) T.n_all (by decide +kernel) (pa_cons (pe_lc (own := [("word", 2)]) (g := gName 2) (tt := tYes) (by rfl) sc_is_address_host.nd (kpList (K := K) rfl (pv 1)) (blkOk_by (own := [("word", 2)]) (N := N_is_address_host) (sc := defScope S_is_address_host) (by decide +kernel)) (fun _ _ _ _ _ => (pg_name (i := 2) sc_is_address_host.nd rfl (.inl rfl))) (fun _ _ _ _ _ => pts_nil) (fun _ _ _ _ _ => (pe_call (ok_s1_is_small T) (hr.mono (by decide)) (by rfl) T.g_s1_is_small T.F_s1_is_small.kp T.b_s1_is_small .nil pass0 (pa_cons (pv 2) pa_nil)))) pa_nil)))))))), ?_⟩
      unfold isAddr at q
      refine ⟨_, rfl, .str (S l), .ty "str", .type "str", .type "str", true, rfl, .ty _, .base (.str _), kit_ty (by decide +kernel), true, rfl, ?_⟩
      have lp := parts_len 46 l
      refine ⟨_, rfl, ⟨_, rfl⟩, S l, S [46], rfl, by rw [dot_S], rfl, by rw [S_len]; exact sz (by omega), fun a na => ?_⟩
      rw [split_S (by decide)]
      have ha : upd H a (.lst ((parts 46 l).map vS)) a = some (.lst ((parts 46 l).map vS)) := upd_same
      refine ⟨_, rfl, a, _, rfl, .inl (SqL.of ha), rfl, _, rfl, ?_⟩
      rw [List.length_map, dI]
      refine if2 (fun h1 => ?_) (fun h1 => ?_)
      · have e1 : (parts 46 l).length = 4 := by simp at h1; omega
        rw [decide_eq_true e1, Bool.true_and] at q
        refine ⟨_, rfl, a, rfl, ⟨_, SqL.of ha⟩, fun D hD => ?_⟩
        refine lc_lst (f := fun v => match v with | .str x => V.bl (isSmall x.cps.toList) | _ => .non) hD (by rw [List.length_map]; omega) (SqL.of ha) (fun _ => rfl) (fun c hc H' s' Q' q' => ?_) (fun H' s' hL => ?_)
        · obtain ⟨w, hw, rfl⟩ := List.mem_map.mp hc
          have := parts_each 46 w hw
          exact ⟨_, rfl, w, rfl, by omega, q'⟩
        · rw [map_vS_bl] at hL
          refine ⟨D, _, rfl, SqL.of hL, ?_⟩
          rw [all_map]
          exact q H' ((same_upd na).trans s')
      · have e1 : ¬ (parts 46 l).length = 4 := by simp at h1; omega
        rw [decide_eq_false e1] at q
        exact q _ (same_upd na)
    · refine ⟨_, (pss_cons (ps_if (pt_not (pt_val (pe_callB (kIsi (K := K) rfl) (by rfl) T.n_isinstance (by decide +kernel) (pa_cons (pv 0) (pa_cons (pe_bltn (v := .ty "str") (by rfl) T.n_str (by decide +kernel) rfl) pa_nil)))))
      (pss_one (ps_ret pe_bl))
      pss_nil)
      (pss_cons (ps_set (i := 1) sc_is_address_host.nd rfl (.inl rfl) (pe_split (pv 0) pe_str))
      (pss_one (ps_ret (pe_and (pe_cmpR op_eq (pe_callB (kLen (K := K) rfl) (by rfl) T.n_len (by decide +kernel) (pa_cons (pv 1) pa_nil)) pe_int (nomark _)) (pe_one (pe_callB (kAll (K := K) rfl rfl) (by rfl) T.n_all (by decide +kernel) (pa_cons (pe_lc (own := [("word", 2)]) (g := gName 2) (tt := tYes) (by rfl) sc_is_address_host.nd (kpList (K := K) rfl (pv 1)) (blkOk_by (own := [("word", 2)]) (N := N_is_address_host) (sc := defScope S_is_address_host) (by decide +kernel)) (fun _ _ _ _ _ => (pg_name (i := 2) sc_is_address_host.nd rfl (.inl rfl))) (fun _ _ _ _ _ => pts_nil) (fun _ _ _ _ _ => (pe_call (ok_s1_is_small T) (hr.mono (by decide)) (by rfl) T.g_s1_is_small T.F_s1_is_small.kp T.b_s1_is_small .nil pass0 (pa_cons (pv 2) pa_nil)))) pa_nil)))))))), ?_⟩
      exact ⟨_, rfl, v, .ty "str", .type T0, .type "str", false, rfl, .ty _, hty, kit_ty hk, false, rfl, q⟩

/-! ### is_host -/
def isHost (l : List Nat) : Bool := decide (l.length ≤ 100) && decide ((parts 46 l).length ≤ 10) && (parts 46 l).all isLabel && (!isNum ((parts 46 l).getLast (parts_ne 46 l)) || isAddr l)
def sp_is_host (K : PySem.W.Frag) : Sp := fun vs H Q _ => ∃ v, vs = [v] ∧ ((∃ l : List Nat, v = vS l ∧ l.length ≤ 50000 ∧ ∀ H', Same H H' → Q (.bl (isHost l)) H') ∨ (NotStr K H v ∧ Q (.bl false) H))
theorem ok_is_host (T : Txt K mg) : FnOk P w K mg base CX0 4 T.f_is_host T.d_is_host ["value"] (sp_is_host K) := by
  refine T.F_is_host.ok sc_is_host (fun vs H Q E h => ?_) (fun cdv A outer s H vs Q E hr h => ?_)
  · obtain ⟨l, rfl, _⟩ := h
    rfl
  · obtain ⟨v, rfl, ⟨l, rfl, hl, q⟩ | ⟨⟨T0, hty, hk⟩, q⟩⟩ := h
    · refine ⟨_, (pss_cons (ps_if (PW.pt (pw_or (pt_not (pt_val (pe_callB (kIsi (K := K) rfl) (by rfl) T.n_isinstance (by decide +kernel) (pa_cons (pv 0) (pa_cons (pe_bltn (v := .ty "str") (by rfl) T.n_str (by decide +kernel) rfl) pa_nil))))) (pw_or1 (pt_cmpR op_gt (pe_callB call_len_str (by rfl) T.n_len (by decide +kernel) (pa_cons (pv 0) pa_nil)) (pe_glob (v := .int (100)) (by rfl) T.c_MOST_SIGNS.choose_spec ⟨_, rfl⟩) (nomark _)))))
      (pss_one (ps_ret pe_bl))
      pss_nil)
      (pss_cons (ps_set (i := 1) sc_is_host.nd rfl (.inl rfl) (pe_split (pv 0) pe_str))
      (pss_cons (ps_if (PW.pt (pw_or (pt_cmpR op_gt (pe_callB (kLen (K := K) rfl) (by rfl) T.n_len (by decide +kernel) (pa_cons (pv 1) pa_nil)) (pe_glob (v := .int (10)) (by rfl) T.c_MOST_LABELS.choose_spec ⟨_, rfl⟩) (nomark _)) (pw_or1 (pt_not (pt_val (pe_callB (kAll (K := K) rfl rfl) (by rfl) T.n_all (by decide +kernel) (pa_cons (pe_lc (own := [("word", 2)]) (g := gName 2) (tt := tYes) (by rfl) sc_is_host.nd (kpList (K := K) rfl (pv 1)) (blkOk_by (own := [("word", 2)]) (N := N_is_host) (sc := defScope S_is_host) (by decide +kernel)) (fun _ _ _ _ _ => (pg_name (i := 2) sc_is_host.nd rfl (.inl rfl))) (fun _ _ _ _ _ => pts_nil) (fun _ _ _ _ _ => (pe_call (ok_s1_is_label T) (hr.mono (by decide)) (by rfl) T.g_s1_is_label T.F_s1_is_label.kp T.b_s1_is_label .nil pass0 (pa_cons (pv 2) pa_nil)))) pa_nil)))))))
      (pss_one (ps_ret pe_bl))
      pss_nil)
      (pss_one (ps_ret (pe_or (pe_not (pe_call (ok_s1_is_number_word T) (hr.mono (by decide)) (by rfl) T.g_s1_is_number_word T.F_s1_is_number_word.kp T.b_s1_is_number_word .nil pass0 (pa_cons (pe_ix (kIxL (K := K) rfl) (pv 1) (pe_un un_neg pe_int) (fun _ _ => rfl)) pa_nil))) (pe_one (pe_call (ok_is_address_host T) (hr.mono (by decide)) (by rfl) T.g_is_address_host T.F_is_address_host.kp T.b_is_address_host .nil pass0 (pa_cons (pv 0) pa_nil))))))))), ?_⟩
      unfold isHost at q
      refine ⟨_, rfl, .str (S l), .ty "str", .type "str", .type "str", true, rfl, .ty _, .base (.str _), kit_ty (by decide +kernel), true, rfl, ?_⟩
      refine ⟨_, rfl, S l, rfl, szS (by omega), _, _, rfl, rfl, _, rfl, ?_⟩
      rw [S_len]
      refine if2 (fun h1 => ?_) (fun h1 => ?_)
      · have e1 : ¬ l.length ≤ 100 := by simp at h1; omega
        rw [decide_eq_false e1] at q
        exact q H (Same.refl H)
      have e1 : l.length ≤ 100 := by simp at h1; omega
      rw [decide_eq_true e1, Bool.true_and] at q
      have lp := parts_len 46 l
      refine ⟨_, rfl, ⟨_, rfl⟩, S l, S [46], rfl, by rw [dot_S], rfl, by rw [S_len]; exact sz (by omega), fun a na => ?_⟩
      rw [split_S (by decide)]
      have ha : upd H a (.lst ((parts 46 l).map vS)) a = some (.lst ((parts 46 l).map vS)) := upd_same
      refine ⟨_, rfl, a, _, rfl, .inl (SqL.of ha), _, _, rfl, rfl, _, rfl, ?_⟩
      rw [List.length_map]
      refine if2 (fun h2 => ?_) (fun h2 => ?_)
      · have e2 : ¬ (parts 46 l).length ≤ 10 := by simp at h2; omega
        rw [decide_eq_false e2] at q
        exact q _ (same_upd na)
      have e2 : (parts 46 l).length ≤ 10 := by simp at h2; omega
      rw [decide_eq_true e2, Bool.true_and] at q
      refine ⟨_, rfl, a, rfl, ⟨_, SqL.of ha⟩, fun D hD => ?_⟩
      refine lc_lst (f := fun v => match v with | .str x => V.bl (isLabel x.cps.toList) | _ => .non) hD (by rw [List.length_map]; omega) (SqL.of ha) (fun _ => rfl) (fun c hc H' s' Q' q' => ?_) (fun H1 s1 hL => ?_)
      · obtain ⟨w, hw, rfl⟩ := List.mem_map.mp hc
        have := parts_each 46 w hw
        exact ⟨_, rfl, w, rfl, by omega, q'⟩
      rw [map_vS_bl] at hL
      have s1' := (same_upd na).trans s1
      refine ⟨D, _, rfl, SqL.of hL, _, rfl, ?_⟩
      rw [all_map]
      refine if2 (fun h3 => ?_) (fun h3 => ?_)
      · have e3 : (parts 46 l).all isLabel = false := by simpa using h3
        rw [e3] at q
        exact q H1 s1'
      have e3 : (parts 46 l).all isLabel = true := by simpa using h3
      rw [e3, Bool.true_and] at q
      have hg : ((parts 46 l).map vS).getLast? = some (vS ((parts 46 l).getLast (parts_ne 46 l))) := by
        rw [List.getLast?_map, List.getLast?_eq_some_getLast (parts_ne 46 l)]
        rfl
      have hw := parts_each 46 _ (List.getLast_mem (parts_ne 46 l))
      refine ⟨_, rfl, 1, rfl, a, _, _, _, rfl, rfl, SqL.of (s1 _ _ ha), atI_neg1 hg, _, rfl, by omega, fun H2 s2 => ?_⟩
      refine ⟨_, rfl, _, rfl, ?_⟩
      refine if2 (fun h4 => ?_) (fun h4 => ?_)
      · rw [h4] at q
        exact q H2 (s1'.trans s2)
      · rw [h4, Bool.false_or] at q
        exact ⟨_, rfl, _, rfl, .inl ⟨l, rfl, hl, fun H3 s3 => q H3 (s1'.trans (s2.trans s3))⟩⟩
    · refine ⟨_, (pss_cons (ps_if (PW.pt (pw_or (pt_not (pt_val (pe_callB (kIsi (K := K) rfl) (by rfl) T.n_isinstance (by decide +kernel) (pa_cons (pv 0) (pa_cons (pe_bltn (v := .ty "str") (by rfl) T.n_str (by decide +kernel) rfl) pa_nil))))) (pw_or1 (pt_cmpR op_gt (pe_callB call_len_str (by rfl) T.n_len (by decide +kernel) (pa_cons (pv 0) pa_nil)) (pe_glob (v := .int (100)) (by rfl) T.c_MOST_SIGNS.choose_spec ⟨_, rfl⟩) (nomark _)))))
      (pss_one (ps_ret pe_bl))
      pss_nil)
      (pss_cons (ps_set (i := 1) sc_is_host.nd rfl (.inl rfl) (pe_split (pv 0) pe_str))
      (pss_cons (ps_if (PW.pt (pw_or (pt_cmpR op_gt (pe_callB (kLen (K := K) rfl) (by rfl) T.n_len (by decide +kernel) (pa_cons (pv 1) pa_nil)) (pe_glob (v := .int (10)) (by rfl) T.c_MOST_LABELS.choose_spec ⟨_, rfl⟩) (nomark _)) (pw_or1 (pt_not (pt_val (pe_callB (kAll (K := K) rfl rfl) (by rfl) T.n_all (by decide +kernel) (pa_cons (pe_lc (own := [("word", 2)]) (g := gName 2) (tt := tYes) (by rfl) sc_is_host.nd (kpList (K := K) rfl (pv 1)) (blkOk_by (own := [("word", 2)]) (N := N_is_host) (sc := defScope S_is_host) (by decide +kernel)) (fun _ _ _ _ _ => (pg_name (i := 2) sc_is_host.nd rfl (.inl rfl))) (fun _ _ _ _ _ => pts_nil) (fun _ _ _ _ _ => (pe_call (ok_s1_is_label T) (hr.mono (by decide)) (by rfl) T.g_s1_is_label T.F_s1_is_label.kp T.b_s1_is_label .nil pass0 (pa_cons (pv 2) pa_nil)))) pa_nil)))))))
      (pss_one (ps_ret pe_bl))
      pss_nil)
      (pss_one (ps_ret (pe_or (pe_not (pe_call (ok_s1_is_number_word T) (hr.mono (by decide)) (by rfl) T.g_s1_is_number_word T.F_s1_is_number_word.kp T.b_s1_is_number_word .nil pass0 (pa_cons (pe_ix (kIxL (K := K) rfl) (pv 1) (pe_un un_neg pe_int) (fun _ _ => rfl)) pa_nil))) (pe_one (pe_call (ok_is_address_host T) (hr.mono (by decide)) (by rfl) T.g_is_address_host T.F_is_address_host.kp T.b_is_address_host .nil pass0 (pa_cons (pv 0) pa_nil))))))))), ?_⟩
      exact ⟨_, rfl, v, .ty "str", .type T0, .type "str", false, rfl, .ty _, hty, kit_ty hk, false, rfl, q⟩

/-! ### need_host -/
theorem isHost_len {l : List Nat} (h : isHost l = true) : l.length ≤ 100 ∧ (parts 46 l).length ≤ 10 ∧ (parts 46 l).all isLabel = true ∧ (isNum ((parts 46 l).getLast (parts_ne 46 l)) = false ∨ isAddr l = true) := by
  unfold isHost at h
  rw [Bool.and_eq_true, Bool.and_eq_true, Bool.and_eq_true, decide_eq_true_eq, decide_eq_true_eq, Bool.or_eq_true, Bool.not_eq_true'] at h
  exact ⟨h.1.1.1, h.1.1.2, h.1.2, h.2⟩
def sp_need_host (K : PySem.W.Frag) : Sp := fun vs H Q _ => ∃ l : List Nat, vs = [vS l] ∧ isHost l = true ∧ ∀ H', Same H H' → Q .non H'
theorem ok_need_host (T : Txt K mg) : FnOk P w K mg base CX0 5 T.f_need_host T.d_need_host ["value"] (sp_need_host K) := by
  refine T.F_need_host.ok sc_need_host (fun vs H Q E h => ?_) (fun cdv A outer s H vs Q E hr h => ?_)
  · obtain ⟨l, rfl, _⟩ := h
    rfl
  · obtain ⟨l, rfl, hl, q⟩ := h
    refine ⟨_, (pss_one (ps_if (pt_not (pt_val (pe_call (ok_is_host T) (hr.mono (by decide)) (by rfl) T.g_is_host T.F_is_host.kp T.b_is_host .nil pass0 (pa_cons (pv 0) pa_nil))))
      (pss_one ps_never)
      pss_nil)), ?_⟩
    have := (isHost_len hl).1
    refine ⟨_, rfl, _, rfl, .inl ⟨l, rfl, by omega, fun H' s' => ?_⟩⟩
    rw [hl]
    exact ⟨true, rfl, q H' s'⟩

/-! ### s1_fits -/
def hostFits (h d : List Nat) : Bool := decide (h = d) || (!isAddr h && (46 :: d).isSuffixOf h)
def sp_s1_fits (K : PySem.W.Frag) : Sp := fun vs H Q _ => ∃ h d : List Nat, vs = [vS h, vS d] ∧ h.length ≤ 50000 ∧ d.length ≤ 50000 ∧ ∀ H', Same H H' → Q (.bl (hostFits h d)) H'
theorem ok_s1_fits (T : Txt K mg) : FnOk P w K mg base CX0 4 T.f_s1_fits T.d_s1_fits ["host", "domain"] (sp_s1_fits K) := by
  refine T.F_s1_fits.ok sc_s1_fits (fun vs H Q E h => ?_) (fun cdv A outer s H vs Q E hr h => ?_)
  · obtain ⟨h, d, rfl, _⟩ := h
    rfl
  · obtain ⟨h, d, rfl, hh, hd, q⟩ := h
    refine ⟨_, (pss_one (ps_ret (pe_or (pe_cmpR op_eq (pv 0) (pv 1) (nomark _)) (pe_one (pe_and (pe_not (pe_call (ok_is_address_host T) (hr.mono (by decide)) (by rfl) T.g_is_address_host T.F_is_address_host.kp T.b_is_address_host .nil pass0 (pa_cons (pv 0) pa_nil))) (pe_one (pe_m1 PySem.F.slot_str_endswith PySem.F.type_str_endswith mt_endswith (pv 0) (pe_op op_add_str pe_str (pv 1))))))))), ?_⟩
    unfold hostFits at q
    refine ⟨_, rfl, _, rfl, rfl, _, rfl, ?_⟩
    rw [dS]
    refine if2 (fun h1 => ?_) (fun h1 => ?_)
    · rw [h1] at q
      exact q H (Same.refl H)
    rw [h1, Bool.false_or] at q
    refine ⟨_, rfl, _, rfl, .inl ⟨h, rfl, hh, fun H1 s1 => ⟨_, rfl, _, rfl, ?_⟩⟩⟩
    refine if2 (fun h2 => ?_) (fun h2 => ?_)
    · rw [h2, Bool.true_and] at q
      rw [dot_S]
      refine ⟨_, rfl, ⟨_, rfl⟩, _, rfl, S [46], S d, rfl, rfl, szadd (by simp only [List.length_singleton]; omega), S h, S [46] ++ S d, rfl, rfl, ?_⟩
      rw [S_cat, endswith_S]
      exact q H1 s1
    · rw [h2, Bool.false_and] at q
      exact q H1 s1

/-! ### host_fits -/
def sp_host_fits (K : PySem.W.Frag) : Sp := fun vs H Q _ => ∃ h d : List Nat, vs = [vS h, vS d] ∧ isHost h = true ∧ isHost d = true ∧ ∀ H', Same H H' → Q (.bl (hostFits h d)) H'
theorem ok_host_fits (T : Txt K mg) : FnOk P w K mg base CX0 6 T.f_host_fits T.d_host_fits ["host", "domain"] (sp_host_fits K) := by
  refine T.F_host_fits.ok sc_host_fits (fun vs H Q E h => ?_) (fun cdv A outer s H vs Q E hr h => ?_)
  · obtain ⟨h, d, rfl, _⟩ := h
    rfl
  · obtain ⟨h, d, rfl, hh, hd, q⟩ := h
    refine ⟨_, (pss_cons (ps_expr (pe_call (ok_need_host T) (hr.mono (by decide)) (by rfl) T.g_need_host T.F_need_host.kp T.b_need_host .nil pass0 (pa_cons (pv 0) pa_nil)))
      (pss_cons (ps_expr (pe_call (ok_need_host T) (hr.mono (by decide)) (by rfl) T.g_need_host T.F_need_host.kp T.b_need_host .nil pass0 (pa_cons (pv 1) pa_nil)))
      (pss_one (ps_ret (pe_call (ok_s1_fits T) (hr.mono (by decide)) (by rfl) T.g_s1_fits T.F_s1_fits.kp T.b_s1_fits .nil pass0 (pa_cons (pv 0) (pa_cons (pv 1) pa_nil))))))), ?_⟩
    have lh := (isHost_len hh).1
    have ld := (isHost_len hd).1
    refine ⟨_, rfl, h, rfl, hh, fun H1 s1 => ?_⟩
    refine ⟨_, rfl, d, rfl, hd, fun H2 s2 => ?_⟩
    exact ⟨_, rfl, _, rfl, h, d, rfl, by omega, by omega, fun H3 s3 => q H3 (s1.trans (s2.trans s3))⟩

/-! ### s1_is_rule -/
theorem bang_S : ("!" : Str) = S [33] := by decide +kernel
theorem star_S : ("*" : Str) = S [42] := by decide +kernel
def exc (r : List Nat) : Bool := [33].isPrefixOf r
def rbody (r : List Nat) : List Nat := r.drop (if exc r then 1 else 0)
def rwords (r : List Nat) : List (List Nat) := parts 46 (rbody r)
def isRule (r : List Nat) : Bool :=
  if (rwords r).head? = some [42] then !exc r && (decide ((rwords r).length > 1) && (rwords r).tail.all isLabel) else (rwords r).all isLabel && decide ((rwords r).length > if exc r then 1 else 0)
theorem cut_nat {α : Type} (l : List α) (k : Nat) : cut l (some (k : Int)) none = l.drop k := cut_from l k
theorem rlen (r : List Nat) : (rbody r).length ≤ r.length := by
  unfold rbody
  rw [List.length_drop]
  omega
theorem rwords_len (r : List Nat) : (rwords r).length ≤ r.length + 1 := Nat.le_trans (parts_len 46 _) (Nat.succ_le_succ (rlen r))
theorem rwords_each {r w : List Nat} (h : w ∈ rwords r) : w.length ≤ r.length := Nat.le_trans (parts_each 46 w h) (rlen r)
theorem rwords_ne (r : List Nat) : rwords r ≠ [] := parts_ne 46 _
def sp_s1_is_rule (K : PySem.W.Frag) : Sp := fun vs H Q _ => ∃ v, vs = [v] ∧ ((∃ l : List Nat, v = vS l ∧ l.length ≤ 50000 ∧ ∀ H', Same H H' → Q (.bl (isRule l)) H') ∨ (NotStr K H v ∧ Q (.bl false) H))
theorem ok_s1_is_rule (T : Txt K mg) : FnOk P w K mg base CX0 2 T.f_s1_is_rule T.d_s1_is_rule ["value"] (sp_s1_is_rule K) := by
  refine T.F_s1_is_rule.ok sc_s1_is_rule (fun vs H Q E h => ?_) (fun cdv A outer s H vs Q E hr h => ?_)
  · obtain ⟨l, rfl, _⟩ := h
    rfl
  · obtain ⟨v, rfl, ⟨l, rfl, hl, q⟩ | ⟨⟨T0, hty, hk⟩, q⟩⟩ := h
    · refine ⟨_, (pss_cons (ps_if (pt_not (pt_val (pe_callB (kIsi (K := K) rfl) (by rfl) T.n_isinstance (by decide +kernel) (pa_cons (pv 0) (pa_cons (pe_bltn (v := .ty "str") (by rfl) T.n_str (by decide +kernel) rfl) pa_nil)))))
      (pss_one (ps_ret pe_bl))
      pss_nil)
      (pss_cons (ps_set (i := 1) sc_s1_is_rule.nd rfl (.inl rfl) (pe_m1 PySem.F.slot_str_startswith PySem.F.type_str_startswith mt_startswith (pv 0) pe_str))
      (pss_cons (ps_set (i := 2) sc_s1_is_rule.nd rfl (.inl rfl) (pe_split (pe_slice sl_str (pv 0) (po_some (pe_callTy call_int1 (by rfl) T.n_int (by decide +kernel) (pa_cons (pv 1) pa_nil))) po_none) pe_str))
      (pss_cons (ps_if (pt_cmpR op_eq (pe_ix (kIxL (K := K) rfl) (pv 2) pe_int (fun _ _ => rfl)) pe_str (nomark _))
      (pss_one (ps_ret (pe_and (pe_not (pv 1)) (pe_and (pe_cmpR op_gt (pe_callB (kLen (K := K) rfl) (by rfl) T.n_len (by decide +kernel) (pa_cons (pv 2) pa_nil)) pe_int (nomark _)) (pe_one (pe_callB (kAll (K := K) rfl rfl) (by rfl) T.n_all (by decide +kernel) (pa_cons (pe_lc (own := [("word", 3)]) (g := gName 3) (tt := tYes) (by rfl) sc_s1_is_rule.nd (kpList (K := K) rfl (pe_slice (kSlL (K := K) rfl) (pv 2) (po_some pe_int) po_none)) (blkOk_by (own := [("word", 3)]) (N := N_s1_is_rule) (sc := defScope S_s1_is_rule) (by decide +kernel)) (fun _ _ _ _ _ => (pg_name (i := 3) sc_s1_is_rule.nd rfl (.inl rfl))) (fun _ _ _ _ _ => pts_nil) (fun _ _ _ _ _ => (pe_call (ok_s1_is_label T) (hr.mono (by decide)) (by rfl) T.g_s1_is_label T.F_s1_is_label.kp T.b_s1_is_label .nil pass0 (pa_cons (pv 3) pa_nil)))) pa_nil)))))))
      pss_nil)
      (pss_one (ps_ret (pe_and (pe_callB (kAll (K := K) rfl rfl) (by rfl) T.n_all (by decide +kernel) (pa_cons (pe_lc (own := [("word", 3)]) (g := gName 3) (tt := tYes) (by rfl) sc_s1_is_rule.nd (kpList (K := K) rfl (pv 2)) (blkOk_by (own := [("word", 3)]) (N := N_s1_is_rule) (sc := defScope S_s1_is_rule) (by decide +kernel)) (fun _ _ _ _ _ => (pg_name (i := 3) sc_s1_is_rule.nd rfl (.inl rfl))) (fun _ _ _ _ _ => pts_nil) (fun _ _ _ _ _ => (pe_call (ok_s1_is_label T) (hr.mono (by decide)) (by rfl) T.g_s1_is_label T.F_s1_is_label.kp T.b_s1_is_label .nil pass0 (pa_cons (pv 3) pa_nil)))) pa_nil)) (pe_one (pe_cmpR op_gt (pe_callB (kLen (K := K) rfl) (by rfl) T.n_len (by decide +kernel) (pa_cons (pv 2) pa_nil)) (pe_callTy call_int1 (by rfl) T.n_int (by decide +kernel) (pa_cons (pv 1) pa_nil)) (nomark _)))))))))), ?_⟩
      refine ⟨_, rfl, .str (S l), .ty "str", .type "str", .type "str", true, rfl, .ty _, .base (.str _), kit_ty (by decide +kernel), true, rfl, ?_⟩
      rw [bang_S, star_S, dot_S]
      refine ⟨_, rfl, ⟨_, rfl⟩, _, _, rfl, rfl, ?_⟩
      rw [startswith_S]
      have ex : [33].isPrefixOf l = exc l := rfl
      rw [ex]
      refine ⟨_, rfl, _, rfl, .inr ⟨_, rfl, _, rfl, _, rfl, szS (by omega), ?_⟩⟩
      rw [cutS_S]
      have ei : (if exc l = true then (1 : Int) else 0) = (((if exc l = true then 1 else 0 : Nat)) : Int) := by cases exc l <;> rfl
      rw [ei, cut_nat]
      have eb : l.drop (if exc l = true then 1 else 0) = rbody l := rfl
      rw [eb]
      have lb := rlen l
      refine ⟨⟨_, rfl⟩, S (rbody l), S [46], rfl, rfl, rfl, by rw [S_len]; exact sz (by omega), fun a na => ?_⟩
      rw [split_S (by decide)]
      have ew : parts 46 (rbody l) = rwords l := rfl
      rw [ew]
      generalize hHa : upd H a (.lst ((rwords l).map vS)) = Ha
      have sa : Same H Ha := by rw [← hHa]; exact same_upd na
      have ha : Ha a = some (.lst ((rwords l).map vS)) := by rw [← hHa]; exact upd_same
      have lw := rwords_len l
      have each : ∀ w ∈ rwords l, w.length ≤ 50000 := fun w h => Nat.le_trans (rwords_each h) hl
      obtain ⟨w0, r0, e0⟩ : ∃ w r, rwords l = w :: r := by
        cases e : rwords l with
        | nil => exact absurd e (rwords_ne l)
        | cons w r => exact ⟨w, r, rfl⟩
      have hat : atI ((rwords l).map vS) 0 = some (vS w0) := by
        rw [e0]
        exact atI_nat (j := 0) rfl
      have hd : (rwords l).head? = some w0 := by rw [e0]; rfl
      unfold isRule at q
      rw [hd] at q
      refine ⟨_, rfl, a, _, _, _, rfl, rfl, SqL.of ha, hat, rfl, _, rfl, ?_⟩
      rw [dS]
      refine if2 (fun h1 => ?_) (fun h1 => ?_)
      · have e1 : w0 = [42] := by simpa using h1
        rw [if_pos (by rw [e1])] at q
        refine ⟨_, rfl, _, rfl, _, rfl, ?_⟩
        refine if2 (fun h2 => ?_) (fun h2 => ?_)
        · rw [h2, Bool.true_and] at q
          refine ⟨_, rfl, a, _, rfl, .inl (SqL.of ha), _, _, rfl, rfl, _, rfl, ?_⟩
          rw [List.length_map]
          have ec : decide (((rwords l).length : Int) > 1) = decide ((rwords l).length > 1) := by
            rw [decide_eq_decide]
            omega
          rw [ec]
          refine if2 (fun h3 => ?_) (fun h3 => ?_)
          · rw [h3, Bool.true_and] at q
            refine ⟨_, rfl, 1, rfl, a, _, rfl, SqL.of ha, fun u nu => ?_⟩
            have et : cutV ((rwords l).map vS) (some 1) none = ((rwords l).tail).map vS := by
              rw [cutV_map, cut_f1, List.drop_one]
            rw [et]
            have hu : upd Ha u (.lst (((rwords l).tail).map vS)) u = some (.lst (((rwords l).tail).map vS)) := upd_same
            refine ⟨u, rfl, ⟨_, SqL.of hu⟩, fun D hD => ?_⟩
            refine lc_lst (f := fun v => match v with | .str x => V.bl (isLabel x.cps.toList) | _ => .non) hD (by rw [List.length_map, List.length_tail]; omega) (SqL.of hu) (fun _ => rfl) (fun c hc H' s' Q' q' => ?_) (fun H1 s1 hL => ?_)
            · obtain ⟨w, hw, rfl⟩ := List.mem_map.mp hc
              have := each w (List.mem_of_mem_tail hw)
              exact ⟨_, rfl, w, rfl, by omega, q'⟩
            · rw [map_vS_bl] at hL
              refine ⟨D, _, rfl, SqL.of hL, ?_⟩
              rw [all_map]
              exact q H1 (sa.trans ((same_upd nu).trans s1))
          · rw [h3, Bool.false_and] at q
            exact q _ sa
        · rw [h2, Bool.false_and] at q
          exact q _ sa
      · have e1 : ¬ w0 = [42] := by simpa using h1
        rw [if_neg (fun z => e1 (Option.some.inj z))] at q
        refine ⟨_, rfl, a, rfl, ⟨_, SqL.of ha⟩, fun D hD => ?_⟩
        refine lc_lst (f := fun v => match v with | .str x => V.bl (isLabel x.cps.toList) | _ => .non) hD (by rw [List.length_map]; omega) (SqL.of ha) (fun _ => rfl) (fun c hc H' s' Q' q' => ?_) (fun H1 s1 hL => ?_)
        · obtain ⟨w, hw, rfl⟩ := List.mem_map.mp hc
          have := each w hw
          exact ⟨_, rfl, w, rfl, by omega, q'⟩
        · rw [map_vS_bl] at hL
          refine ⟨D, _, rfl, SqL.of hL, ?_⟩
          rw [all_map]
          refine ⟨_, rfl, ?_⟩
          refine if2 (fun h2 => ?_) (fun h2 => ?_)
          · have h2' : (rwords l).all isLabel = true := by simpa using h2
            rw [h2', Bool.true_and] at q
            refine ⟨_, rfl, a, _, rfl, .inl (SqL.of (s1 _ _ ha)), _, rfl, .inr ⟨_, rfl, _, _, rfl, rfl, ?_⟩⟩
            rw [List.length_map]
            refine qb ?_ (q H1 (sa.trans s1))
            rw [ei, decide_eq_decide]
            omega
          · have h2' : (rwords l).all isLabel = false := by simpa using h2
            rw [h2', Bool.false_and] at q
            exact q H1 (sa.trans s1)
    · refine ⟨_, (pss_cons (ps_if (pt_not (pt_val (pe_callB (kIsi (K := K) rfl) (by rfl) T.n_isinstance (by decide +kernel) (pa_cons (pv 0) (pa_cons (pe_bltn (v := .ty "str") (by rfl) T.n_str (by decide +kernel) rfl) pa_nil)))))
      (pss_one (ps_ret pe_bl))
      pss_nil)
      (pss_cons (ps_set (i := 1) sc_s1_is_rule.nd rfl (.inl rfl) (pe_m1 PySem.F.slot_str_startswith PySem.F.type_str_startswith mt_startswith (pv 0) pe_str))
      (pss_cons (ps_set (i := 2) sc_s1_is_rule.nd rfl (.inl rfl) (pe_split (pe_slice sl_str (pv 0) (po_some (pe_callTy call_int1 (by rfl) T.n_int (by decide +kernel) (pa_cons (pv 1) pa_nil))) po_none) pe_str))
      (pss_cons (ps_if (pt_cmpR op_eq (pe_ix (kIxL (K := K) rfl) (pv 2) pe_int (fun _ _ => rfl)) pe_str (nomark _))
      (pss_one (ps_ret (pe_and (pe_not (pv 1)) (pe_and (pe_cmpR op_gt (pe_callB (kLen (K := K) rfl) (by rfl) T.n_len (by decide +kernel) (pa_cons (pv 2) pa_nil)) pe_int (nomark _)) (pe_one (pe_callB (kAll (K := K) rfl rfl) (by rfl) T.n_all (by decide +kernel) (pa_cons (pe_lc (own := [("word", 3)]) (g := gName 3) (tt := tYes) (by rfl) sc_s1_is_rule.nd (kpList (K := K) rfl (pe_slice (kSlL (K := K) rfl) (pv 2) (po_some pe_int) po_none)) (blkOk_by (own := [("word", 3)]) (N := N_s1_is_rule) (sc := defScope S_s1_is_rule) (by decide +kernel)) (fun _ _ _ _ _ => (pg_name (i := 3) sc_s1_is_rule.nd rfl (.inl rfl))) (fun _ _ _ _ _ => pts_nil) (fun _ _ _ _ _ => (pe_call (ok_s1_is_label T) (hr.mono (by decide)) (by rfl) T.g_s1_is_label T.F_s1_is_label.kp T.b_s1_is_label .nil pass0 (pa_cons (pv 3) pa_nil)))) pa_nil)))))))
      pss_nil)
      (pss_one (ps_ret (pe_and (pe_callB (kAll (K := K) rfl rfl) (by rfl) T.n_all (by decide +kernel) (pa_cons (pe_lc (own := [("word", 3)]) (g := gName 3) (tt := tYes) (by rfl) sc_s1_is_rule.nd (kpList (K := K) rfl (pv 2)) (blkOk_by (own := [("word", 3)]) (N := N_s1_is_rule) (sc := defScope S_s1_is_rule) (by decide +kernel)) (fun _ _ _ _ _ => (pg_name (i := 3) sc_s1_is_rule.nd rfl (.inl rfl))) (fun _ _ _ _ _ => pts_nil) (fun _ _ _ _ _ => (pe_call (ok_s1_is_label T) (hr.mono (by decide)) (by rfl) T.g_s1_is_label T.F_s1_is_label.kp T.b_s1_is_label .nil pass0 (pa_cons (pv 3) pa_nil)))) pa_nil)) (pe_one (pe_cmpR op_gt (pe_callB (kLen (K := K) rfl) (by rfl) T.n_len (by decide +kernel) (pa_cons (pv 2) pa_nil)) (pe_callTy call_int1 (by rfl) T.n_int (by decide +kernel) (pa_cons (pv 1) pa_nil)) (nomark _)))))))))), ?_⟩
      exact ⟨_, rfl, v, .ty "str", .type T0, .type "str", false, rfl, .ty _, hty, kit_ty hk, false, rfl, q⟩

/-! ### need_rules -/
/-- a tuple's texts that are rules for suffixes -/
structure GoodR (rs : List (List Nat)) : Prop where
  len : rs.length ≤ 30
  all : ∀ r ∈ rs, isRule r = true
  once : rs.Nodup
  short : ∀ r ∈ rs, r.length ≤ 50000
def knl (rs : List (List Nat)) : List (Key × V) := rs.map fun r => (.inr (S r), .bl true)
theorem knl_none {rs : List (List Nat)} {r : List Nat} (h : r ∉ rs) : valV (knl rs) (.inr (S r)) = none := by
  unfold valV knl
  rw [Option.map_eq_none_iff, List.find?_eq_none]
  intro x hx
  obtain ⟨y, hy, rfl⟩ := List.mem_map.mp hx
  rw [decide_eq_true_eq]
  intro z
  have z2 := S_inj (Sum.inr.inj z)
  exact h (z2 ▸ hy)
theorem nodup_at {α : Type} {l : List α} (h : l.Nodup) {i : Nat} {x : α} (e : l[i]? = some x) : x ∉ l.take i := by
  intro m
  obtain ⟨j, hj, ej⟩ := List.getElem_of_mem m
  rw [List.length_take] at hj
  rw [List.getElem_take] at ej
  obtain ⟨hi, ei⟩ := List.getElem?_eq_some_iff.mp e
  exact List.pairwise_iff_getElem.mp h j i (by omega) hi (by omega) (ej.trans ei.symm)
def sp_need_rules (K : PySem.W.Frag) : Sp := fun vs H Q _ => ∃ (a : Addr) (rs : List (List Nat)), vs = [.ref a] ∧ H a = some (.tup (rs.map vS)) ∧ GoodR rs ∧ ∀ H', Same H H' → Q .non H'
theorem ok_need_rules (T : Txt K mg) : FnOk P w K mg base CX0 3 T.f_need_rules T.d_need_rules ["rules"] (sp_need_rules K) := by
  refine T.F_need_rules.ok sc_need_rules (fun vs H Q E h => ?_) (fun cdv A outer s H vs Q E hr h => ?_)
  · obtain ⟨a, rs, rfl, _⟩ := h
    rfl
  · obtain ⟨a, rs, rfl, ha, G, q⟩ := h
    refine ⟨_, (pss_cons (ps_if (pt_not (pt_val (pe_callB (kIsi (K := K) rfl) (by rfl) T.n_isinstance (by decide +kernel) (pa_cons (pv 0) (pa_cons (pe_bltn (v := .ty "tuple") (by rfl) T.n_tuple (by decide +kernel) rfl) pa_nil)))))
      (pss_one ps_never)
      pss_nil)
      (pss_cons (ps_set (i := 1) sc_need_rules.nd rfl (.inl rfl) pe_dnewK)
      (pss_one (ps_for PassesOwn.never rfl (ET.pi_en (K := K) rfl (by rfl) T.n_enumerate (pa_cons (pv 0) pa_nil)) (pg_tup (by rfl) (pgs_cons (pg_name (i := 2) sc_need_rules.nd rfl (.inl rfl)) (pgs_cons (pg_name (i := 3) sc_need_rules.nd rfl (.inl rfl)) pgs_nil)))
      (pss_cons (ps_if (PW.pt (pw_or (pt_cmpR op_ge (pv 2) (pe_glob (v := .int (30)) (by rfl) T.c_MOST_RULES.choose_spec ⟨_, rfl⟩) (nomark _)) (pw_or (pt_not (pt_val (pe_call (ok_s1_is_rule T) (hr.mono (by decide)) (by rfl) T.g_s1_is_rule T.F_s1_is_rule.kp T.b_s1_is_rule .nil pass0 (pa_cons (pv 3) pa_nil)))) (pw_or1 (pt_cmp (pc_din (hu_of hr) (pv 3) (pv 1)))))))
      (pss_one ps_never)
      pss_nil)
      (pss_one (ps_dput (hu_of hr) (pv 1) (pv 3) pe_bl rfl))))))), ?_⟩
    refine ⟨_, rfl, .ref a, .ty "tuple", .type "tuple", .type "tuple", true, rfl, .ty _, .base (.tup ha), kit_ty (by decide +kernel), true, rfl, ?_⟩
    intro d nd
    refine ⟨_, rfl, a, _, rfl, .inl (.inl ((same_upd nd) _ _ ha)), for_it (n := (rs.map vS).length) ET.walk_en (fun i σ H' => Sx d H H' ∧ H' d = some (.dK (knl (rs.take i))) ∧ ∃ y2 y3, σ = [some (.ref a), some (.ref d), y2, y3])
      ⟨Sx.of (same_upd nd), upd_same, none, none, rfl⟩ (fun i σ H' hi hP => .inl (.inl (hP.1 _ _ (ne_of_none ha nd) ha))) (fun i x σ H1 H2 hi hP hY => ?_) (fun σ H1 hP => q H1 fun b o e => hP.1 b o (ne_of_none e nd) e)⟩
    obtain ⟨s1, hd, y2, y3, rfl⟩ := hP
    obtain ⟨T1, x1, x2, rfl, nT, rfl, e1, e2⟩ := hY
    cases e1
    obtain ⟨r, er, rfl⟩ : ∃ r, rs[i]? = some r ∧ x2 = vS r := by
      have e2 : (rs.map vS)[i]? = some x2 := e2
      rw [List.getElem?_map] at e2
      cases e : rs[i]? with
      | none => rw [e] at e2; cases e2
      | some z => rw [e] at e2; exact ⟨z, rfl, (Option.some.inj e2).symm⟩
    have mr := List.mem_of_getElem? er
    have hi30 : i < 30 := by
      have := (List.getElem?_eq_some_iff.mp er).1
      have := G.len
      omega
    refine ⟨T1, _, rfl, SqT.of upd_same, rfl, _, _, rfl, _, _, rfl, rfl, ?_⟩
    have nTd : T1 ≠ d := (ne_of_none hd nT).symm
    refine ⟨_, rfl, _, _, rfl, rfl, _, rfl, ?_⟩
    rw [decide_eq_false (by omega)]
    refine ⟨_, rfl, _, rfl, .inl ⟨r, rfl, G.short r mr, fun H3 s3 => ?_⟩⟩
    rw [G.all r mr]
    have hd3 : H3 d = some (.dK (knl (rs.take i))) := s3 _ _ (by rw [upd_ne (Ne.symm nTd)]; exact hd)
    refine ⟨_, rfl, _, rfl, _, rfl, d, _, rfl, DGet.k (k := .inr (S r)) hd3, ?_⟩
    have hn := knl_none (nodup_at G.once er)
    rw [hn]
    refine ⟨_, rfl, ?_⟩
    refine ⟨_, rfl, _, rfl, d, _, rfl, DPut.k (k := .inr (S r)) hd3 (szlt ?_), ?_⟩
    · unfold knl
      rw [List.length_map, List.length_take]
      omega
    · rw [putK_new _ hn]
      have hk : knl (rs.take (i + 1)) = knl (rs.take i) ++ [(.inr (S r), V.bl true)] := by
        unfold knl
        rw [List.take_add_one, er, List.map_append]
        rfl
      rw [← hk]
      exact ⟨((s1.trans (Sx.of (same_upd nT))).trans (Sx.of s3)).upd, upd_same, _, _, rfl⟩

/-! ### s1_matching -/
/-- a comprehension over a strict zip of two lists, one value each -/
theorem lc_zs {K : PySem.W.Frag} {a b : Addr} {xs ys : List V} {f : V → V → V} {g : TG} {te : TE} {vs : List Nat} {σ : L2.St} {H1 : Hp} {D : Addr} {Qd : Hp → Prop} (hl : xs.length = ys.length) (hz : xs.length ≤ 100000) (hD : H1 D = none)
    (hx : SqL K H1 a xs) (hy : SqL K H1 b ys)
    (hs : ∀ x y H' T, x ∈ xs → y ∈ ys → Same H1 H' → H' T = some (.tup [x, y]) → ∀ Q : VK, (∀ H'', Same H' H'' → Q (f x y) H'') → g (.ref T) (wipe σ vs) H' fun σ2 H2 => wipe σ2 vs = wipe σ vs ∧ te σ2 H2 Q)
    (hd : ∀ H', Same H1 H' → H' D = some (.lst ((xs.zip ys).map fun p => f p.1 p.2)) → Qd H') :
    ∃ W : Nat → Nat → Hp → Prop, (∃ m, W 0 m (upd H1 D (.lst []))) ∧ ∀ i m H, W i m H →
      ((ZS.ItS K a b).stop i H ∧ Qd H) ∨ ((ZS.ItS K a b).go i H ∧ ∃ Nx : Hp → Prop, (∀ H', Nx H' → ∃ m', m' < m ∧ W (i + 1) m' H') ∧ ∀ x H', (ZS.ItS K a b).yld i H x H' → g x (wipe σ vs) H' fun σ2 H2 => wipe σ2 vs = wipe σ vs ∧ tYes σ2 H2 fun b H3 =>
        if b = true then te σ2 H3 fun y H4 => ∃ acc, H4 D = some (.lst acc) ∧ acc.length < sizeLine ∧ Nx (upd H4 D (.lst (acc ++ [y]))) else Nx H3) := by
  refine lc_it (n := xs.length) (ZS.walk_zs hl) (fun i H' => Same H1 H' ∧ H' D = some (.lst (((xs.zip ys).take i).map fun p => f p.1 p.2))) ⟨same_upd hD, by rw [upd_same]; rfl⟩ (fun _ _ _ hP => ⟨hP.1.seq hx, hP.1.seq hy⟩) (fun i x H H' hi hP hY => ?_) (fun H' hP => ?_)
  · obtain ⟨T, u, v, rfl, nT, rfl, e1, e2⟩ := hY
    have e1 : xs[i]? = some u := e1
    have e2 : ys[i]? = some v := e2
    have nTD : T ≠ D := (ne_of_none hP.2 nT).symm
    refine hs u v _ T (List.mem_of_getElem? e1) (List.mem_of_getElem? e2) (hP.1.trans (same_upd nT)) upd_same _ fun H'' s'' => ⟨_, s'' _ _ (by rw [upd_ne (Ne.symm nTD)]; exact hP.2), szlt ?_, ?_, ?_⟩
    · rw [List.length_map, List.length_take, List.length_zip]
      omega
    · intro c o e
      rw [upd_ne (ne_of_none e hD)]
      exact s'' _ _ ((hP.1.trans (same_upd nT)) _ _ e)
    · have e3 : (xs.zip ys)[i]? = some (u, v) := by
        rw [List.getElem?_zip_eq_some]
        exact ⟨e1, e2⟩
      rw [upd_same, List.take_add_one, e3, List.map_append]
      rfl
  · refine hd H' hP.1 ?_
    rw [hP.2, List.take_of_length_le (by rw [List.length_zip]; omega)]
def okWord (w l : List Nat) : Bool := decide (w = [42]) || decide (w = l)
def matchR (r : List Nat) (ws : List (List Nat)) : Bool :=
  decide ((rwords r).length ≤ ws.length) && ((rwords r).zip (ws.drop (ws.length - (rwords r).length))).all fun p => okWord p.1 p.2
def excs (rs ws : List (List Nat)) : List Nat := (rs.filter fun r => exc r && matchR r ws).map fun r => (rwords r).length
def oths (rs ws : List (List Nat)) : List Nat := (rs.filter fun r => !exc r && matchR r ws).map fun r => (rwords r).length
theorem excs_snoc (l : List (List Nat)) (r : List Nat) (ws : List (List Nat)) : excs (l ++ [r]) ws = excs l ws ++ if (exc r && matchR r ws) = true then [(rwords r).length] else [] := by
  unfold excs
  rw [List.filter_append, List.map_append]
  cases h : (exc r && matchR r ws) <;> simp [List.filter, h]
theorem oths_snoc (l : List (List Nat)) (r : List Nat) (ws : List (List Nat)) : oths (l ++ [r]) ws = oths l ws ++ if (!exc r && matchR r ws) = true then [(rwords r).length] else [] := by
  unfold oths
  rw [List.filter_append, List.map_append]
  cases h : (!exc r && matchR r ws) <;> simp [List.filter, h]
theorem excs_len (l ws : List (List Nat)) : (excs l ws).length ≤ l.length := by
  unfold excs
  rw [List.length_map]
  exact List.length_filter_le _ _
theorem oths_len (l ws : List (List Nat)) : (oths l ws).length ≤ l.length := by
  unfold oths
  rw [List.length_map]
  exact List.length_filter_le _ _
theorem nil_dL {K : PySem.W.Frag} {H : Hp} {a : Addr} (h : H a = some (.lst [])) : Dp K H (.ref a) (dL []) := dp_L (ws := []) (SqL.of h)
theorem inV2 (w l : List Nat) : inV (vS w) [vS [42], vS l] = okWord w l := by
  have e : inV (vS w) [vS [42], vS l] = ((S [42] == S w) || ((S l == S w) || false)) := rfl
  rw [e, SX.S_beq_eq, SX.S_beq_eq, Bool.or_false]
  unfold okWord
  rw [decide_eq_decide.mpr (eq_comm (a := [42]) (b := w)), decide_eq_decide.mpr (eq_comm (a := l) (b := w))]
def sp_s1_matching (K : PySem.W.Frag) : Sp := fun vs H Q _ => ∃ (a b : Addr) (rs ws : List (List Nat)), vs = [.ref a, .ref b] ∧ H a = some (.tup (rs.map vS)) ∧ H b = some (.lst (ws.map vS)) ∧ rs.length ≤ 1000 ∧ ws.length ≤ 1000 ∧ (∀ r ∈ rs, r.length ≤ 50000) ∧ (∀ w ∈ ws, Asc w) ∧
  ∀ (H' : Hp) (p e o : Addr), Same H H' → H' p = some (.tup [.ref e, .ref o]) → H' e = some (.lst (nV (excs rs ws))) → H' o = some (.lst (nV (oths rs ws))) → Q (.ref p) H'
theorem ok_s1_matching (T : Txt K mg) : FnOk P w K mg base CX0 1 T.f_s1_matching T.d_s1_matching ["rules", "labels"] (sp_s1_matching K) := by
  refine T.F_s1_matching.ok sc_s1_matching (fun vs H Q E h => ?_) (fun cdv A outer s H vs Q E hr h => ?_)
  · obtain ⟨a, b, rs, ws, rfl, _⟩ := h
    rfl
  · obtain ⟨a, b, rs, ws, rfl, ha, hb, lr, lw, sr, aw, q⟩ := h
    refine ⟨_, (pss_cons (ps_par (by rfl) sc_s1_matching.nd (i := 2) (j := 3) rfl rfl (by decide) rfl rfl (pa_cons (pe_lst pa_nil) (pa_cons (pe_lst pa_nil) pa_nil)) (by rfl))
      (pss_cons (ps_for PassesOwn.never rfl (kpTup (K := K) rfl (pv 0)) (pg_name (i := 4) sc_s1_matching.nd rfl (.inl rfl))
      (pss_cons (ps_set (i := 5) sc_s1_matching.nd rfl (.inl rfl) (pe_m1 PySem.F.slot_str_startswith PySem.F.type_str_startswith mt_startswith (pv 4) pe_str))
      (pss_cons (ps_set (i := 6) sc_s1_matching.nd rfl (.inl rfl) (pe_split (pe_slice sl_str (pv 4) (po_some (pe_callTy call_int1 (by rfl) T.n_int (by decide +kernel) (pa_cons (pv 5) pa_nil))) po_none) pe_str))
      (pss_cons (ps_set (i := 7) sc_s1_matching.nd rfl (.inl rfl) (pe_ifExp (pt_cmpR op_le (pe_callB (kLen (K := K) rfl) (by rfl) T.n_len (by decide +kernel) (pa_cons (pv 6) pa_nil)) (pe_callB (kLen (K := K) rfl) (by rfl) T.n_len (by decide +kernel) (pa_cons (pv 1) pa_nil)) (nomark _)) (pe_slice (kSlL (K := K) rfl) (pv 1) (po_some (pe_op op_sub (pe_callB (kLen (K := K) rfl) (by rfl) T.n_len (by decide +kernel) (pa_cons (pv 1) pa_nil)) (pe_callB (kLen (K := K) rfl) (by rfl) T.n_len (by decide +kernel) (pa_cons (pv 6) pa_nil)))) po_none) (pe_lst pa_nil)))
      (pss_one (ps_if (PW.pt (pw_and (pt_cmpR (kNe (K := K) rfl hr.units) (pv 7) (pe_lst pa_nil) (nomark _)) (pw_and1 (pt_val (pe_callB (kAll (K := K) rfl rfl) (by rfl) T.n_all (by decide +kernel) (pa_cons (pe_lc (own := [("word", 8), ("label", 9)]) (g := gTup K 2 (gCons (gName 8) (gCons (gName 9) gNil))) (tt := tYes) (by rfl) sc_s1_matching.nd (ZS.pi_zs (K := K) rfl (by rfl) T.n_zip (pa_cons (pv 6) (pa_cons (pv 7) pa_nil))) (blkOk_by (own := [("word", 8), ("label", 9)]) (N := N_s1_matching) (sc := defScope S_s1_matching) (by decide +kernel)) (fun _ _ _ _ _ => (kgTup (K := K) rfl rfl (pgs_cons (pg_name (i := 8) sc_s1_matching.nd rfl (.inl rfl)) (pgs_cons (pg_name (i := 9) sc_s1_matching.nd rfl (.inl rfl)) pgs_nil)) rfl rfl)) (fun _ _ _ _ _ => pts_nil) (fun _ _ _ _ _ => (pe_cmpR (kIn (K := K) rfl) (pv 8) (pe_tup (pa_cons pe_str (pa_cons (pv 9) pa_nil))) (by rfl)))) pa_nil))))))
      (pss_one (ps_expr (pe_bm PySem.F.plainAttrs_list PySem.F.slot_list_append PySem.F.type_list_append mt_append (pe_ifExp (pt_val (pv 5)) (pv 2) (pv 3)) (pa_cons (pe_callB (kLen (K := K) rfl) (by rfl) T.n_len (by decide +kernel) (pa_cons (pv 6) pa_nil)) pa_nil))))
      pss_nil))))))
      (pss_one (ps_ret (pe_tup (pa_cons (pv 2) (pa_cons (pv 3) pa_nil))))))), ?_⟩
    rw [bang_S, star_S, dot_S]
    refine ⟨by show 0 ≤ sizeLine; decide, fun e ne => ⟨by show 0 ≤ sizeLine; decide, fun o no => ⟨_, _, rfl, ?_⟩⟩⟩
    have neo : e ≠ o := fun z => by rw [← z, upd_same] at no; cases no
    have no' : H o = none := same_back (same_upd ne) no
    have s0 : Same H (upd (upd H e (.lst [])) o (.lst [])) := (same_upd ne).trans (same_upd no)
    refine ⟨_, rfl, a, rfl, ⟨_, SqT.of (s0 _ _ ha)⟩, for_it (n := (rs.map vS).length) walk_tup (fun i σ H' => Same H H' ∧ H' e = some (.lst (nV (excs (rs.take i) ws))) ∧ H' o = some (.lst (nV (oths (rs.take i) ws))) ∧ ∃ y4 y5 y6 y7, σ = [some (.ref a), some (.ref b), some (.ref e), some (.ref o), y4, y5, y6, y7, none, none])
      ⟨s0, by rw [upd_ne neo]; exact upd_same, upd_same, none, none, none, none, rfl⟩ (fun i σ H' hi hP => SqT.of (hP.1 _ _ ha)) (fun i x σ H2 H1 hi hP hY => ?_) (fun σ H1 hP => ?_)⟩
    · obtain ⟨s1, he, ho, y4, y5, y6, y7, rfl⟩ := hP
      obtain ⟨rfl, hx⟩ := hY
      obtain ⟨r, er, rfl⟩ : ∃ r, rs[i]? = some r ∧ x = vS r := by
        rw [List.getElem?_map] at hx
        cases e : rs[i]? with
        | none => rw [e] at hx; cases hx
        | some z => rw [e] at hx; exact ⟨z, rfl, (Option.some.inj hx).symm⟩
      have mr := List.mem_of_getElem? er
      have lr1 := sr r mr
      have hb1 := s1 _ _ hb
      have nb : b ≠ e := ne_of_none hb ne
      -- is_exception, words
      refine ⟨_, rfl, ⟨_, rfl⟩, _, _, rfl, rfl, ?_⟩
      rw [startswith_S]
      have ex : [33].isPrefixOf r = exc r := rfl
      rw [ex]
      refine ⟨_, rfl, _, rfl, .inr ⟨_, rfl, _, rfl, _, rfl, szS (by omega), ?_⟩⟩
      rw [cutS_S]
      have ei : (if exc r = true then (1 : Int) else 0) = (((if exc r = true then 1 else 0 : Nat)) : Int) := by cases exc r <;> rfl
      rw [ei, cut_nat]
      have eb : r.drop (if exc r = true then 1 else 0) = rbody r := rfl
      rw [eb]
      have lb := rlen r
      refine ⟨⟨_, rfl⟩, S (rbody r), S [46], rfl, rfl, rfl, by rw [S_len]; exact sz (by omega), fun u nu => ?_⟩
      rw [split_S (by decide)]
      have ew : parts 46 (rbody r) = rwords r := rfl
      rw [ew]
      generalize hHu : upd H1 u (.lst ((rwords r).map vS)) = Hu
      have su : Same H1 Hu := by rw [← hHu]; exact same_upd nu
      have hu : Hu u = some (.lst ((rwords r).map vS)) := by rw [← hHu]; exact upd_same
      have hbu := su _ _ hb1
      have lw1 := rwords_len r
      have rne := rwords_ne r
      have rpos : 1 ≤ (rwords r).length := by
        cases e : rwords r with
        | nil => exact absurd e rne
        | cons a b => simp
      have e1 : rs.take (i + 1) = rs.take i ++ [r] := by rw [List.take_add_one, er]; rfl
      -- how the two lists stand behind the turn
      have skip : matchR r ws = false → excs (rs.take (i + 1)) ws = excs (rs.take i) ws ∧ oths (rs.take (i + 1)) ws = oths (rs.take i) ws := fun h => by
        rw [e1, excs_snoc, oths_snoc, h, Bool.and_false, Bool.and_false]
        exact ⟨List.append_nil _, List.append_nil _⟩
      -- tail
      refine ⟨_, rfl, u, _, rfl, .inl (SqL.of hu), _, rfl, b, _, rfl, .inl (SqL.of hbu), _, _, rfl, rfl, _, rfl, ?_⟩
      rw [List.length_map, List.length_map]
      refine if2 (fun h1 => ?_) (fun h1 => ?_)
      · have k1 : (rwords r).length ≤ ws.length := by simpa using h1
        refine ⟨_, rfl, _, rfl, b, _, rfl, .inl (SqL.of hbu), _, rfl, u, _, rfl, .inl (SqL.of hu), _, _, rfl, rfl, _, rfl, b, _, rfl, SqL.of hbu, fun v nv => ?_⟩
        rw [List.length_map, List.length_map]
        have ek : (ws.length : Int) - ((rwords r).length : Int) = ((ws.length - (rwords r).length : Nat) : Int) := by omega
        rw [ek, cutV_map, cut_from]
        generalize hd0 : ws.drop (ws.length - (rwords r).length) = tl
        have ltl : tl.length = (rwords r).length := by rw [← hd0, List.length_drop]; omega
        have atl : ∀ w ∈ tl, Asc w := fun w hw => aw w (List.mem_of_mem_drop (hd0 ▸ hw))
        have hv : upd Hu v (.lst (tl.map vS)) v = some (.lst (tl.map vS)) := upd_same
        refine ⟨_, rfl, by show 0 ≤ sizeLine; decide, fun t0 nt0 => ⟨dL tl, dL [], dp_L ((same_upd nt0).seq (SqL.of hv)), nil_dL upd_same, shaped_L atl, shaped_L (fun _ z => nomatch z), ?_⟩⟩
        rw [eqv_L, decide_eq_false (by intro z; rw [z] at ltl; simp at ltl; omega)]
        have sv : Same Hu (upd (upd Hu v (.lst (tl.map vS))) t0 (.lst [])) := (same_upd nv).trans (same_upd nt0)
        generalize hHv : upd (upd Hu v (.lst (tl.map vS))) t0 (.lst []) = Hv at sv
        have hvv : Hv v = some (.lst (tl.map vS)) := by rw [← hHv]; exact (same_upd nt0) _ _ hv
        refine ⟨_, rfl, _, rfl, _, rfl, u, v, _, _, rfl, SqL.of (sv _ _ hu), SqL.of hvv, fun D hD => ?_⟩
        refine lc_zs (f := fun x y => match x, y with | .str a, .str b => V.bl (okWord a.cps.toList b.cps.toList) | _, _ => .non) (by rw [List.length_map, List.length_map, ltl]) (by rw [List.length_map]; omega) hD (SqL.of (sv _ _ hu)) (SqL.of hvv) (fun x y H' T0 mx my s' hT Q' q' => ?_) (fun Hd sd hL => ?_)
        · obtain ⟨wx, hwx, rfl⟩ := List.mem_map.mp mx
          obtain ⟨wy, hwy, rfl⟩ := List.mem_map.mp my
          refine ⟨T0, _, rfl, SqT.of hT, rfl, _, _, rfl, _, _, rfl, rfl, rfl, ?_⟩
          refine ⟨_, rfl, _, rfl, by show 2 ≤ sizeLine; decide, fun t1 nt1 => ⟨t1, _, rfl, .inr (SqT.of upd_same), rfl, rfl, ?_⟩⟩
          show Q' (.bl (inV (vS wx) [vS [42], vS wy])) _
          rw [inV2]
          exact q' _ (same_upd nt1)
        · have eL : (((rwords r).map vS).zip (tl.map vS)).map (fun p => (match p.1, p.2 with | .str a, .str b => V.bl (okWord a.cps.toList b.cps.toList) | _, _ => V.non)) = (((rwords r).zip tl).map fun p => okWord p.1 p.2).map V.bl := by
            rw [List.zip_map, List.map_map, List.map_map]
            rfl
          rw [eL] at hL
          refine ⟨D, _, rfl, SqL.of hL, ?_⟩
          have hm : matchR r ws = (((rwords r).zip tl).map fun p => okWord p.1 p.2).all id := by
            unfold matchR
            rw [decide_eq_true k1, Bool.true_and, hd0, List.all_map]
            rfl
          rw [← hm]
          have sH : Same H1 Hd := su.trans (sv.trans sd)
          have hed := sH _ _ he
          have hod := sH _ _ ho
          have hud : Hd u = some (.lst ((rwords r).map vS)) := sd _ _ (sv _ _ hu)
          refine ⟨_, rfl, ?_⟩
          refine if2 (fun hm1 => ?_) (fun hm1 => ?_)
          · refine ⟨_, rfl, ?_⟩
            have ll := excs_len (rs.take i) ws
            have lo := oths_len (rs.take i) ws
            rw [List.length_take] at ll lo
            refine ⟨_, rfl, ?_⟩
            refine if2 (fun hx1 => ?_) (fun hx1 => ?_)
            · refine ⟨_, rfl, .inl ⟨rfl, _, SqL.of hed⟩, _, rfl, u, _, rfl, .inl (SqL.of hud), e, _, _, rfl, rfl, hed, szlt (by rw [nV_len]; omega), ?_⟩
              have g1 : excs (rs.take (i + 1)) ws = excs (rs.take i) ws ++ [(rwords r).length] := by rw [e1, excs_snoc, hm1, hx1]; rfl
              have g2 : oths (rs.take (i + 1)) ws = oths (rs.take i) ws := by rw [e1, oths_snoc, hm1, hx1]; exact List.append_nil _
              refine ⟨fun c x hc => ?_, ?_, ?_, _, _, _, _, rfl⟩
              · rw [upd_ne (ne_of_none hc ne)]
                exact sH _ _ (s1 _ _ hc)
              · rw [upd_same, g1, nV_app, List.length_map]
                rfl
              · rw [upd_ne (Ne.symm neo), g2]
                exact hod
            · refine ⟨_, rfl, .inl ⟨rfl, _, SqL.of hod⟩, _, rfl, u, _, rfl, .inl (SqL.of hud), o, _, _, rfl, rfl, hod, szlt (by rw [nV_len]; omega), ?_⟩
              have g1 : excs (rs.take (i + 1)) ws = excs (rs.take i) ws := by rw [e1, excs_snoc, hm1, hx1]; exact List.append_nil _
              have g2 : oths (rs.take (i + 1)) ws = oths (rs.take i) ws ++ [(rwords r).length] := by rw [e1, oths_snoc, hm1, hx1]; rfl
              refine ⟨fun c x hc => ?_, ?_, ?_, _, _, _, _, rfl⟩
              · rw [upd_ne (ne_of_none hc no')]
                exact sH _ _ (s1 _ _ hc)
              · rw [upd_ne neo, g1]
                exact hed
              · rw [upd_same, g2, nV_app, List.length_map]
                rfl
          · obtain ⟨f1, f2⟩ := skip hm1
            exact ⟨s1.trans sH, by rw [f1]; exact hed, by rw [f2]; exact hod, _, _, _, _, rfl⟩
      · have k1 : ¬ (rwords r).length ≤ ws.length := by simpa using h1
        refine ⟨by show 0 ≤ sizeLine; decide, fun v nv => ?_⟩
        have hv : upd Hu v (.lst []) v = some (.lst []) := upd_same
        refine ⟨_, rfl, by show 0 ≤ sizeLine; decide, fun t0 nt0 => ⟨dL [], dL [], nil_dL ((same_upd nt0) _ _ hv), nil_dL upd_same, shaped_L (fun _ z => nomatch z), shaped_L (fun _ z => nomatch z), ?_⟩⟩
        rw [eqv_L, decide_eq_true rfl]
        have sv : Same Hu (upd (upd Hu v (.lst [])) t0 (.lst [])) := (same_upd nv).trans (same_upd nt0)
        have hm : matchR r ws = false := by
          unfold matchR
          rw [decide_eq_false k1, Bool.false_and]
        obtain ⟨f1, f2⟩ := skip hm
        have sH : Same H1 (upd (upd Hu v (.lst [])) t0 (.lst [])) := su.trans sv
        exact ⟨_, rfl, s1.trans sH, by rw [f1]; exact sH _ _ he, by rw [f2]; exact sH _ _ ho, _, _, _, _, rfl⟩
    · obtain ⟨s1, he, ho, y4, y5, y6, y7, rfl⟩ := hP
      rw [List.length_map, List.take_length] at he ho
      exact ⟨_, rfl, _, rfl, by show 2 ≤ sizeLine; decide, fun p np => q _ p e o (s1.trans (same_upd np)) upd_same (by rw [upd_ne (ne_of_none he np)]; exact he) (by rw [upd_ne (ne_of_none ho np)]; exact ho)⟩

/-! ### s1_suffix -/
def many (rs ws : List (List Nat)) : Nat := if excs rs ws = [] then (if oths rs ws = [] then 1 else maxL (oths rs ws)) else maxL (excs rs ws) - 1
theorem excs_le {rs ws : List (List Nat)} {k : Nat} (h : k ∈ excs rs ws) : k ≤ ws.length := by
  unfold excs at h
  obtain ⟨r, hr, rfl⟩ := List.mem_map.mp h
  have h1 := (List.mem_filter.mp hr).2
  rw [Bool.and_eq_true] at h1
  have h2 := h1.2
  unfold matchR at h2
  rw [Bool.and_eq_true, decide_eq_true_eq] at h2
  exact h2.1
theorem oths_le {rs ws : List (List Nat)} {k : Nat} (h : k ∈ oths rs ws) : k ≤ ws.length := by
  unfold oths at h
  obtain ⟨r, hr, rfl⟩ := List.mem_map.mp h
  have h1 := (List.mem_filter.mp hr).2
  rw [Bool.and_eq_true] at h1
  have h2 := h1.2
  unfold matchR at h2
  rw [Bool.and_eq_true, decide_eq_true_eq] at h2
  exact h2.1
theorem many_le {rs ws : List (List Nat)} (h : 1 ≤ ws.length) : many rs ws ≤ ws.length := by
  unfold many
  by_cases h1 : excs rs ws = []
  · rw [if_pos h1]
    by_cases h2 : oths rs ws = []
    · rw [if_pos h2]
      exact h
    · rw [if_neg h2]
      exact oths_le (maxL_mem h2)
  · rw [if_neg h1]
    have := excs_le (maxL_mem h1)
    omega
def sufT (rs : List (List Nat)) (l : List Nat) : List Nat := TL.joinL [46] ((parts 46 l).drop ((parts 46 l).length - many rs (parts 46 l)))
theorem parts_pos (c : Nat) (l : List Nat) : 1 ≤ (parts c l).length := by
  cases e : parts c l with
  | nil => exact absurd e (parts_ne c l)
  | cons a b => simp
theorem label_asc0 {w : List Nat} (h : isLabel w = true) : Asc w := fun c hc => by
  unfold isLabel at h
  rw [Bool.and_eq_true] at h
  have h1 := List.all_eq_true.mp h.2 c hc
  have h2 : ∀ c ∈ cs_LABEL_SIGNS.cps.toList, c < 128 := by decide +kernel
  exact h2 c (of_decide_eq_true h1)
theorem host_asc0 {l : List Nat} (h : isHost l = true) : ∀ w ∈ parts 46 l, Asc w := fun w hw => label_asc0 (List.all_eq_true.mp (isHost_len h).2.2.1 w hw)
def sp_s1_suffix (K : PySem.W.Frag) : Sp := fun vs H Q _ => ∃ (a : Addr) (rs : List (List Nat)) (l : List Nat), vs = [.ref a, vS l] ∧ H a = some (.tup (rs.map vS)) ∧ GoodR rs ∧ isHost l = true ∧ ∀ H', Same H H' → Q (if isAddr l = true then .non else vS (sufT rs l)) H'
theorem ok_s1_suffix (T : Txt K mg) : FnOk P w K mg base CX0 4 T.f_s1_suffix T.d_s1_suffix ["rules", "host"] (sp_s1_suffix K) := by
  refine T.F_s1_suffix.ok sc_s1_suffix (fun vs H Q E h => ?_) (fun cdv A outer s H vs Q E hr h => ?_)
  · obtain ⟨a, rs, l, rfl, _⟩ := h
    rfl
  · obtain ⟨a, rs, l, rfl, ha, G, hl, q⟩ := h
    refine ⟨_, (pss_cons (ps_if (pt_val (pe_call (ok_is_address_host T) (hr.mono (by decide)) (by rfl) T.g_is_address_host T.F_is_address_host.kp T.b_is_address_host .nil pass0 (pa_cons (pv 1) pa_nil)))
      (pss_one (ps_ret pe_non))
      pss_nil)
      (pss_cons (ps_set (i := 2) sc_s1_suffix.nd rfl (.inl rfl) (pe_split (pv 1) pe_str))
      (pss_cons (ps_asg (pe_call (ok_s1_matching T) (hr.mono (by decide)) (by rfl) T.g_s1_matching T.F_s1_matching.kp T.b_s1_matching .nil pass0 (pa_cons (pv 0) (pa_cons (pv 2) pa_nil))) (pg_tup (by rfl) (pgs_cons (pg_name (i := 3) sc_s1_suffix.nd rfl (.inl rfl)) (pgs_cons (pg_name (i := 4) sc_s1_suffix.nd rfl (.inl rfl)) pgs_nil))))
      (pss_cons (ps_set (i := 5) sc_s1_suffix.nd rfl (.inl rfl) (pe_ifExp (pt_cmpR (kNe (K := K) rfl hr.units) (pv 3) (pe_lst pa_nil) (nomark _)) (pe_op op_sub (pe_callB (kMax (K := K) rfl rfl) (by rfl) T.n_max (by decide +kernel) (pa_cons (pv 3) pa_nil)) pe_int) (pe_callBK (MD.cr_md (K := K) rfl rfl) (by rfl) T.n_max (by decide +kernel) (pa_cons (pv 4) pa_nil) (pk_cons pe_int pk_nil))))
      (pss_one (ps_ret (pe_m1 PySem.F.slot_str_join PySem.F.type_str_join (kJoin (K := K) rfl) pe_str (pe_slice (kSlL (K := K) rfl) (pv 2) (po_some (pe_op op_sub (pe_callB (kLen (K := K) rfl) (by rfl) T.n_len (by decide +kernel) (pa_cons (pv 2) pa_nil)) (pv 5))) po_none)))))))), ?_⟩
    rw [dot_S]
    have ll := (isHost_len hl).1
    have lw := (isHost_len hl).2.1
    have lpos := parts_pos 46 l
    refine ⟨_, rfl, _, rfl, .inl ⟨l, rfl, by omega, fun H1 s1 => ⟨_, rfl, ?_⟩⟩⟩
    refine if2 (fun h1 => ?_) (fun h1 => ?_)
    · rw [if_pos h1] at q
      exact q H1 s1
    rw [if_neg (by rw [h1]; exact Bool.false_ne_true)] at q
    refine ⟨_, rfl, ⟨_, rfl⟩, S l, S [46], rfl, rfl, rfl, by rw [S_len]; exact sz (by omega), fun b nb => ?_⟩
    rw [split_S (by decide)]
    generalize hH2 : upd H1 b (.lst ((parts 46 l).map vS)) = H2
    have s2 : Same H H2 := s1.trans (by rw [← hH2]; exact same_upd nb)
    have hb : H2 b = some (.lst ((parts 46 l).map vS)) := by rw [← hH2]; exact upd_same
    have lr := G.len
    refine ⟨_, rfl, _, rfl, a, b, rs, parts 46 l, rfl, s2 _ _ ha, hb, by omega, by omega, G.short, host_asc0 hl, fun H3 p e o s3 hp he ho => ?_⟩
    have hb3 := s3 _ _ hb
    refine ⟨p, _, rfl, SqT.of hp, rfl, _, _, rfl, _, _, rfl, rfl, ?_⟩
    have le : (excs rs (parts 46 l)).length ≤ 30 := Nat.le_trans (excs_len _ _) lr
    have lm := many_le (rs := rs) lpos
    have done : ∀ H5, Same H3 H5 → tRet (tM1 (rJoinQ K) (tC (V.str (S [46]))) (tSl (rSlL K) (tVar 2) (tPart (tOp (rI0 fun i j => V.int (i - j)) (tCB (rLenQ K) (tCons (tVar 2) tNil)) (tVar 5))) tNoPart)) { nx := fun x H' => Q V.non H', rt := Q }
        [some (.ref a), some (vS l), some (.ref b), some (.ref e), some (.ref o), some (.int (many rs (parts 46 l) : Nat))] H5 := fun H5 s5 => by
      have hb5 := s5 _ _ hb3
      refine ⟨⟨_, rfl⟩, _, rfl, _, rfl, b, _, rfl, .inl (SqL.of hb5), _, rfl, _, _, rfl, rfl, _, rfl, b, _, rfl, SqL.of hb5, fun u nu => ?_⟩
      rw [List.length_map]
      have ek : ((parts 46 l).length : Int) - ((many rs (parts 46 l) : Nat) : Int) = (((parts 46 l).length - many rs (parts 46 l) : Nat) : Int) := by omega
      rw [ek, cutV_map, cut_from]
      have lj := join_drop_len 46 (parts 46 l) ((parts 46 l).length - many rs (parts 46 l))
      rw [join_parts] at lj
      refine ⟨S [46], u, ((parts 46 l).drop ((parts 46 l).length - many rs (parts 46 l))).map S, rfl, rfl, .inl (SqL.of ?_), size_join (by omega), ?_⟩
      · rw [upd_same, List.map_map]
        rfl
      rw [join_S]
      exact q _ ((s2.trans s3).trans (s5.trans (same_upd nu)))
    refine ⟨_, rfl, by show 0 ≤ sizeLine; decide, fun t0 nt0 => ⟨dN (excs rs (parts 46 l)), dN [], dp_N (SqL.of ((same_upd nt0) _ _ he)), dp_N (SqL.of upd_same), shaped_N _, shaped_N _, ?_⟩⟩
    rw [eqv_N]
    have s4 : Same H3 (upd H3 t0 (.lst [])) := same_upd nt0
    generalize upd H3 t0 (.lst []) = H4 at s4
    refine ⟨_, rfl, ?_⟩
    refine if2 (fun h2 => ?_) (fun h2 => ?_)
    · have e2 : excs rs (parts 46 l) ≠ [] := by simpa using h2
      refine ⟨_, rfl, e, zs (excs rs (parts 46 l)), rfl, SqL.of (by rw [← nV_zs]; exact s4 _ _ he), ?_, fun m hm1 hm2 => ?_⟩
      · unfold zs
        rw [List.length_map]
        exact List.length_pos_iff.mpr e2
      rw [maxL_is hm1 hm2]
      refine ⟨_, _, rfl, rfl, ?_⟩
      have em : ((maxL (excs rs (parts 46 l)) : Nat) : Int) - 1 = ((many rs (parts 46 l) : Nat) : Int) := by
        unfold many
        rw [if_neg e2]
        have h3 := maxL_mem e2
        have h4 : 1 ≤ maxL (excs rs (parts 46 l)) := by
          unfold excs at h3
          obtain ⟨r, hr, er⟩ := List.mem_map.mp h3
          have := parts_pos 46 (rbody r)
          have e5 : (parts 46 (rbody r)).length = maxL (excs rs (parts 46 l)) := er
          omega
        omega
      have d := done H4 s4
      rw [← em] at d
      exact d
    · have e2 : excs rs (parts 46 l) = [] := by simpa using h2
      refine ⟨_, rfl, o, zs (oths rs (parts 46 l)), 1, rfl, rfl, SqL.of (by rw [← nV_zs]; exact s4 _ _ ho), fun m hm => ?_⟩
      have em : m = ((many rs (parts 46 l) : Nat) : Int) := by
        unfold many
        rw [if_pos e2]
        rcases hm with ⟨h3, rfl⟩ | ⟨h3, h4⟩
        · have h5 : oths rs (parts 46 l) = [] := List.map_eq_nil_iff.mp h3
          rw [if_pos h5]
          rfl
        · rw [if_neg (fun z => by rw [z] at h3; cases h3)]
          exact maxL_is h3 h4
      rw [em]
      exact done H4 s4

/-! ### s1_family -/
/-- how many labels the family has -/
def famN (rs ws : List (List Nat)) : Nat := if many rs ws = ws.length then ws.length else many rs ws + 1
def famT (rs : List (List Nat)) (l : List Nat) : List Nat := if isAddr l = true then l else TL.joinL [46] ((parts 46 l).drop ((parts 46 l).length - famN rs (parts 46 l)))
theorem host_nodot {l : List Nat} (h : isHost l = true) : ∀ w ∈ parts 46 l, 46 ∉ w := fun w hw m => by
  have h1 := List.all_eq_true.mp (isHost_len h).2.2.1 w hw
  unfold isLabel at h1
  rw [Bool.and_eq_true] at h1
  have h2 := List.all_eq_true.mp h1.2 46 m
  have h3 : labSign 46 = false := by decide +kernel
  rw [h3] at h2
  cases h2
theorem parts_drop {l : List Nat} (h : isHost l = true) {k : Nat} (hk : k < (parts 46 l).length) : parts 46 (TL.joinL [46] ((parts 46 l).drop k)) = (parts 46 l).drop k :=
  TL.spl_join (fun z => by have := congrArg List.length z; rw [List.length_drop] at this; simp at this; omega) fun w hw => host_nodot h w (List.mem_of_mem_drop hw)
theorem many_pos {rs ws : List (List Nat)} (G : GoodR rs) : 1 ≤ many rs ws := by
  unfold many
  by_cases h1 : excs rs ws = []
  · rw [if_pos h1]
    by_cases h2 : oths rs ws = []
    · rw [if_pos h2]
      exact Nat.le_refl _
    · rw [if_neg h2]
      have h3 := maxL_mem h2
      unfold oths at h3
      obtain ⟨r, hr, er⟩ := List.mem_map.mp h3
      have := parts_pos 46 (rbody r)
      have e5 : (parts 46 (rbody r)).length = maxL (oths rs ws) := er
      omega
  · rw [if_neg h1]
    have h3 := maxL_mem h1
    unfold excs at h3
    obtain ⟨r, hr, er⟩ := List.mem_map.mp h3
    have hm := List.mem_filter.mp hr
    have h4 := G.all r hm.1
    have h5 : exc r = true := by
      have := hm.2
      rw [Bool.and_eq_true] at this
      exact this.1
    have er' : (rwords r).length = maxL (excs rs ws) := er
    unfold isRule at h4
    rw [h5] at h4
    split at h4
    · simp at h4
    · rw [Bool.and_eq_true, decide_eq_true_eq] at h4
      have h6 : (rwords r).length > 1 := h4.2
      omega
def sp_s1_family (K : PySem.W.Frag) : Sp := fun vs H Q _ => ∃ (a : Addr) (rs : List (List Nat)) (l : List Nat), vs = [.ref a, vS l] ∧ H a = some (.tup (rs.map vS)) ∧ GoodR rs ∧ isHost l = true ∧ ∀ H', Same H H' → Q (vS (famT rs l)) H'
theorem ok_s1_family (T : Txt K mg) : FnOk P w K mg base CX0 5 T.f_s1_family T.d_s1_family ["rules", "host"] (sp_s1_family K) := by
  refine T.F_s1_family.ok sc_s1_family (fun vs H Q E h => ?_) (fun cdv A outer s H vs Q E hr h => ?_)
  · obtain ⟨a, rs, l, rfl, _⟩ := h
    rfl
  · obtain ⟨a, rs, l, rfl, ha, G, hl, q⟩ := h
    refine ⟨_, (pss_cons (ps_set (i := 2) sc_s1_family.nd rfl (.inl rfl) (pe_call (ok_s1_suffix T) (hr.mono (by decide)) (by rfl) T.g_s1_suffix T.F_s1_suffix.kp T.b_s1_suffix .nil pass0 (pa_cons (pv 0) (pa_cons (pv 1) pa_nil))))
      (pss_cons (ps_if (PW.pt (pw_or (pt_cmpR op_isN (pv 2) pe_non (nomark _)) (pw_or1 (pt_cmpR op_eq (pv 2) (pv 1) (nomark _)))))
      (pss_one (ps_ret (pv 1)))
      pss_nil)
      (pss_one (ps_ret (pe_m1 PySem.F.slot_str_join PySem.F.type_str_join (kJoin (K := K) rfl) pe_str (pe_slice (kSlL (K := K) rfl) (pe_split (pv 1) pe_str) (po_some (pe_op op_sub (pe_un un_neg (pe_m1 PySem.F.slot_str_count PySem.F.type_str_count mt_count (pv 2) pe_str)) pe_int)) po_none)))))), ?_⟩
    rw [dot_S]
    have ll := (isHost_len hl).1
    have lw := (isHost_len hl).2.1
    have lpos := parts_pos 46 l
    have lm := many_le (rs := rs) lpos
    have mp := many_pos (ws := parts 46 l) G
    unfold famT at q
    refine ⟨_, rfl, _, rfl, a, rs, l, rfl, ha, G, hl, fun H1 s1 => ?_⟩
    by_cases h1 : isAddr l = true
    · rw [if_pos h1]
      rw [if_pos h1] at q
      exact ⟨_, rfl, rfl, _, rfl, _, rfl, q H1 s1⟩
    · rw [if_neg h1]
      rw [if_neg h1] at q
      have es : (sufT rs l = l) ↔ many rs (parts 46 l) = (parts 46 l).length := by
        constructor
        · intro z
          have z2 := congrArg (parts 46) z
          unfold sufT at z2
          rw [parts_drop hl (by omega)] at z2
          have z3 := congrArg List.length z2
          rw [List.length_drop] at z3
          omega
        · intro z
          unfold sufT
          rw [z, Nat.sub_self, List.drop_zero, join_parts]
      refine ⟨_, rfl, rfl, _, rfl, ?_⟩
      refine ⟨_, rfl, _, rfl, rfl, _, rfl, ?_⟩
      rw [dS]
      refine if2 (fun h2 => ?_) (fun h2 => ?_)
      · have e2 : sufT rs l = l := of_decide_eq_true h2
        have e3 := es.mp e2
        have e4 : famN rs (parts 46 l) = (parts 46 l).length := by
          unfold famN
          rw [if_pos e3]
        rw [e4, Nat.sub_self, List.drop_zero, join_parts] at q
        exact ⟨_, rfl, q H1 s1⟩
      · have e2 : ¬ sufT rs l = l := of_decide_eq_false h2
        have e3 : ¬ many rs (parts 46 l) = (parts 46 l).length := fun z => e2 (es.mpr z)
        have e4 : famN rs (parts 46 l) = many rs (parts 46 l) + 1 := by
          unfold famN
          rw [if_neg e3]
        rw [e4] at q
        have ps : (parts 46 (sufT rs l)).length = many rs (parts 46 l) := by
          unfold sufT
          rw [parts_drop hl (by omega), List.length_drop]
          omega
        refine ⟨⟨_, rfl⟩, _, rfl, ⟨_, rfl⟩, S l, S [46], rfl, rfl, rfl, by rw [S_len]; exact sz (by omega), fun u nu => ?_⟩
        rw [split_S (by decide)]
        refine ⟨_, rfl, ⟨_, rfl⟩, _, _, rfl, rfl, ?_⟩
        rw [count_S, ps]
        have hu : upd H1 u (.lst ((parts 46 l).map vS)) u = some (.lst ((parts 46 l).map vS)) := upd_same
        refine ⟨_, rfl, _, _, rfl, rfl, _, rfl, u, _, rfl, SqL.of hu, fun v nv => ?_⟩
        have ek : -(((many rs (parts 46 l) : Nat) : Int) - 1) - 2 = -((many rs (parts 46 l) + 1 : Nat) : Int) := by omega
        rw [ek, cutV_map, cut_neg _ (by omega) (by omega)]
        have lj := join_drop_len 46 (parts 46 l) ((parts 46 l).length - (many rs (parts 46 l) + 1))
        rw [join_parts] at lj
        refine ⟨S [46], v, ((parts 46 l).drop ((parts 46 l).length - (many rs (parts 46 l) + 1))).map S, rfl, rfl, .inl (SqL.of ?_), size_join (by omega), ?_⟩
        · rw [upd_same, List.map_map]
          rfl
        rw [join_S]
        exact q _ (s1.trans ((same_upd nu).trans (same_upd nv)))

/-! ### need_both -/
def sp_need_both (K : PySem.W.Frag) : Sp := fun vs H Q _ => ∃ (a : Addr) (rs : List (List Nat)) (l : List Nat), vs = [.ref a, vS l] ∧ H a = some (.tup (rs.map vS)) ∧ GoodR rs ∧ isHost l = true ∧ ∀ H', Same H H' → Q .non H'
theorem ok_need_both (T : Txt K mg) : FnOk P w K mg base CX0 6 T.f_need_both T.d_need_both ["rules", "host"] (sp_need_both K) := by
  refine T.F_need_both.ok sc_need_both (fun vs H Q E h => ?_) (fun cdv A outer s H vs Q E hr h => ?_)
  · obtain ⟨a, rs, l, rfl, _⟩ := h
    rfl
  · obtain ⟨a, rs, l, rfl, ha, G, hl, q⟩ := h
    refine ⟨_, (pss_cons (ps_expr (pe_call (ok_need_rules T) (hr.mono (by decide)) (by rfl) T.g_need_rules T.F_need_rules.kp T.b_need_rules .nil pass0 (pa_cons (pv 0) pa_nil)))
      (pss_one (ps_expr (pe_call (ok_need_host T) (hr.mono (by decide)) (by rfl) T.g_need_host T.F_need_host.kp T.b_need_host .nil pass0 (pa_cons (pv 1) pa_nil))))), ?_⟩
    exact ⟨_, rfl, a, rs, rfl, ha, G, fun H1 s1 => ⟨_, rfl, l, rfl, hl, fun H2 s2 => q H2 (s1.trans s2)⟩⟩

/-! ### suffix_of -/
def sp_suffix_of (K : PySem.W.Frag) : Sp := sp_s1_suffix K
theorem ok_suffix_of (T : Txt K mg) : FnOk P w K mg base CX0 7 T.f_suffix_of T.d_suffix_of ["rules", "host"] (sp_suffix_of K) := by
  refine T.F_suffix_of.ok sc_suffix_of (fun vs H Q E h => ?_) (fun cdv A outer s H vs Q E hr h => ?_)
  · obtain ⟨a, rs, l, rfl, _⟩ := h
    rfl
  · obtain ⟨a, rs, l, rfl, ha, G, hl, q⟩ := h
    refine ⟨_, (pss_cons (ps_expr (pe_call (ok_need_both T) (hr.mono (by decide)) (by rfl) T.g_need_both T.F_need_both.kp T.b_need_both .nil pass0 (pa_cons (pv 0) (pa_cons (pv 1) pa_nil))))
      (pss_one (ps_ret (pe_call (ok_s1_suffix T) (hr.mono (by decide)) (by rfl) T.g_s1_suffix T.F_s1_suffix.kp T.b_s1_suffix .nil pass0 (pa_cons (pv 0) (pa_cons (pv 1) pa_nil)))))), ?_⟩
    exact ⟨_, rfl, _, rfl, a, rs, l, rfl, ha, G, hl, fun H1 s1 => ⟨_, rfl, _, rfl, a, rs, l, rfl, s1 _ _ ha, G, hl, fun H2 s2 => q H2 (s1.trans s2)⟩⟩

/-! ### family_of -/
def sp_family_of (K : PySem.W.Frag) : Sp := sp_s1_family K
theorem ok_family_of (T : Txt K mg) : FnOk P w K mg base CX0 7 T.f_family_of T.d_family_of ["rules", "host"] (sp_family_of K) := by
  refine T.F_family_of.ok sc_family_of (fun vs H Q E h => ?_) (fun cdv A outer s H vs Q E hr h => ?_)
  · obtain ⟨a, rs, l, rfl, _⟩ := h
    rfl
  · obtain ⟨a, rs, l, rfl, ha, G, hl, q⟩ := h
    refine ⟨_, (pss_cons (ps_expr (pe_call (ok_need_both T) (hr.mono (by decide)) (by rfl) T.g_need_both T.F_need_both.kp T.b_need_both .nil pass0 (pa_cons (pv 0) (pa_cons (pv 1) pa_nil))))
      (pss_one (ps_ret (pe_call (ok_s1_family T) (hr.mono (by decide)) (by rfl) T.g_s1_family T.F_s1_family.kp T.b_s1_family .nil pass0 (pa_cons (pv 0) (pa_cons (pv 1) pa_nil)))))), ?_⟩
    exact ⟨_, rfl, _, rfl, a, rs, l, rfl, ha, G, hl, fun H1 s1 => ⟨_, rfl, _, rfl, a, rs, l, rfl, s1 _ _ ha, G, hl, fun H2 s2 => q H2 (s1.trans s2)⟩⟩

/-! ### is_suffix -/
def isSuf (rs : List (List Nat)) (l : List Nat) : Bool := !isAddr l && decide (sufT rs l = l)
def sp_is_suffix (K : PySem.W.Frag) : Sp := fun vs H Q _ => ∃ (a : Addr) (rs : List (List Nat)) (l : List Nat), vs = [.ref a, vS l] ∧ H a = some (.tup (rs.map vS)) ∧ GoodR rs ∧ isHost l = true ∧ ∀ H', Same H H' → Q (.bl (isSuf rs l)) H'
theorem ok_is_suffix (T : Txt K mg) : FnOk P w K mg base CX0 8 T.f_is_suffix T.d_is_suffix ["rules", "host"] (sp_is_suffix K) := by
  refine T.F_is_suffix.ok sc_is_suffix (fun vs H Q E h => ?_) (fun cdv A outer s H vs Q E hr h => ?_)
  · obtain ⟨a, rs, l, rfl, _⟩ := h
    rfl
  · obtain ⟨a, rs, l, rfl, ha, G, hl, q⟩ := h
    refine ⟨_, (pss_one (ps_ret (pe_cmpR op_eq (pe_call (ok_suffix_of T) (hr.mono (by decide)) (by rfl) T.g_suffix_of T.F_suffix_of.kp T.b_suffix_of .nil pass0 (pa_cons (pv 0) (pa_cons (pv 1) pa_nil))) (pv 1) (nomark _)))), ?_⟩
    refine ⟨_, rfl, _, rfl, a, rs, l, rfl, ha, G, hl, fun H1 s1 => ?_⟩
    refine ⟨_, rfl, ?_⟩
    unfold isSuf at q
    cases e : isAddr l with
    | true =>
      rw [e] at q
      exact ⟨rfl, q H1 s1⟩
    | false =>
      rw [e, Bool.not_false, Bool.true_and] at q
      have e2 : (if false = true then V.non else vS (sufT rs l)) = vS (sufT rs l) := rfl
      rw [e2]
      refine ⟨rfl, ?_⟩
      rw [dS]
      exact q H1 s1

/-! ### _law_mixed -/
def sp__law_mixed (K : PySem.W.Frag) : Sp := fun vs H Q _ => ∃ c k : Int, vs = [.int c, .int k] ∧ 0 ≤ k ∧ k ≤ 1000000000000 ∧ ∀ H' i, Same H H' → Q (.int i) H'
theorem ok__law_mixed (T : Txt K mg) : FnOk P w K mg base CX0 1 T.f__law_mixed T.d__law_mixed ["_law_cell", "_law_k"] (sp__law_mixed K) := by
  refine T.F__law_mixed.ok sc__law_mixed (fun vs H Q E h => ?_) (fun cdv A outer s H vs Q E hr h => ?_)
  · obtain ⟨c, k, rfl, _⟩ := h
    rfl
  · obtain ⟨c, k, rfl, h0, h1, q⟩ := h
    refine ⟨_, (pss_cons (ps_set (i := 2) sc__law_mixed.nd rfl (.inl rfl) (pe_op op_add (pe_op op_add (pe_op op_modN (pe_callTy call_int1 (by rfl) T.n_int (by decide +kernel) (pa_cons (pv 0) pa_nil)) (pe_ix (kIxL (K := K) rfl) (pe_lst (pa_cons pe_int (pa_cons pe_int (pa_cons pe_int (pa_cons pe_int pa_nil))))) (pe_op op_modN (pe_callTy call_int1 (by rfl) T.n_int (by decide +kernel) (pa_cons (pv 1) pa_nil)) pe_int) (fun _ _ => rfl))) (pe_op op_mul pe_int (pv 1))) pe_int))
      (pss_one (ps_ret (pe_op op_modN (pe_callTy call_int1 (by rfl) T.n_int (by decide +kernel) (pa_cons (pe_op op_mul (pe_op op_modN (pe_callTy call_int1 (by rfl) T.n_int (by decide +kernel) (pa_cons (pe_op op_mul (pv 2) (pv 2)) pa_nil)) pe_int) pe_int) pa_nil)) pe_int)))), ?_⟩
    refine ⟨_, rfl, .inl ⟨c, rfl, ?_⟩⟩
    refine ⟨by show 4 ≤ sizeLine; decide, fun p hp => ?_⟩
    refine ⟨_, rfl, .inl ⟨k, rfl, k, 4, rfl, rfl, (by show (4 : Int) ≠ 0; decide), ?_⟩⟩
    have m0 : 0 ≤ k.fmod 4 := Int.fmod_nonneg_of_pos k (by decide)
    have m1 : k.fmod 4 < 4 := Int.fmod_lt_of_pos k (by decide)
    obtain ⟨v, hv, mv⟩ := at_some (xs := [V.int 1000000007, .int 998244353, .int 2147483629, .int 1000000009]) m0 m1
    obtain ⟨m, rfl, hm0, hm1⟩ : ∃ m : Int, v = .int m ∧ 0 < m ∧ m ≤ 2147483629 := by
      rcases List.mem_cons.mp mv with rfl | mv
      · exact ⟨_, rfl, by decide, by decide⟩
      rcases List.mem_cons.mp mv with rfl | mv
      · exact ⟨_, rfl, by decide, by decide⟩
      rcases List.mem_cons.mp mv with rfl | mv
      · exact ⟨_, rfl, by decide, by decide⟩
      rcases List.mem_cons.mp mv with rfl | mv
      · exact ⟨_, rfl, by decide, by decide⟩
      cases mv
    refine ⟨p, _, _, _, rfl, rfl, SqL.of upd_same, hv, c, m, rfl, rfl, by omega, ?_⟩
    have r0 : 0 ≤ c.fmod m := Int.fmod_nonneg_of_pos c hm0
    have r1 : c.fmod m < m := Int.fmod_lt_of_pos c hm0
    refine ⟨_, rfl, 7919, k, rfl, rfl, .inl ⟨by decide, by decide⟩, _, _, rfl, rfl, _, _, rfl, rfl, ?_⟩
    refine ⟨_, rfl, _, rfl, _, _, rfl, rfl, .inl ⟨by omega, by omega⟩, .inl ⟨_, rfl, _, 2147483647, rfl, rfl, (by show (2147483647 : Int) ≠ 0; decide), ?_⟩⟩
    refine ⟨_, 48271, rfl, rfl, .inr ⟨by decide, by decide⟩, .inl ⟨_, rfl, _, 2147483647, rfl, rfl, (by show (2147483647 : Int) ≠ 0; decide), ?_⟩⟩
    exact q _ _ (same_upd hp)

/-! ### _law_draw -/
def drK (l c t : Int) : List (Key × V) := [(.inr ("left" : Str), .int l), (.inr ("cell" : Str), .int c), (.inr ("turns" : Str), .int t)]
theorem get_left (l c t : Int) : valV (drK l c t) (.inr ("left" : Str)) = some (.int l) := valV_pos rfl
theorem lc_ne : ¬ (Sum.inr ("left" : Str) : Key) = .inr ("cell" : Str) := by decide +kernel
theorem lt_ne : ¬ (Sum.inr ("left" : Str) : Key) = .inr ("turns" : Str) := by decide +kernel
theorem ct_ne : ¬ (Sum.inr ("cell" : Str) : Key) = .inr ("turns" : Str) := by decide +kernel
theorem get_cell (l c t : Int) : valV (drK l c t) (.inr ("cell" : Str)) = some (.int c) := by
  unfold drK
  rw [valV_neg lc_ne, valV_pos rfl]
theorem get_turns (l c t : Int) : valV (drK l c t) (.inr ("turns" : Str)) = some (.int t) := by
  unfold drK
  rw [valV_neg lt_ne, valV_neg ct_ne, valV_pos rfl]
theorem put_map {kvs : List (Key × V)} {k : Key} {y : V} (v : V) (h : valV kvs k = some y) : putK kvs k v = kvs.map (fun kv => if kv.1 = k then (kv.1, v) else kv) := by
  unfold putK
  rw [valV_any, h]
  exact if_pos rfl
theorem put_left (l c t x : Int) : putK (drK l c t) (.inr ("left" : Str)) (.int x) = drK x c t := by
  have h1 : ¬ (Sum.inr ("cell" : Str) : Key) = .inr ("left" : Str) := fun z => lc_ne z.symm
  have h2 : ¬ (Sum.inr ("turns" : Str) : Key) = .inr ("left" : Str) := fun z => lt_ne z.symm
  rw [put_map _ (get_left l c t)]
  unfold drK
  rw [List.map_cons, List.map_cons, List.map_cons, if_pos rfl, if_neg h1, if_neg h2]
  rfl
theorem put_turns (l c t x : Int) : putK (drK l c t) (.inr ("turns" : Str)) (.int x) = drK l c x := by
  rw [put_map _ (get_turns l c t)]
  unfold drK
  rw [List.map_cons, List.map_cons, List.map_cons, if_neg lt_ne, if_neg ct_ne, if_pos rfl]
  rfl
theorem valV_out {k : Key} : ∀ {kvs : List (Key × V)}, k ∉ kvs.map (·.1) → valV kvs k = none
  | [], _ => rfl
  | p :: r, h => by
    rw [List.map_cons, List.mem_cons, not_or] at h
    rw [valV_neg fun z => h.1 z.symm]
    exact valV_out h.2
theorem merge_new : ∀ {kvs acc : List (Key × V)}, ((acc ++ kvs).map (·.1)).Nodup → mergeK acc kvs = acc ++ kvs
  | [], acc, _ => (List.append_nil acc).symm
  | p :: r, acc, h => by
    show mergeK (putK acc p.1 p.2) r = _
    have h1 : p.1 ∉ acc.map (·.1) := fun m => by
      rw [List.map_append, List.nodup_append] at h
      exact h.2.2 _ m _ (by simp) rfl
    rw [putK_new p.2 (valV_out h1)]
    have h2 : acc ++ p :: r = (acc ++ [p]) ++ r := by simp
    rw [h2] at h ⊢
    exact merge_new h
theorem Dr.mk {d : Addr} {n : Nat} {H : Hp} {l c t : Int} (h : H d = some (.dK (drK l c t))) (h0 : 0 ≤ t) (h1 : t ≤ n) : Dr d n H := ⟨l, c, t, h, h0, h1⟩
def sp__law_draw (K : PySem.W.Frag) : Sp := fun vs H Q _ => ∃ c k : Int, vs = [.int c, .int k] ∧ 0 ≤ k ∧ k ≤ 100 ∧ ∀ H' d, Same H H' → H d = none → Dr d 100000 H' → Q (.ref d) H'
theorem merge_dr (l c t : Int) : mergeK [] (drK l c t) = drK l c t := by
  refine merge_new (acc := []) ?_
  show ([Sum.inr ("left" : Str), .inr ("cell" : Str), .inr ("turns" : Str)] : List Key).Nodup
  decide +kernel
theorem ok__law_draw (T : Txt K mg) : FnOk P w K mg base CX0 1 T.f__law_draw T.d__law_draw ["_law_cell", "_law_k"] (sp__law_draw K) := by
  refine T.F__law_draw.ok sc__law_draw (fun vs H Q E h => ?_) (fun cdv A outer s H vs Q E hr h => ?_)
  · obtain ⟨c, k, rfl, _⟩ := h
    rfl
  · obtain ⟨c, k, rfl, h0, h1, q⟩ := h
    refine ⟨_, (pss_one (ps_ret (pe_disp (pps_cons pe_str (pe_ifExp (pt_cmpR op_ge (pv 0) (pe_op op_pow pe_int pe_int) (nomark _)) (pv 0) pe_int) (pps_cons pe_str (pv 0) (pps_cons pe_str (pe_op op_mul pe_int (pv 1)) pps_nil))) (by rfl) (by rfl) (fun z => by cases z) (by decide)))), ?_⟩
    refine fun p hp => ?_
    have fin : ∀ l : Int, Q (.ref p) (upd (upd H p (.dK [])) p (.dK (mergeK [] (drK l c (1000 * k))))) := fun l => by
      rw [merge_dr, upd_upd]
      exact q _ p (same_upd hp) hp (Dr.mk upd_same (by omega) (by omega))
    refine ⟨_, rfl, 10, 18, rfl, rfl, ⟨by decide, by decide, by decide⟩, c, _, rfl, rfl, _, rfl, ?_⟩
    refine if2 (fun _ => ?_) (fun _ => ?_)
    · exact ⟨_, rfl, _, rfl, _, rfl, 1000, k, rfl, rfl, .inl ⟨by decide, by decide⟩, upd_same, drK c c (1000 * k), rfl, (by show 3 ≤ 15; decide), fin c⟩
    · exact ⟨_, rfl, _, rfl, 1000, k, rfl, rfl, .inl ⟨by decide, by decide⟩, upd_same, drK 0 c (1000 * k), rfl, (by show 3 ≤ 15; decide), fin 0⟩

/-! ### _law_digit -/
theorem dgetD {H : Hp} {a : Addr} {kvs : List (Key × V)} {k : Key} {v : V} (e : H a = some (.dK kvs)) (g : valV kvs k = some v) : DGet H a (kV k) (some v) := g ▸ DGet.k e
theorem dr_len (l c t : Int) : (drK l c t).length < sizeLine := by show 3 < sizeLine; decide
def sp__law_digit (K : PySem.W.Frag) : Sp := fun vs H Q _ => ∃ (d : Addr) (n : Nat) (m : Int), vs = [.ref d, .int m] ∧ 0 < m ∧ m < 1000000000 ∧ n ≤ 100000000 ∧ Dr d n H ∧ ∀ H' i, Sx d H H' → Dr d (n + 4) H' → 0 ≤ i → i < m → Q (.int i) H'
theorem ok__law_digit (T : Txt K mg) : FnOk P w K mg base CX0 2 T.f__law_digit T.d__law_digit ["_law_draw_here", "_law_span"] (sp__law_digit K) := by
  refine T.F__law_digit.ok sc__law_digit (fun vs H Q E h => ?_) (fun cdv A outer s H vs Q E hr h => ?_)
  · obtain ⟨d, n, m, rfl, _⟩ := h
    rfl
  · obtain ⟨d, n, m, rfl, hm, hm2, hn, ⟨l0, c0, t0, hd0, ht0, ht1⟩, q⟩ := h
    have hd0 : H d = some (.dK (drK l0 c0 t0)) := hd0
    refine ⟨_, (C8.pss_cut (ps_if (pt_cmpR op_eq (pe_dget (hu_of hr) (pv 0) pe_str (fun _ _ => rfl)) pe_int (nomark _))
      (pss_one (ps_for PassesOwn.never rfl (pi_range1 (by rfl) T.n_range (pa_cons pe_int pa_nil)) (pg_name (i := 2) sc__law_digit.nd rfl (.inl rfl))
      (pss_cons (ps_dput (hu_of hr) (pv 0) pe_str (pe_op op_add (pe_dget (hu_of hr) (pv 0) pe_str (fun _ _ => rfl)) pe_int) rfl)
      (pss_one (ps_dput (hu_of hr) (pv 0) pe_str (pe_op op_add (pe_op op_mul (pe_dget (hu_of hr) (pv 0) pe_str (fun _ _ => rfl)) pe_int) (pe_call (ok__law_mixed T) (hr.mono (by decide)) (by rfl) T.g__law_mixed T.F__law_mixed.kp T.b__law_mixed .nil pass0 (pa_cons (pe_dget (hu_of hr) (pv 0) pe_str (fun _ _ => rfl)) (pa_cons (pe_dget (hu_of hr) (pv 0) pe_str (fun _ _ => rfl)) pa_nil)))) rfl)))))
      pss_nil)
      (pss_cons (ps_set (i := 3) sc__law_digit.nd rfl (.inl rfl) (pe_op op_modN (pe_callTy call_int1 (by rfl) T.n_int (by decide +kernel) (pa_cons (pe_dget (hu_of hr) (pv 0) pe_str (fun _ _ => rfl)) pa_nil)) (pv 1)))
      (pss_cons (ps_dput (hu_of hr) (pv 0) pe_str (pe_op op_fdivN (pe_callTy call_int1 (by rfl) T.n_int (by decide +kernel) (pa_cons (pe_dget (hu_of hr) (pv 0) pe_str (fun _ _ => rfl)) pa_nil)) (pv 1)) rfl)
      (pss_one (ps_ret (pv 3)))))), ?_⟩
    refine ⟨fun σ H' => ∃ y2 l t, σ = [some (.ref d), some (.int m), y2, none] ∧ Sx d H H' ∧ H' d = some (.dK (drK l c0 t)) ∧ 0 ≤ t ∧ t ≤ (n + 4 : Nat), ?_, ?_⟩
    · refine ⟨_, rfl, d, _, rfl, dgetD hd0 (get_left l0 c0 t0), rfl, _, rfl, ?_⟩
      refine if2 (fun _ => ?_) (fun _ => ?_)
      · refine ⟨4, rfl, by decide, by decide, for_range (lo := 0) (n := 4) (fun i σ H' => ∃ y2 l t, σ = [some (.ref d), some (.int m), y2, none] ∧ Sx d H H' ∧ H' d = some (.dK (drK l c0 t)) ∧ 0 ≤ t ∧ t ≤ (n + i : Nat)) ?_ ?_ ?_⟩
        · exact ⟨none, l0, t0, rfl, Sx.refl d H, hd0, ht0, by omega⟩
        · rintro i σ H1 hi ⟨y2, l, t, rfl, s1, hd1, h0, h1⟩
          -- turns + 1
          refine ⟨_, rfl, d, _, rfl, dgetD hd1 (get_turns l c0 t), _, _, rfl, rfl, _, rfl, d, _, rfl, DPut.k (k := .inr ("turns" : Str)) hd1 (dr_len _ _ _), ?_⟩
          rw [put_turns]
          have hd2 : upd H1 d (.dK (drK l c0 (t + 1))) d = some (.dK (drK l c0 (t + 1))) := upd_same
          refine ⟨_, rfl, d, _, rfl, dgetD hd2 (get_left _ _ _), _, _, rfl, rfl, .inr ⟨by decide, by decide⟩, ?_⟩
          refine ⟨_, rfl, d, _, rfl, dgetD hd2 (get_cell _ _ _), _, rfl, d, _, rfl, dgetD hd2 (get_turns _ _ _), c0, t + 1, rfl, by omega, by omega, fun H3 i3 s3 => ?_⟩
          have hd3 := s3 _ _ hd2
          refine ⟨_, _, rfl, rfl, _, rfl, d, _, rfl, DPut.k (k := .inr ("left" : Str)) hd3 (dr_len _ _ _), ?_⟩
          rw [put_left]
          exact ⟨_, _, t + 1, rfl, ((s1.upd).trans (Sx.of s3)).upd, upd_same, by omega, by omega⟩
        · rintro σ H1 ⟨y2, l, t, rfl, s1, hd1, h0, h1⟩
          exact ⟨y2, l, t, rfl, s1, hd1, h0, h1⟩
      · exact ⟨none, l0, t0, rfl, Sx.refl d H, hd0, ht0, by omega⟩
    · rintro σ H1 ⟨y2, l, t, rfl, s1, hd1, h0, h1⟩
      have r0 : 0 ≤ l.fmod m := Int.fmod_nonneg_of_pos l hm
      have r1 : l.fmod m < m := Int.fmod_lt_of_pos l hm
      refine ⟨_, rfl, d, _, rfl, dgetD hd1 (get_left _ _ _), .inl ⟨l, rfl, _, rfl, l, m, rfl, rfl, by omega, ?_⟩⟩
      refine ⟨_, rfl, d, _, rfl, dgetD hd1 (get_left _ _ _), .inl ⟨l, rfl, _, rfl, l, m, rfl, rfl, ⟨by omega, by omega⟩, ?_⟩⟩
      refine ⟨_, rfl, d, _, rfl, DPut.k (k := .inr ("left" : Str)) hd1 (dr_len _ _ _), ?_⟩
      rw [put_left]
      exact ⟨_, rfl, q _ _ s1.upd (Dr.mk upd_same h0 (by omega)) r0 r1⟩
/-- a written text at a drawn place -/
theorem pickS {ws : List Str} {ta : TA} {m : Int} {σ : L2.St} {H : Hp} {Q : VK} {d : Addr} {n i : Nat} (hv : ∀ (σ : L2.St) (H : Hp) (Q : List V → Hp → Prop), Q (ws.map V.str) H → ta σ H Q) (hl : (ws.length : Int) = m)
    (hi : σ[i]? = some (some (.ref d))) (h0 : 0 < m) (h1 : m ≤ 1000) (hn : n ≤ 100000000) (hD : Dr d n H) (q : ∀ H' x, Sx d H H' → Dr d (n + 4) H' → x ∈ ws → Q (.str x) H') :
    tOp (rIxL K) (tLst ta) (tCall (sp__law_digit K) [] E0 (tCons (tVar i) (tCons (tC (.int m)) tNil))) σ H Q := by
  have hs : (ws.map V.str).length = ws.length := by rw [List.length_map]
  refine hv σ H _ ⟨sz (by omega), fun p hp => ?_⟩
  refine ⟨_, hi, d, n, m, rfl, h0, by omega, hn, hD.same (same_upd hp), fun H' k s' D' k0 k1 => ?_⟩
  obtain ⟨v, hv, mv⟩ := at_some (xs := ws.map V.str) k0 (by rw [hs, hl]; exact k1)
  obtain ⟨x, mx, rfl⟩ := List.mem_map.mp mv
  have np : p ≠ d := hD.ne hp
  exact ⟨p, _, k, _, rfl, rfl, SqL.of (s' _ _ np upd_same), hv, q H' x ((Sx.of (same_upd hp)).trans s') D' mx⟩
/-- a comprehension over a range whose element draws -/
theorem lc_draws {lo : Int} {m n0 c : Nat} {P : List Nat → Prop} {j : Nat} {te : TE} {vs : List Nat} {σ : L2.St} {H1 : Hp} {d D : Addr} {Qd : Hp → Prop} (hD : H1 D = none) (hm : m ≤ 100000) (hd0 : Dr d n0 H1)
    (hw : ∀ x, wipe ((wipe σ vs).set j (some x)) vs = wipe σ vs)
    (hs : ∀ i H', i < m → Sx d H1 H' → Dr d (n0 + c * i) H' → ∀ Q : VK, (∀ H'' w, Sx d H' H'' → Dr d (n0 + c * (i + 1)) H'' → P w → Q (vS w) H'') → te ((wipe σ vs).set j (some (.int (lo + i)))) H' Q)
    (hd : ∀ (H' : Hp) (ws : List (List Nat)), Sx d H1 H' → Dr d (n0 + c * m) H' → H' D = some (.lst (ws.map vS)) → ws.length = m → (∀ w ∈ ws, P w) → Qd H') :
    ∃ W : Nat → Nat → Hp → Prop, (∃ m, W 0 m (upd H1 D (.lst []))) ∧ ∀ i k H, W i k H →
      ((Itr lo m).stop i H ∧ Qd H) ∨ ((Itr lo m).go i H ∧ ∃ Nx : Hp → Prop, (∀ H', Nx H' → ∃ m', m' < k ∧ W (i + 1) m' H') ∧ ∀ x H', (Itr lo m).yld i H x H' → gName j x (wipe σ vs) H' fun σ2 H2 => wipe σ2 vs = wipe σ vs ∧ tYes σ2 H2 fun b H3 =>
        if b = true then te σ2 H3 fun y H4 => ∃ acc, H4 D = some (.lst acc) ∧ acc.length < sizeLine ∧ Nx (upd H4 D (.lst (acc ++ [y]))) else Nx H3) := by
  have nDd : D ≠ d := hd0.ne hD
  refine lc_range (lo := lo) (n := m) (fun i H' => Sx d H1 H' ∧ Dr d (n0 + c * i) H' ∧ ∃ ws : List (List Nat), H' D = some (.lst (ws.map vS)) ∧ ws.length = i ∧ ∀ w ∈ ws, P w)
    ⟨Sx.of (same_upd hD), hd0.same (same_upd hD), [], by rw [upd_same]; rfl, rfl, fun _ h => nomatch h⟩ (fun i H' hi hP => ?_) (fun H' hP => ?_)
  · obtain ⟨s1, D1, ws, hL, hl, hp⟩ := hP
    refine ⟨hw _, ?_⟩
    refine hs i H' hi s1 D1 _ fun H'' w s2 D2 pw => ⟨_, s2 _ _ nDd hL, szlt (by rw [List.length_map]; omega), ?_, ?_, ws ++ [w], ?_, ?_, ?_⟩
    · intro b o nb e
      rw [upd_ne (ne_of_none e hD)]
      exact s2 _ _ nb (s1 _ _ nb e)
    · obtain ⟨x, y, z, e, e2⟩ := D2
      exact ⟨x, y, z, by rw [upd_ne (Ne.symm nDd)]; exact e, e2⟩
    · rw [upd_same, List.map_append]
      rfl
    · rw [List.length_append, hl]
      rfl
    · intro u hu
      rcases List.mem_append.mp hu with hu | hu
      · exact hp u hu
      · rcases List.mem_cons.mp hu with rfl | hu
        · exact pw
        · cases hu
  · obtain ⟨s1, D1, ws, hL, hl, hp⟩ := hP
    exact hd H' ws s1 D1 hL hl hp

/-! ### _law_rules -/
def ab (w : List Nat) : Bool := decide (w ∈ ([[97], [98], [99]] : List (List Nat)))
theorem ab_iff {w : List Nat} (h : ab w = true) : w = [97] ∨ w = [98] ∨ w = [99] := by
  have := of_decide_eq_true h
  simpa using this
/-- what the drawn rules are like -/
def ruleLike (r : List Nat) : Bool := isRule r && decide (r.length ≤ 20) && !decide (122 ∈ r) && (!exc r || (rwords r).all ab) && (rwords r).all fun w => decide (w = [42]) || ab w
def allW : List (List (List Nat)) := ([[97], [98], [99]] : List (List Nat)).flatMap fun a => [a] :: ([[97], [98], [99]] : List (List Nat)).flatMap fun b => [a, b] :: ([[97], [98], [99]] : List (List Nat)).map fun c => [a, b, c]
theorem in_allW {ws : List (List Nat)} (h0 : ws ≠ []) (h1 : ws.length ≤ 3) (h : ∀ w ∈ ws, ab w = true) : ws ∈ allW := by
  match ws, h0, h1, h with
  | [a], _, _, h =>
    rcases ab_iff (h a (by simp)) with rfl | rfl | rfl <;> decide
  | [a, b], _, _, h =>
    rcases ab_iff (h a (by simp)) with rfl | rfl | rfl <;> rcases ab_iff (h b (by simp)) with rfl | rfl | rfl <;> decide
  | [a, b, c], _, _, h =>
    rcases ab_iff (h a (by simp)) with rfl | rfl | rfl <;> rcases ab_iff (h b (by simp)) with rfl | rfl | rfl <;> rcases ab_iff (h c (by simp)) with rfl | rfl | rfl <;> decide
  | a :: b :: c :: d :: r, _, h1, _ => simp at h1
theorem rules_like : ∀ ws ∈ allW, (ruleLike (TL.joinL [46] ws) && ruleLike (TL.joinL [46] ([42] :: ws)) && ruleLike (33 :: TL.joinL [46] (ws ++ [[99]]))) = true := by decide +kernel
theorem rule_like {ws : List (List Nat)} (h0 : ws ≠ []) (h1 : ws.length ≤ 3) (h : ∀ w ∈ ws, ab w = true) : ruleLike (TL.joinL [46] ws) = true ∧ ruleLike (TL.joinL [46] ([42] :: ws)) = true ∧ ruleLike (33 :: TL.joinL [46] (ws ++ [[99]])) = true := by
  have := rules_like ws (in_allW h0 h1 h)
  rw [Bool.and_eq_true, Bool.and_eq_true] at this
  exact ⟨this.1.1, this.1.2, this.2⟩
theorem rule_short {r : List Nat} (h : ruleLike r = true) : r.length ≤ 20 := by
  unfold ruleLike at h
  simp only [Bool.and_eq_true, decide_eq_true_eq] at h
  exact h.1.1.1.2
/-- "abc"[digit] -/
theorem pickC {m : Int} {ta : TE} {σ : L2.St} {H : Hp} {Q : VK} {d : Addr} {n i : Nat} (hv : ∀ (σ : L2.St) (H : Hp) (Q : VK), Q (.str (S [97, 98, 99])) H → ta σ H Q) (hm : m = 3)
    (hi : σ[i]? = some (some (.ref d))) (hn : n ≤ 100000000) (hD : Dr d n H) (q : ∀ H' w, Sx d H H' → Dr d (n + 4) H' → ab w = true → Q (vS w) H') :
    tOp rIxS ta (tCall (sp__law_digit K) [] E0 (tCons (tVar i) (tCons (tC (.int m)) tNil))) σ H Q := by
  subst hm
  refine hv σ H _ ⟨_, hi, d, n, 3, rfl, by decide, by decide, hn, hD, fun H' k s' D' k0 k1 => ?_⟩
  obtain ⟨z, rfl⟩ : ∃ z : Nat, k = (z : Int) := ⟨k.toNat, by omega⟩
  have hz : z < 3 := by omega
  have hc : ∃ c, ([97, 98, 99] : List Nat)[z]? = some c ∧ ab [c] = true := by
    rcases (show z = 0 ∨ z = 1 ∨ z = 2 by omega) with rfl | rfl | rfl
    · exact ⟨97, rfl, by decide⟩
    · exact ⟨98, rfl, by decide⟩
    · exact ⟨99, rfl, by decide⟩
  obtain ⟨c, e1, e2⟩ := hc
  exact ⟨_, _, c, rfl, rfl, by decide, atI_nat (j := z) e1, q H' [c] s' D' e2⟩
theorem abc_S : ("abc" : Str) = S [97, 98, 99] := by decide +kernel
theorem c_S : ("c" : Str) = S [99] := by decide +kernel
theorem inV_S (r : List Nat) : ∀ rs : List (List Nat), inV (vS r) (rs.map vS) = decide (r ∈ rs)
  | [] => rfl
  | x :: rs => by
    have e : inV (vS r) ((x :: rs).map vS) = ((S x == S r) || inV (vS r) (rs.map vS)) := rfl
    rw [e, inV_S r rs, SX.S_beq_eq]
    apply Bool.eq_iff_iff.mpr
    rw [Bool.or_eq_true, decide_eq_true_eq, decide_eq_true_eq, decide_eq_true_eq, List.mem_cons, eq_comm]
theorem flat_S (rs : List (List Nat)) : (rs.map vS).all flatV = true := by
  rw [List.all_map]
  exact List.all_eq_true.mpr fun _ _ => rfl
/-- found + [rule] * int(rule not in found) -/
theorem add_rule {D : Ends} {σ : L2.St} {H : Hp} {f : Addr} {rs : List (List Nat)} {r : List Nat} (hf : H f = some (.lst (rs.map vS))) (hl : rs.length ≤ 1000) (s1 : σ[1]? = some (some (.ref f))) (s5 : σ[5]? = some (some (vS r)))
    (q : ∀ (H' : Hp) (f' : Addr) (rs' : List (List Nat)), Same H H' → H' f' = some (.lst (rs'.map vS)) → (rs' = rs ∨ rs' = rs ++ [r] ∧ r ∉ rs) → D.nx (σ.set 1 (some (.ref f'))) H') :
    tAsg (tOp rCat (tVar 1) (tOp rRep (tLst (tCons (tVar 5) tNil)) (tCB (fun xs H Q => (∃ i, xs = [V.int i] ∧ Q (V.int i) H) ∨ ∃ k, xs = [V.bl k] ∧ Q (V.int (if k = true then 1 else 0)) H) (tCons (tOp (rIn K true) (tVar 5) (tVar 1)) tNil)))) (gName 1) D σ H := by
  refine ⟨_, s1, _, s5, by show 1 ≤ sizeLine; decide, fun u nu => ?_⟩
  have hf1 := (same_upd (o := HO.lst [vS r]) nu) _ _ hf
  refine ⟨_, s5, _, s1, f, _, rfl, .inl (SqL.of hf1), rfl, flat_S rs, .inr ⟨_, rfl, ?_⟩⟩
  rw [inV_S, if_pos rfl]
  by_cases h : r ∈ rs
  · rw [decide_eq_true h]
    refine ⟨u, 0, [vS r], rfl, rfl, upd_same, by decide, by decide, sz (by simp), fun v nv => ?_⟩
    refine ⟨f, v, _, [], rfl, rfl, (same_upd nv) _ _ hf1, upd_same, by rw [List.length_map]; exact sz (by simp; omega), fun w nw => ?_⟩
    refine q _ w rs ((same_upd nu).trans ((same_upd nv).trans (same_upd nw))) ?_ (.inl rfl)
    rw [upd_same, List.append_nil]
  · rw [decide_eq_false h]
    refine ⟨u, 1, [vS r], rfl, rfl, upd_same, by decide, by decide, sz (by simp), fun v nv => ?_⟩
    refine ⟨f, v, _, [vS r], rfl, rfl, (same_upd nv) _ _ hf1, upd_same, by rw [List.length_map]; exact sz (by simp; omega), fun w nw => ?_⟩
    refine q _ w (rs ++ [r]) ((same_upd nu).trans ((same_upd nv).trans (same_upd nw))) ?_ (.inr ⟨rfl, h⟩)
    rw [upd_same, List.map_append]
    rfl
theorem nodup_snoc {α : Type} {l : List α} {x : α} (h : l.Nodup) (n : x ∉ l) : (l ++ [x]).Nodup := by
  rw [List.nodup_append]
  exact ⟨h, by simp, fun a ha b hb => by
    have e : b = x := by simpa using hb
    rw [e]
    intro z
    exact n (z ▸ ha)⟩
def sp__law_rules (K : PySem.W.Frag) : Sp := fun vs H Q _ => ∃ (d : Addr) (n : Nat), vs = [.ref d] ∧ n ≤ 80000000 ∧ Dr d n H ∧
  ∀ (H' : Hp) (p : Addr) (rs : List (List Nat)), Sx d H H' → Dr d (n + 200) H' → H' p = some (.tup (rs.map vS)) → rs.length ≤ 6 → rs.Nodup → (∀ r ∈ rs, ruleLike r = true) → Q (.ref p) H'
theorem ok__law_rules (T : Txt K mg) : FnOk P w K mg base CX0 3 T.f__law_rules T.d__law_rules ["_law_draw_here"] (sp__law_rules K) := by
  refine T.F__law_rules.ok sc__law_rules (fun vs H Q E h => ?_) (fun cdv A outer s H vs Q E hr h => ?_)
  · obtain ⟨d, n, rfl, _⟩ := h
    rfl
  · obtain ⟨d, n, rfl, hn, hD, q⟩ := h
    refine ⟨_, (pss_cons (ps_set (i := 1) sc__law_rules.nd rfl (.inl rfl) (pe_lst pa_nil))
      (pss_cons (ps_for PassesOwn.never rfl (pi_range1 (by rfl) T.n_range (pa_cons (pe_call (ok__law_digit T) (hr.mono (by decide)) (by rfl) T.g__law_digit T.F__law_digit.kp T.b__law_digit .nil pass0 (pa_cons (pv 0) (pa_cons pe_int pa_nil))) pa_nil)) (pg_name (i := 2) sc__law_rules.nd rfl (.inl rfl))
      (pss_cons (ps_setLc (i := 3) (own := [("_law_i", 6)]) (g := gName 6) (tt := tYes) (by rfl) sc__law_rules.nd rfl rfl (sw_true rfl rfl rfl (by decide +kernel)) (pi_range1 (by rfl) T.n_range (pa_cons (pe_op op_add pe_int (pe_call (ok__law_digit T) (hr.mono (by decide)) (by rfl) T.g__law_digit T.F__law_digit.kp T.b__law_digit .nil pass0 (pa_cons (pv 0) (pa_cons pe_int pa_nil)))) pa_nil)) (blkOk_by (own := [("_law_i", 6)]) (N := N__law_rules) (sc := defScope S__law_rules) (by decide +kernel)) (fun _ _ _ _ _ => (pg_name (i := 6) sc__law_rules.nd rfl (.inl rfl))) (fun _ _ _ _ _ => pts_nil) (fun _ _ _ _ _ => (pe_ix ix_str pe_str (pe_call (ok__law_digit T) (hr.mono (by decide)) (by rfl) T.g__law_digit T.F__law_digit.kp T.b__law_digit .nil pass0 (pa_cons (pv 0) (pa_cons pe_int pa_nil))) (fun _ _ => rfl))))
      (pss_cons (ps_set (i := 4) sc__law_rules.nd rfl (.inl rfl) (pe_call (ok__law_digit T) (hr.mono (by decide)) (by rfl) T.g__law_digit T.F__law_digit.kp T.b__law_digit .nil pass0 (pa_cons (pv 0) (pa_cons pe_int pa_nil))))
      (pss_cons (ps_set (i := 5) sc__law_rules.nd rfl (.inl rfl) (pe_m1 PySem.F.slot_str_join PySem.F.type_str_join (kJoin (K := K) rfl) pe_str (pe_ifExp (pt_cmpR op_eq (pv 4) pe_int (nomark _)) (pe_op op_cat (pe_lst (pa_cons pe_str pa_nil)) (pv 3)) (pv 3))))
      (pss_cons (ps_set (i := 5) sc__law_rules.nd rfl (.inl rfl) (pe_ifExp (pt_cmpR op_eq (pv 4) pe_int (nomark _)) (pe_op op_add_str pe_str (pe_m1 PySem.F.slot_str_join PySem.F.type_str_join (kJoin (K := K) rfl) pe_str (pe_op op_cat (pv 3) (pe_lst (pa_cons pe_str pa_nil))))) (pv 5)))
      (pss_one (ps_set (i := 1) sc__law_rules.nd rfl (.inl rfl) (pe_op op_cat (pv 1) (pe_op op_rep (pe_lst (pa_cons (pv 5) pa_nil)) (pe_callTy call_int1 (by rfl) T.n_int (by decide +kernel) (pa_cons (pe_cmpR (kNi (K := K) rfl) (pv 5) (pv 1) (by rfl)) pa_nil)))))))))))
      (pss_one (ps_ret (pe_callTy (kTup (K := K) rfl) (by rfl) T.n_tuple (by decide +kernel) (pa_cons (pv 1) pa_nil)))))), ?_⟩
    rw [abc_S, c_S, dot_S, star_S, bang_S]
    refine ⟨by show 0 ≤ sizeLine; decide, fun f nf => ?_⟩
    have sf := Sx.of (d := d) (same_upd (o := HO.lst []) nf)
    have D0 := hD.same (same_upd (o := HO.lst []) nf)
    refine ⟨_, rfl, d, n, 7, rfl, by decide, by decide, by omega, D0, fun H1 k s1 D1 k0 k1 => ?_⟩
    have ndf : f ≠ d := hD.ne nf
    refine ⟨k, rfl, by omega, by omega, for_range (lo := 0) (n := k.toNat) (fun i σ H' => Sx d H H' ∧ Dr d (n + 4 + 28 * i) H' ∧ ∃ (f : Addr) (rs : List (List Nat)) (y2 y3 y4 y5 : Option V), σ = [some (.ref d), some (.ref f), y2, y3, y4, y5, none] ∧ H' f = some (.lst (rs.map vS)) ∧ rs.length ≤ i ∧ rs.Nodup ∧ ∀ r ∈ rs, ruleLike r = true)
      ⟨sf.trans s1, D1, f, [], none, none, none, none, rfl, s1 _ _ ndf upd_same, Nat.le_refl _, List.nodup_nil, fun _ z => nomatch z⟩ ?_ ?_⟩
    · rintro i σ H2 hi ⟨s2, D2, f, rs, y2, y3, y4, y5, rfl, hf, hl, hnd, hrs⟩
      have ndf : f ≠ d := fun z => by
        obtain ⟨_, _, _, e, _⟩ := D2
        rw [z, e] at hf
        cases hf
      refine ⟨_, rfl, d, _, 3, rfl, by decide, by decide, by omega, D2, fun H3 k2 s3 D3 k20 k21 => ?_⟩
      have hf3 := s3 _ _ ndf hf
      refine ⟨1, k2, rfl, rfl, 1 + k2, rfl, by omega, by omega, fun D nD => ?_⟩
      refine lc_draws (lo := 0) (m := (1 + k2).toNat) (n0 := n + 4 + 28 * i + 4) (c := 4) (P := fun w => ab w = true) nD (by omega) D3 (fun _ => rfl) (fun j H' hj s' D' Q' q' => ?_) (fun H4 ws s4 D4 hL hwl hws => ?_)
      · exact pickC (fun _ _ _ q => q) rfl rfl (by omega) D' (fun H3 w s3 D3 hw => q' H3 w s3 (D3.mono (by omega)) hw)
      have hne : ws ≠ [] := fun z => by rw [z] at hwl; simp at hwl; omega
      have hw3 : ws.length ≤ 3 := by omega
      obtain ⟨l1, l2, l3⟩ := rule_like hne hw3 hws
      have b1 := rule_short l1
      have b2 := rule_short l2
      have b3 := rule_short l3
      have nDd : D ≠ d := D3.ne nD
      have nfD : f ≠ D := ne_of_none hf3 nD
      have hf4 := s4 _ _ ndf hf3
      -- behind the drawn way
      refine ⟨_, rfl, d, _, 4, rfl, by decide, by decide, by omega, D4, fun H5 k3 s5 D5 k30 k31 => ?_⟩
      have hf5 := s5 _ _ ndf hf4
      have hL5 := s5 _ _ nDd hL
      have s15 := (s2.trans s3).trans (s4.trans s5)
      have fin : ∀ (r : List Nat) (H6 : Hp) (f' : Addr) (rs' : List (List Nat)), Same H5 H6 → H6 f' = some (.lst (rs'.map vS)) → (rs' = rs ∨ rs' = rs ++ [r] ∧ r ∉ rs) → ruleLike r = true → ∀ y2 y3 y4 y5 : Option V,
          Sx d H H6 ∧ Dr d (n + 4 + 28 * (i + 1)) H6 ∧ ∃ (f : Addr) (rs : List (List Nat)) (z2 z3 z4 z5 : Option V), ([some (.ref d), some (.ref f'), y2, y3, y4, y5, none] : L2.St) = [some (.ref d), some (.ref f), z2, z3, z4, z5, none] ∧ H6 f = some (.lst (rs.map vS)) ∧ rs.length ≤ i + 1 ∧ rs.Nodup ∧ ∀ r ∈ rs, ruleLike r = true := fun r H6 f' rs' s6 hf6 hrs' hr6 y2 y3 y4 y5 => by
        refine ⟨s15.trans (Sx.of s6), (D5.same s6).mono (by omega), f', rs', y2, y3, y4, y5, rfl, hf6, ?_⟩
        rcases hrs' with rfl | ⟨rfl, hnr⟩
        · exact ⟨by omega, hnd, hrs⟩
        · refine ⟨by rw [List.length_append]; simp; omega, nodup_snoc hnd hnr, fun x hx => ?_⟩
          rcases List.mem_append.mp hx with hx | hx
          · exact hrs x hx
          · have e : x = r := by simpa using hx
            rw [e]
            exact hr6
      have mapS : ∀ X : List (List Nat), X.map vS = (X.map S).map V.str := fun X => by
        rw [List.map_map]
        rfl
      refine ⟨⟨_, rfl⟩, _, rfl, rfl, _, rfl, ?_⟩
      rw [dI]
      refine if2 (fun h1 => ?_) (fun h1 => ?_)
      · have e1 : k3 = 0 := of_decide_eq_true h1
        refine ⟨by show 1 ≤ sizeLine; decide, fun u nu => ⟨_, rfl, u, D, _, _, rfl, rfl, upd_same, (same_upd nu) _ _ hL5, by rw [List.length_map]; exact sz (by simp; omega), fun v nv => ?_⟩⟩
        refine ⟨S [46], v, ([42] :: ws).map S, rfl, rfl, .inl (SqL.of (by rw [upd_same, ← mapS]; rfl)), size_join (by omega), ?_⟩
        rw [join_S]
        refine ⟨_, rfl, rfl, _, rfl, ?_⟩
        rw [dI, decide_eq_false (by omega)]
        have s6 := (same_upd (o := HO.lst [vS [42]]) nu).trans (same_upd (o := HO.lst ([vS [42]] ++ ws.map vS)) nv)
        refine ⟨_, rfl, add_rule (s6 _ _ hf5) (by omega) rfl rfl fun H6 f' rs' s7 hf6 hrs' => fin _ H6 f' rs' (s6.trans s7) hf6 hrs' l2 _ _ _ _⟩
      · refine ⟨_, rfl, S [46], D, ws.map S, rfl, rfl, .inl (SqL.of (by rw [← mapS]; exact hL5)), size_join (by omega), ?_⟩
        rw [join_S]
        refine ⟨_, rfl, rfl, _, rfl, ?_⟩
        rw [dI]
        refine if2 (fun h2 => ?_) (fun h2 => ?_)
        · refine ⟨⟨_, rfl⟩, _, rfl, by show 1 ≤ sizeLine; decide, fun u nu => ?_⟩
          refine ⟨D, u, _, _, rfl, rfl, (same_upd nu) _ _ hL5, upd_same, by rw [List.length_map]; exact sz (by simp; omega), fun v nv => ?_⟩
          have b4 : (TL.joinL [46] (ws ++ [[99]])).length ≤ 20 := by
            rw [List.length_cons] at b3
            omega
          refine ⟨S [46], v, (ws ++ [[99]]).map S, rfl, rfl, .inl (SqL.of (by rw [upd_same, ← mapS, List.map_append]; rfl)), size_join (by omega), ?_⟩
          rw [join_S]
          have s6 := (same_upd (o := HO.lst [vS [99]]) nu).trans (same_upd (o := HO.lst (ws.map vS ++ [vS [99]])) nv)
          refine ⟨_, _, rfl, rfl, szadd (by simp only [List.length_singleton]; omega), ?_⟩
          rw [S_cat]
          exact add_rule (s6 _ _ hf5) (by omega) rfl rfl fun H6 f' rs' s7 hf6 hrs' => fin _ H6 f' rs' (s6.trans s7) hf6 hrs' l3 _ _ _ _
        · exact ⟨_, rfl, add_rule hf5 (by omega) rfl rfl fun H6 f' rs' s7 hf6 hrs' => fin _ H6 f' rs' s7 hf6 hrs' l1 _ _ _ _⟩
    · rintro σ H2 ⟨s2, D2, f, rs, y2, y3, y4, y5, rfl, hf, hl, hnd, hrs⟩
      exact ⟨_, rfl, f, _, rfl, .inl ⟨SqL.of hf, fun p np => q _ p rs (s2.trans (Sx.of (same_upd np))) ((D2.same (same_upd np)).mono (by omega)) upd_same (by omega) hnd hrs⟩⟩

/-! ### _law_labels -/
def sp__law_labels (K : PySem.W.Frag) : Sp := fun vs H Q _ => ∃ (d : Addr) (n : Nat), vs = [.ref d] ∧ n ≤ 80000000 ∧ Dr d n H ∧
  ∀ (H' : Hp) (p : Addr) (ws : List (List Nat)), Sx d H H' → Dr d (n + 30) H' → H' p = some (.lst (ws.map vS)) → ws ≠ [] → ws.length ≤ 6 → (∀ w ∈ ws, ab w = true) → Q (.ref p) H'
theorem ok__law_labels (T : Txt K mg) : FnOk P w K mg base CX0 3 T.f__law_labels T.d__law_labels ["_law_draw_here"] (sp__law_labels K) := by
  refine T.F__law_labels.ok sc__law_labels (fun vs H Q E h => ?_) (fun cdv A outer s H vs Q E hr h => ?_)
  · obtain ⟨d, n, rfl, _⟩ := h
    rfl
  · obtain ⟨d, n, rfl, hn, hD, q⟩ := h
    refine ⟨_, (pss_one (ps_ret (pe_lc (own := [("_law_j", 1)]) (g := gName 1) (tt := tYes) (by rfl) sc__law_labels.nd (pi_range1 (by rfl) T.n_range (pa_cons (pe_op op_add pe_int (pe_call (ok__law_digit T) (hr.mono (by decide)) (by rfl) T.g__law_digit T.F__law_digit.kp T.b__law_digit .nil pass0 (pa_cons (pv 0) (pa_cons pe_int pa_nil)))) pa_nil)) (blkOk_by (own := [("_law_j", 1)]) (N := N__law_labels) (sc := defScope S__law_labels) (by decide +kernel)) (fun _ _ _ _ _ => (pg_name (i := 1) sc__law_labels.nd rfl (.inl rfl))) (fun _ _ _ _ _ => pts_nil) (fun _ _ _ _ _ => (pe_ix ix_str pe_str (pe_call (ok__law_digit T) (hr.mono (by decide)) (by rfl) T.g__law_digit T.F__law_digit.kp T.b__law_digit .nil pass0 (pa_cons (pv 0) (pa_cons pe_int pa_nil))) (fun _ _ => rfl)))))), ?_⟩
    rw [abc_S]
    refine ⟨_, rfl, d, n, 6, rfl, by decide, by decide, by omega, hD, fun H1 k s1 D1 k0 k1 => ?_⟩
    refine ⟨1, k, rfl, rfl, 1 + k, rfl, by omega, by omega, fun D nD => ?_⟩
    refine lc_draws (lo := 0) (m := (1 + k).toNat) (n0 := n + 4) (c := 4) (P := fun w => ab w = true) nD (by omega) D1 (fun _ => rfl) (fun j H' hj s' D' Q' q' => ?_) (fun H2 ws s2 D2 hL hl hp => ?_)
    · exact pickC (fun _ _ _ q => q) rfl rfl (by omega) D' (fun H3 w s3 D3 hw => q' H3 w s3 (D3.mono (by omega)) hw)
    · exact q H2 D ws (s1.trans s2) (D2.mono (by omega)) hL (fun z => by rw [z] at hl; simp at hl; omega) (by omega) hp

/-! ### law -/
/-- hosts put together of labels -/
theorem label_no_dot {w : List Nat} (h : isLabel w = true) : 46 ∉ w := fun m => by
  unfold isLabel at h
  rw [Bool.and_eq_true] at h
  have h1 := List.all_eq_true.mp h.2 46 m
  have h2 : labSign 46 = false := by decide +kernel
  rw [h2] at h1
  cases h1
theorem parts_join {c : Nat} {ws : List (List Nat)} (hne : ws ≠ []) (h : ∀ w ∈ ws, c ∉ w) : parts c (TL.joinL [c] ws) = ws := TL.spl_join hne h
theorem isHost_join {ws : List (List Nat)} (hne : ws ≠ []) (h1 : ws.length ≤ 10) (h2 : ws.all isLabel = true) (h3 : (TL.joinL [46] ws).length ≤ 100)
    (h4 : isNum (ws.getLast hne) = false ∨ (ws.length = 4 ∧ ws.all isSmall = true)) : isHost (TL.joinL [46] ws) = true := by
  have e : parts 46 (TL.joinL [46] ws) = ws := parts_join hne fun w hw => label_no_dot (List.all_eq_true.mp h2 w hw)
  unfold isHost isAddr
  have e2 : (parts 46 (TL.joinL [46] ws)).getLast (parts_ne 46 _) = ws.getLast hne := by
    simp only [e]
  rw [decide_eq_true h3, e2, e, decide_eq_true h1, h2]
  rcases h4 with h4 | ⟨h4, h5⟩
  · rw [h4]
    rfl
  · rw [decide_eq_true h4, h5]
    simp
theorem joinL_len (c : Nat) : ∀ ws : List (List Nat), (TL.joinL [c] ws).length ≤ (ws.map (·.length)).sum + ws.length
  | [] => by simp [TL.joinL]
  | [x] => by simp [TL.joinL]
  | x :: y :: r => by
    have ih := joinL_len c (y :: r)
    show (x ++ ([c] ++ TL.joinL [c] (y :: r))).length ≤ (x.length :: (y :: r).map (·.length)).sum + ((y :: r).length + 1)
    rw [List.length_append, List.length_append, List.sum_cons, List.length_singleton]
    omega
theorem sum_bound {k : Nat} : ∀ {ws : List (List Nat)}, (∀ w ∈ ws, w.length ≤ k) → (ws.map (·.length)).sum ≤ k * ws.length
  | [], _ => by simp
  | w :: r, h => by
    have ih := sum_bound (k := k) (ws := r) fun x hx => h x (List.mem_cons_of_mem _ hx)
    have := h w List.mem_cons_self
    rw [List.map_cons, List.sum_cons, List.length_cons, Nat.mul_succ]
    omega
theorem addr_num {l : List Nat} (h : isAddr l = true) : isNum ((parts 46 l).getLast (parts_ne 46 l)) = true := by
  unfold isAddr at h
  rw [Bool.and_eq_true] at h
  have h1 := List.all_eq_true.mp h.2 _ (List.getLast_mem (parts_ne 46 l))
  unfold isSmall at h1
  rw [Bool.and_eq_true, Bool.and_eq_true, Bool.and_eq_true] at h1
  exact h1.1.1.1

structure Hw (W : List (List Nat)) : Prop where
  ne : W ≠ []
  len : W.length ≤ 7
  all : ∀ w ∈ W, isLabel w = true ∧ isNum w = false ∧ w.length ≤ 1
theorem ab_label {w : List Nat} (h : ab w = true) : isLabel w = true ∧ isNum w = false ∧ w.length ≤ 1 := by
  rcases ab_iff h with rfl | rfl | rfl <;> exact ⟨by decide +kernel, by decide +kernel, Nat.le_refl _⟩
def jo (W : List (List Nat)) : List Nat := TL.joinL [46] W
theorem Hw.parts {W : List (List Nat)} (h : Hw W) : parts 46 (jo W) = W := parts_join h.ne fun w hw => label_no_dot (h.all w hw).1
theorem Hw.short {W : List (List Nat)} (h : Hw W) : (jo W).length ≤ 14 := by
  have h1 := joinL_len 46 W
  have h2 := sum_bound (k := 1) (ws := W) fun w hw => (h.all w hw).2.2
  have h3 := h.len
  show (TL.joinL [46] W).length ≤ 14
  omega
theorem Hw.host {W : List (List Nat)} (h : Hw W) : isHost (jo W) = true := by
  have h1 := h.short
  exact isHost_join h.ne (Nat.le_trans h.len (by decide)) (List.all_eq_true.mpr fun w hw => (h.all w hw).1) (Nat.le_trans h1 (by decide)) (.inl (h.all _ (List.getLast_mem h.ne)).2.1)
theorem Hw.addr {W : List (List Nat)} (h : Hw W) : isAddr (jo W) = false := by
  cases e : isAddr (jo W) with
  | false => rfl
  | true =>
    have h1 := addr_num e
    simp only [h.parts] at h1
    rw [(h.all _ (List.getLast_mem h.ne)).2.1] at h1
    cases h1
theorem Hw.drop {W : List (List Nat)} (h : Hw W) {k : Nat} (hk : k < W.length) : Hw (W.drop k) :=
  ⟨fun z => by have := congrArg List.length z; rw [List.length_drop] at this; simp at this; omega, by rw [List.length_drop]; have := h.len; omega, fun w hw => h.all w (List.mem_of_mem_drop hw)⟩
theorem Hw.pos {W : List (List Nat)} (h : Hw W) : 1 ≤ W.length := List.length_pos_iff.mpr h.ne
theorem jo_inj {A B : List (List Nat)} (ha : Hw A) (hb : Hw B) (e : jo A = jo B) : A = B := by rw [← ha.parts, e, hb.parts]
def fam (rs W : List (List Nat)) : List Nat := jo (W.drop (W.length - famN rs W))
theorem fam_is {rs W : List (List Nat)} (h : Hw W) : famT rs (jo W) = fam rs W := by
  unfold famT
  rw [if_neg (by rw [h.addr]; exact Bool.false_ne_true), h.parts]
  rfl
theorem suf_is {rs W : List (List Nat)} (h : Hw W) : sufT rs (jo W) = jo (W.drop (W.length - many rs W)) := by
  unfold sufT
  rw [h.parts]
  rfl
theorem famN_le {rs W : List (List Nat)} (h : 1 ≤ W.length) : famN rs W ≤ W.length ∧ 1 ≤ famN rs W ∧ many rs W ≤ famN rs W := by
  have := many_le (rs := rs) h
  unfold famN
  by_cases e : many rs W = W.length
  · rw [if_pos e]
    omega
  · rw [if_neg e]
    omega
theorem fam_hw {rs W : List (List Nat)} (h : Hw W) : Hw (W.drop (W.length - famN rs W)) := by
  have := famN_le (rs := rs) h.pos
  have := h.pos
  exact h.drop (by omega)
theorem fam_parts {rs W : List (List Nat)} (h : Hw W) : (parts 46 (fam rs W)).length = famN rs W := by
  have e : parts 46 (fam rs W) = W.drop (W.length - famN rs W) := (fam_hw h).parts
  have := famN_le (rs := rs) h.pos
  rw [e, List.length_drop]
  omega
theorem match_last {r : List Nat} {W : List (List Nat)} {s : Nat} (hs : s ≤ W.length) : matchR r (W.drop (W.length - s)) = (decide ((rwords r).length ≤ s) && matchR r W) := by
  unfold matchR
  have ls : (W.drop (W.length - s)).length = s := by
    rw [List.length_drop]
    omega
  rw [ls]
  by_cases h : (rwords r).length ≤ s
  · rw [decide_eq_true h, decide_eq_true (Nat.le_trans h hs), List.drop_drop]
    have e : W.length - s + (s - (rwords r).length) = W.length - (rwords r).length := by omega
    rw [e]
    rfl
  · rw [decide_eq_false h]
    rfl
theorem excs_cons (r : List Nat) (rs W : List (List Nat)) : excs (r :: rs) W = (if (exc r && matchR r W) = true then [(rwords r).length] else []) ++ excs rs W := by
  unfold excs
  cases h : (exc r && matchR r W) <;> simp [List.filter, h]
theorem oths_cons (r : List Nat) (rs W : List (List Nat)) : oths (r :: rs) W = (if (!exc r && matchR r W) = true then [(rwords r).length] else []) ++ oths rs W := by
  unfold oths
  cases h : (!exc r && matchR r W) <;> simp [List.filter, h]
theorem excs_last {W : List (List Nat)} {s : Nat} (hs : s ≤ W.length) : ∀ rs : List (List Nat), excs rs (W.drop (W.length - s)) = (excs rs W).filter fun k => decide (k ≤ s)
  | [] => rfl
  | r :: rs => by
    rw [excs_cons, excs_cons, excs_last hs rs, List.filter_append, match_last hs]
    congr 1
    cases exc r <;> cases matchR r W <;> by_cases h : (rwords r).length ≤ s <;> simp [h]
theorem oths_last {W : List (List Nat)} {s : Nat} (hs : s ≤ W.length) : ∀ rs : List (List Nat), oths rs (W.drop (W.length - s)) = (oths rs W).filter fun k => decide (k ≤ s)
  | [] => rfl
  | r :: rs => by
    rw [oths_cons, oths_cons, oths_last hs rs, List.filter_append, match_last hs]
    congr 1
    cases exc r <;> cases matchR r W <;> by_cases h : (rwords r).length ≤ s <;> simp [h]
theorem filt_le {l : List Nat} {s : Nat} (h : ∀ x ∈ l, x ≤ s) : (l.filter fun k => decide (k ≤ s)) = l := List.filter_eq_self.mpr fun x hx => decide_eq_true (h x hx)
theorem many_last {rs W : List (List Nat)} {s : Nat} (h1 : famN rs W ≤ s) (hs : s ≤ W.length) (hp : 1 ≤ W.length) : many rs (W.drop (W.length - s)) = many rs W := by
  have hf := famN_le (rs := rs) hp
  by_cases e : excs rs W = []
  · have em : many rs W = if oths rs W = [] then 1 else maxL (oths rs W) := by
      unfold many
      rw [if_pos e]
    have eo : (oths rs W).filter (fun k => decide (k ≤ s)) = oths rs W := filt_le fun x hx => by
      rw [if_neg (fun z => by rw [z] at hx; cases hx)] at em
      have := maxL_le hx
      omega
    unfold many
    rw [excs_last hs, oths_last hs, eo, e]
    rfl
  · have em : many rs W = maxL (excs rs W) - 1 := by
      unfold many
      rw [if_neg e]
    have hm := excs_le (maxL_mem e)
    have hf2 : maxL (excs rs W) ≤ famN rs W := by
      unfold famN
      by_cases z : many rs W = W.length
      · rw [if_pos z]
        omega
      · rw [if_neg z]
        omega
    have ee : (excs rs W).filter (fun k => decide (k ≤ s)) = excs rs W := filt_le fun x hx => by
      have := maxL_le hx
      omega
    unfold many
    rw [excs_last hs, ee, if_neg e, if_neg e]
theorem famN_last {rs W : List (List Nat)} {s : Nat} (h1 : famN rs W ≤ s) (hs : s ≤ W.length) (hp : 1 ≤ W.length) : famN rs (W.drop (W.length - s)) = famN rs W := by
  have hm := many_last h1 hs hp
  have ls : (W.drop (W.length - s)).length = s := by
    rw [List.length_drop]
    omega
  have hl := many_le (rs := rs) hp
  unfold famN at h1 ⊢
  rw [hm, ls]
  by_cases a : many rs W = W.length
  · rw [if_pos a] at h1 ⊢
    rw [if_pos (by omega)]
    omega
  · rw [if_neg a] at h1 ⊢
    rw [if_neg (by omega)]
theorem fam_last {rs W : List (List Nat)} {s : Nat} (h1 : famN rs W ≤ s) (hs : s ≤ W.length) (hp : 1 ≤ W.length) : fam rs (W.drop (W.length - s)) = fam rs W := by
  have hm := famN_last h1 hs hp
  unfold fam
  have ls : (W.drop (W.length - s)).length = s := by
    rw [List.length_drop]
    omega
  rw [hm, ls, List.drop_drop]
  have e : W.length - s + (s - famN rs W) = W.length - famN rs W := by omega
  rw [e]
theorem fam_test {rs W : List (List Nat)} {s : Nat} (h : Hw W) (h0 : 1 ≤ s) (hs : s ≤ W.length) : decide (fam rs (W.drop (W.length - s)) = fam rs W) = decide (famN rs W ≤ s) := by
  by_cases h1 : famN rs W ≤ s
  · rw [decide_eq_true h1, decide_eq_true (fam_last h1 hs h.pos)]
  · rw [decide_eq_false h1, decide_eq_false]
    intro z
    have hd := h.drop (k := W.length - s) (by omega)
    have e1 := fam_parts (rs := rs) hd
    have e2 := famN_le (rs := rs) hd.pos
    rw [z, fam_parts h] at e1
    have e3 := e2.1
    rw [← e1, List.length_drop] at e3
    omega
theorem fits_drop {W : List (List Nat)} {k : Nat} (h : Hw W) (hk : k < W.length) : hostFits (jo W) (jo (W.drop k)) = true := by
  unfold hostFits
  rw [h.addr, Bool.not_false, Bool.true_and, Bool.or_eq_true, decide_eq_true_eq, List.isSuffixOf_iff_suffix]
  by_cases z : W.take k = []
  · left
    have e : W.drop k = W := by
      conv => rhs; rw [← List.take_append_drop k W, z]
      rfl
    rw [e]
  · right
    have e := join_app 46 z (h.drop hk).ne
    rw [List.take_append_drop] at e
    exact ⟨_, e.symm⟩
theorem fam_fits {rs W : List (List Nat)} (h : Hw W) : hostFits (jo W) (fam rs W) = true := by
  have := famN_le (rs := rs) h.pos
  have := h.pos
  exact fits_drop h (by omega)
theorem cons_jo {W : List (List Nat)} (c : List Nat) (h : W ≠ []) : c ++ [46] ++ jo W = jo (c :: W) := by
  cases W with
  | nil => exact absurd rfl h
  | cons w r =>
    rw [List.append_assoc]
    rfl
theorem hw_cons {W : List (List Nat)} {c : Nat} (h : Hw W) (h6 : W.length ≤ 6) (hc : c = 121 ∨ c = 122) : Hw ([c] :: W) := by
  refine ⟨List.cons_ne_nil _ _, by rw [List.length_cons]; omega, fun w hw => ?_⟩
  rcases List.mem_cons.mp hw with rfl | hw
  · rcases hc with rfl | rfl <;> exact ⟨by decide +kernel, by decide +kernel, Nat.le_refl _⟩
  · exact h.all w hw
theorem likeG {rs : List (List Nat)} (h6 : rs.length ≤ 6) (hn : rs.Nodup) (h : ∀ r ∈ rs, ruleLike r = true) : GoodR rs :=
  ⟨by omega, fun r hr => by
    have := h r hr
    unfold ruleLike at this
    simp only [Bool.and_eq_true] at this
    exact this.1.1.1.1, hn, fun r hr => Nat.le_trans (rule_short (h r hr)) (by decide)⟩
/-- "z." + host -/
theorem z_words {W : List (List Nat)} (h : Hw ([122] :: W)) : rwords (jo ([122] :: W)) = [122] :: W ∧ exc (jo ([122] :: W)) = false := by
  have e : exc (jo ([122] :: W)) = false := by
    cases W with
    | nil => rfl
    | cons w r => rfl
  refine ⟨?_, e⟩
  unfold rwords rbody
  rw [e]
  exact h.parts
theorem z_in {W : List (List Nat)} : 122 ∈ jo ([122] :: W) := by
  cases W with
  | nil => exact List.mem_cons_self
  | cons w r => exact List.mem_cons_self
theorem zG {rs W : List (List Nat)} (hz : Hw ([122] :: W)) (h6 : rs.length ≤ 6) (hn : rs.Nodup) (h : ∀ r ∈ rs, ruleLike r = true) : GoodR (rs ++ [jo ([122] :: W)]) := by
  have G := likeG h6 hn h
  obtain ⟨z1, z2⟩ := z_words hz
  refine ⟨by rw [List.length_append]; simp; omega, fun r hr => ?_, nodup_snoc hn fun m => ?_, fun r hr => ?_⟩
  · rcases List.mem_append.mp hr with hr | hr
    · exact G.all r hr
    · have e : r = jo ([122] :: W) := by simpa using hr
      subst e
      unfold isRule
      rw [z1, z2, if_neg (by simp), List.all_eq_true.mpr fun w hw => (hz.all w hw).1]
      simp
  · have := h _ m
    unfold ruleLike at this
    simp only [Bool.and_eq_true, Bool.not_eq_true', decide_eq_false_iff_not] at this
    exact this.1.1.2 z_in
  · rcases List.mem_append.mp hr with hr | hr
    · exact G.short r hr
    · have e : r = jo ([122] :: W) := by simpa using hr
      subst e
      exact Nat.le_trans hz.short (by decide)
theorem z_many {rs W : List (List Nat)} (hz : Hw ([122] :: W)) : many (rs ++ [jo ([122] :: W)]) W = many rs W := by
  obtain ⟨z1, z2⟩ := z_words hz
  have hm : matchR (jo ([122] :: W)) W = false := by
    unfold matchR
    rw [z1, decide_eq_false (by rw [List.length_cons]; omega), Bool.false_and]
  unfold many
  rw [excs_snoc, oths_snoc, hm, Bool.and_false, Bool.and_false, if_neg Bool.false_ne_true, List.append_nil, List.append_nil]
theorem match_y {r : List Nat} {W : List (List Nat)} (hl : ruleLike r = true) (he : exc r = true) : matchR r ([121] :: W) = matchR r W := by
  have e1 := match_last (r := r) (W := [121] :: W) (s := W.length) (Nat.le_succ _)
  have e2 : (([121] :: W) : List (List Nat)).length - W.length = 1 := by
    rw [List.length_cons]
    omega
  rw [e2] at e1
  have e3 : (([121] :: W) : List (List Nat)).drop 1 = W := rfl
  rw [e3] at e1
  by_cases h : (rwords r).length ≤ W.length
  · rw [e1, decide_eq_true h, Bool.true_and]
  · rw [e1, decide_eq_false h, Bool.false_and]
    unfold matchR
    by_cases h2 : (rwords r).length ≤ (([121] :: W) : List (List Nat)).length
    · rw [List.length_cons] at h2
      have e4 : (([121] :: W) : List (List Nat)).length - (rwords r).length = 0 := by
        rw [List.length_cons]
        omega
      rw [e4, List.drop_zero]
      unfold ruleLike at hl
      rw [he] at hl
      simp only [Bool.and_eq_true, Bool.not_true, Bool.false_or] at hl
      have ha := hl.1.2
      cases e5 : rwords r with
      | nil => exact absurd e5 (rwords_ne r)
      | cons w0 r0 =>
        rw [e5, List.all_cons, Bool.and_eq_true] at ha
        have ho : okWord w0 [121] = false := by
          rcases ab_iff ha.1 with rfl | rfl | rfl <;> decide
        rw [List.zip_cons_cons, List.all_cons, ho]
        simp
    · rw [decide_eq_false h2, Bool.false_and]
theorem excs_y {rs W : List (List Nat)} (h : ∀ r ∈ rs, ruleLike r = true) : excs rs ([121] :: W) = excs rs W := by
  unfold excs
  congr 1
  refine List.filter_congr fun r hr => ?_
  cases e : exc r with
  | false => rfl
  | true => rw [match_y (h r hr) e]
theorem many_y {rs W : List (List Nat)} (h : ∀ r ∈ rs, ruleLike r = true) : many rs ([121] :: W) = many rs W ∨ many rs ([121] :: W) = W.length + 1 := by
  have ex := excs_y (W := W) h
  by_cases e : excs rs W = []
  · by_cases m : W.length + 1 ∈ oths rs ([121] :: W)
    · right
      have hne : oths rs ([121] :: W) ≠ [] := fun z => by rw [z] at m; cases m
      unfold many
      rw [ex, if_pos e, if_neg hne]
      have h1 := maxL_le m
      have h2 := oths_le (maxL_mem hne)
      rw [List.length_cons] at h2
      omega
    · left
      have ol := oths_last (W := [121] :: W) (s := W.length) (Nat.le_succ _) rs
      have e2 : (([121] :: W) : List (List Nat)).length - W.length = 1 := by
        rw [List.length_cons]
        omega
      rw [e2] at ol
      have e3 : (([121] :: W) : List (List Nat)).drop 1 = W := rfl
      rw [e3, filt_le] at ol
      · unfold many
        rw [ex, ol]
      · intro x hx
        have h1 := oths_le hx
        rw [List.length_cons] at h1
        by_cases z : x = W.length + 1
        · rw [z] at hx
          exact absurd hx m
        · omega
  · left
    unfold many
    rw [ex, if_neg e, if_neg e]
theorem fam_y {rs W : List (List Nat)} (hW : 1 ≤ W.length) (h : ∀ r ∈ rs, ruleLike r = true) : (fam rs ([121] :: W) = fam rs W ∧ many rs W ≠ W.length) ∨ fam rs ([121] :: W) = jo ([121] :: W) := by
  have hl := many_le (rs := rs) hW
  rcases many_y (W := W) h with e | e
  · by_cases z : many rs W = W.length
    · right
      unfold fam famN
      rw [e, List.length_cons, if_neg (by omega), z, Nat.sub_self, List.drop_zero]
    · left
      refine ⟨?_, z⟩
      unfold fam famN
      rw [e, List.length_cons, if_neg (by omega), if_neg z]
      have e4 : W.length + 1 - (many rs W + 1) = (W.length - (many rs W + 1)) + 1 := by omega
      rw [e4, List.drop_succ_cons]
  · right
    unfold fam famN
    rw [e, List.length_cons, if_pos rfl, Nat.sub_self, List.drop_zero]
theorem suf_all {rs W : List (List Nat)} (G : GoodR rs) (h : Hw W) (e : sufT rs (jo W) = jo W) : many rs W = W.length := by
  rw [suf_is h] at e
  have hl := many_le (rs := rs) h.pos
  have hp := many_pos (ws := W) G
  have hpos := h.pos
  have e2 := jo_inj (h.drop (k := W.length - many rs W) (by omega)) h e
  have e3 := congrArg List.length e2
  rw [List.length_drop] at e3
  omega
theorem jo_y {W : List (List Nat)} (h : Hw W) (hy : Hw ([121] :: W)) : jo ([121] :: W) ≠ jo W := fun z => by
  have := congrArg List.length (jo_inj hy h z)
  rw [List.length_cons] at this
  omega
theorem nd_self (v : V) : (!decide (v = v)) = false := by
  rw [decide_eq_true rfl]
  rfl
theorem cat_one {K : PySem.W.Frag} {H : Hp} {Q : VK} {p t : Addr} {rs : List (List Nat)} {z : List Nat} (hp : H p = some (.tup (rs.map vS))) (ht : H t = some (.tup [vS z])) (hl : rs.length ≤ 1000)
    (q : ∀ H' o, Same H H' → H' o = some (.tup ((rs ++ [z]).map vS)) → Q (.ref o) H') : rCatA K (.ref p) (.ref t) H Q := by
  refine ⟨p, t, _, _, rfl, rfl, SqT.of hp, SqT.of ht, by rw [List.length_map]; exact sz (by simp; omega), fun e => ?_, fun _ e => (nomatch e), fun _ _ o no => ?_⟩
  · have e2 : rs = [] := List.map_eq_nil_iff.mp e
    subst e2
    exact q H t (Same.refl H) ht
  · refine q _ o (same_upd no) ?_
    rw [upd_same, List.map_append]
    rfl
theorem inVab (w a b : List Nat) : inV (vS w) [vS a, vS b] = (decide (w = a) || decide (w = b)) := by
  have e : inV (vS w) [vS a, vS b] = ((S a == S w) || ((S b == S w) || false)) := rfl
  rw [e, SX.S_beq_eq, SX.S_beq_eq, Bool.or_false, decide_eq_decide.mpr (eq_comm (a := a) (b := w)), decide_eq_decide.mpr (eq_comm (a := b) (b := w))]

def sp_law (K : PySem.W.Frag) : Sp := fun vs H Q _ => ∃ (a : Addr) (ns : List Int), vs = [.ref a] ∧ SqL K H a (ns.map V.int) ∧ ns.length ≤ 63 ∧ ∀ H', Q (.bl true) H'
theorem ok_law (T : Txt K mg) : FnOk P w K mg base CX0 9 T.f_law T.d_law ["_law_script"] (sp_law K) := by
  refine T.F_law.ok sc_law (fun vs H Q E h => ?_) (fun cdv A outer s H vs Q E hr h => ?_)
  · obtain ⟨a, ns, rfl, _⟩ := h
    rfl
  · obtain ⟨a, ns, rfl, hS, hlen, q⟩ := h
    refine ⟨_, (pss_cons (ps_for PassesOwn.never rfl (kpEnum (K := K) rfl (by rfl) T.n_enumerate (pa_cons (pe_op op_cat (pe_slice (kSlL (K := K) rfl) (pv 0) po_none (po_some pe_int)) (pe_lst (pa_cons (pe_callB (kSum (K := K) rfl rfl) (by rfl) T.n_sum (by decide +kernel) (pa_cons (pv 0) pa_nil)) pa_nil))) pa_nil)) (pg_tup (by rfl) (pgs_cons (pg_name (i := 1) sc_law.nd rfl (.inl rfl)) (pgs_cons (pg_name (i := 2) sc_law.nd rfl (.inl rfl)) pgs_nil)))
      (pss_cons (ps_set (i := 3) sc_law.nd rfl (.inl rfl) (pe_call (ok__law_draw T) (hr.mono (by decide)) (by rfl) T.g__law_draw T.F__law_draw.kp T.b__law_draw .nil pass0 (pa_cons (pv 2) (pa_cons (pv 1) pa_nil))))
      (pss_one (ps_for PassesOwn.never rfl (pi_range1 (by rfl) T.n_range (pa_cons pe_int pa_nil)) (pg_name (i := 4) sc_law.nd rfl (.inl rfl))
      (pss_cons (ps_par (by rfl) sc_law.nd (i := 5) (j := 6) rfl rfl (by decide) rfl rfl (pa_cons (pe_call (ok__law_rules T) (hr.mono (by decide)) (by rfl) T.g__law_rules T.F__law_rules.kp T.b__law_rules .nil pass0 (pa_cons (pv 3) pa_nil)) (pa_cons (pe_call (ok__law_labels T) (hr.mono (by decide)) (by rfl) T.g__law_labels T.F__law_labels.kp T.b__law_labels .nil pass0 (pa_cons (pv 3) pa_nil)) pa_nil)) (by rfl))
      (pss_cons (ps_set (i := 7) sc_law.nd rfl (.inl rfl) (pe_m1 PySem.F.slot_str_join PySem.F.type_str_join (kJoin (K := K) rfl) pe_str (pv 6)))
      (pss_cons (ps_set (i := 8) sc_law.nd rfl (.inl rfl) (pe_call (ok_family_of T) (hr.mono (by decide)) (by rfl) T.g_family_of T.F_family_of.kp T.b_family_of .nil pass0 (pa_cons (pv 5) (pa_cons (pv 7) pa_nil))))
      (pss_cons (ps_if (PW.pt (pw_or (pt_cmpR op_ne (pe_call (ok_family_of T) (hr.mono (by decide)) (by rfl) T.g_family_of T.F_family_of.kp T.b_family_of .nil pass0 (pa_cons (pv 5) (pa_cons (pv 8) pa_nil))) (pv 8) (nomark _)) (pw_or1 (pt_not (pt_val (pe_call (ok_host_fits T) (hr.mono (by decide)) (by rfl) T.g_host_fits T.F_host_fits.kp T.b_host_fits .nil pass0 (pa_cons (pv 7) (pa_cons (pv 8) pa_nil))))))))
      (pss_one (ps_ret pe_bl))
      pss_nil)
      (pss_cons (ps_set (i := 9) sc_law.nd rfl (.inl rfl) (pe_callB (kLen (K := K) rfl) (by rfl) T.n_len (by decide +kernel) (pa_cons (pe_split (pv 8) pe_str) pa_nil)))
      (pss_cons (ps_for PassesOwn.never rfl (pi_range2 (by rfl) T.n_range (pa_cons pe_int (pa_cons (pe_op op_add (pe_callB (kLen (K := K) rfl) (by rfl) T.n_len (by decide +kernel) (pa_cons (pv 6) pa_nil)) pe_int) pa_nil))) (pg_name (i := 10) sc_law.nd rfl (.inl rfl))
      (pss_cons (ps_set (i := 11) sc_law.nd rfl (.inl rfl) (pe_m1 PySem.F.slot_str_join PySem.F.type_str_join (kJoin (K := K) rfl) pe_str (pe_slice (kSlL (K := K) rfl) (pv 6) (po_some (pe_op op_sub (pe_callB (kLen (K := K) rfl) (by rfl) T.n_len (by decide +kernel) (pa_cons (pv 6) pa_nil)) (pv 10))) po_none)))
      (pss_one (ps_if (PW.pt (pw_or (pt_cmpR op_notBl (pe_call (ok_host_fits T) (hr.mono (by decide)) (by rfl) T.g_host_fits T.F_host_fits.kp T.b_host_fits .nil pass0 (pa_cons (pv 7) (pa_cons (pv 11) pa_nil))) pe_bl (nomark _)) (pw_or1 (pt_cmpR op_ne (pe_cmpR op_eq (pe_call (ok_family_of T) (hr.mono (by decide)) (by rfl) T.g_family_of T.F_family_of.kp T.b_family_of .nil pass0 (pa_cons (pv 5) (pa_cons (pv 11) pa_nil))) (pv 8) (nomark _)) (pe_cmpR op_ge (pv 10) (pv 9) (nomark _)) (nomark _)))))
      (pss_one (ps_ret pe_bl))
      pss_nil))))
      (pss_cons (ps_set (i := 12) sc_law.nd rfl (.inl rfl) (pe_op (kCatA (K := K) rfl) (pv 5) (pe_op (M01.op_m01 (K := K) rfl) (pe_tup (pa_cons (pe_op op_add_str pe_str (pe_m1 PySem.F.slot_str_join PySem.F.type_str_join (kJoin (K := K) rfl) pe_str (pv 6))) pa_nil)) (pe_callTy call_int1 (by rfl) T.n_int (by decide +kernel) (pa_cons (pe_cmpR op_lt (pe_callB (kLen (K := K) rfl) (by rfl) T.n_len (by decide +kernel) (pa_cons (pv 5) pa_nil)) pe_int (nomark _)) pa_nil)))))
      (pss_cons (ps_if (PW.pt (pw_or (pt_cmpR op_ne (pe_call (ok_family_of T) (hr.mono (by decide)) (by rfl) T.g_family_of T.F_family_of.kp T.b_family_of .nil pass0 (pa_cons (pv 12) (pa_cons (pv 7) pa_nil))) (pv 8) (nomark _)) (pw_or1 (pt_cmpR op_ne (pe_call (ok_suffix_of T) (hr.mono (by decide)) (by rfl) T.g_suffix_of T.F_suffix_of.kp T.b_suffix_of .nil pass0 (pa_cons (pv 12) (pa_cons (pv 7) pa_nil))) (pe_call (ok_suffix_of T) (hr.mono (by decide)) (by rfl) T.g_suffix_of T.F_suffix_of.kp T.b_suffix_of .nil pass0 (pa_cons (pv 5) (pa_cons (pv 7) pa_nil))) (nomark _)))))
      (pss_one (ps_ret pe_bl))
      pss_nil)
      (pss_cons (ps_set (i := 13) sc_law.nd rfl (.inl rfl) (pe_op op_add_str pe_str (pv 7)))
      (pss_cons (ps_if (pt_cmpR (kNi (K := K) rfl) (pe_call (ok_family_of T) (hr.mono (by decide)) (by rfl) T.g_family_of T.F_family_of.kp T.b_family_of .nil pass0 (pa_cons (pv 5) (pa_cons (pv 13) pa_nil))) (pe_tup (pa_cons (pv 8) (pa_cons (pv 13) pa_nil))) (by rfl))
      (pss_one (ps_ret pe_bl))
      pss_nil)
      (pss_one (ps_if (PW.pt (pw_and (pt_val (pe_call (ok_is_suffix T) (hr.mono (by decide)) (by rfl) T.g_is_suffix T.F_is_suffix.kp T.b_is_suffix .nil pass0 (pa_cons (pv 5) (pa_cons (pv 7) pa_nil)))) (pw_and1 (pt_cmpR op_eq (pe_call (ok_family_of T) (hr.mono (by decide)) (by rfl) T.g_family_of T.F_family_of.kp T.b_family_of .nil pass0 (pa_cons (pv 5) (pa_cons (pv 13) pa_nil))) (pv 7) (nomark _)))))
      (pss_one (ps_ret pe_bl))
      pss_nil))))))))))))))))
      (pss_one (ps_ret pe_bl))), ?_⟩
    -- script[:5] + [sum(script)]
    refine ⟨_, rfl, 5, rfl, a, _, rfl, hS, fun u nu => ?_⟩
    refine ⟨_, rfl, a, ns, rfl, (same_upd nu).seq hS, by show 1 ≤ sizeLine; decide, fun v nv => ?_⟩
    have nuv : u ≠ v := fun z => by rw [← z, upd_same] at nv; cases nv
    refine ⟨u, v, _, _, rfl, rfl, by rw [upd_ne nuv]; exact upd_same, upd_same, ?_, fun c nc => ?_⟩
    · have h1 : (cutV (ns.map V.int) none (some 5)).length ≤ 63 := by
        rw [cutV_map, List.length_map]
        exact Nat.le_trans (cut_len _ _ _) hlen
      exact sz (by simp only [List.length_cons, List.length_nil]; omega)
    have es : cutV (ns.map V.int) none (some 5) ++ [V.int ns.sum] = (ns.take 5 ++ [ns.sum]).map V.int := by
      rw [cutV_map, show (5 : Int) = ((5 : Nat) : Int) from rfl, cut_to, List.map_append]
      rfl
    rw [es]
    generalize hzs : ns.take 5 ++ [ns.sum] = zs
    have hz : zs.length ≤ 7 := by rw [← hzs, List.length_append, List.length_take]; simp; omega
    generalize hH0 : upd (upd (upd H u (.lst (cutV (ns.map V.int) none (some 5)))) v (.lst [V.int ns.sum])) c (.lst (zs.map V.int)) = H0
    have hc : H0 c = some (.lst (zs.map V.int)) := by rw [← hH0]; exact upd_same
    refine ⟨c, _, rfl, SqL.of hc, for_it (n := (zs.map V.int).length) walk_enum (fun i σ H' => Same H0 H' ∧ ∃ y1 y2 y3 y4 y5 y6 y7 y8 y9 y10 y11 y12 y13, σ = [some (.ref a), y1, y2, y3, y4, y5, y6, y7, y8, y9, y10, y11, y12, y13])
      ⟨Same.refl H0, none, none, none, none, none, none, none, none, none, none, none, none, none, rfl⟩ (fun _ _ _ _ hP => hP.1.seq (SqL.of hc)) (fun i x σ H1 H2 hi hP hY => ?_) (fun σ H1 _ => q H1)⟩
    obtain ⟨s1, y1, y2, y3, y4, y5, y6, y7, y8, y9, y10, y11, y12, y13, rfl⟩ := hP
    obtain ⟨T1, x1, x2, rfl, nT, rfl, e1, e2⟩ := hY
    cases e1
    obtain ⟨z, hz2, rfl⟩ : ∃ z, zs[i]? = some z ∧ x2 = V.int z := by
      have e2 : (zs.map V.int)[i]? = some x2 := e2
      rw [List.getElem?_map] at e2
      cases e : zs[i]? with
      | none => rw [e] at e2; cases e2
      | some z => rw [e] at e2; exact ⟨z, rfl, (Option.some.inj e2).symm⟩
    have hi7 : i < 7 := by rw [List.length_map] at hi; omega
    have s2 := s1.trans (same_upd (o := HO.tup [V.int (i : Nat), V.int z]) nT)
    refine ⟨T1, _, rfl, SqT.of upd_same, rfl, _, _, rfl, _, _, rfl, rfl, ?_⟩
    -- the source of drawn numbers
    refine ⟨_, rfl, _, rfl, z, (i : Nat), rfl, by omega, by omega, fun H3 d s3 nd D3 => ?_⟩
    refine ⟨6, rfl, by decide, by decide, for_range (lo := 0) (n := 6) (fun j σ H' => Sx d H3 H' ∧ Dr d (100000 + 230 * j) H' ∧ ∃ y4 y5 y6 y7 y8 y9 y10 y11 y12 y13, σ = [some (.ref a), some (.int (i : Nat)), some (.int z), some (.ref d), y4, y5, y6, y7, y8, y9, y10, y11, y12, y13])
      ⟨Sx.refl d H3, D3, _, _, _, _, _, _, _, _, _, _, rfl⟩ ?_ ?_⟩
    · rintro j σ H4 hj ⟨s4, D4, y4, y5, y6, y7, y8, y9, y10, y11, y12, y13, rfl⟩
      refine ⟨_, rfl, d, _, rfl, by omega, D4, fun H5 p rs s5 D5 hp hr6 hrn hrl => ?_⟩
      refine ⟨_, rfl, d, _, rfl, by omega, D5, fun H6 b W s6 D6 hb Wne W6 Wab => ⟨_, _, rfl, ?_⟩⟩
      have hW : Hw W := ⟨Wne, by omega, fun w hw => ab_label (Wab w hw)⟩
      have G := likeG hr6 hrn hrl
      have npd : p ≠ d := fun z => by
        obtain ⟨_, _, _, e, _⟩ := D5
        rw [z, e] at hp
        cases hp
      have hp6 := s6 _ _ npd hp
      have mapS : ∀ X : List (List Nat), X.map vS = (X.map S).map V.str := fun X => by
        rw [List.map_map]
        rfl
      have sho := hW.short
      have hWb := hb
      rw [mapS] at hWb
      rw [dot_S, show ("z." : Str) = S [122, 46] by decide +kernel, show ("y." : Str) = S [121, 46] by decide +kernel]
      have npos := hW.pos
      have hfh := fam_hw (rs := rs) hW
      have hfm := famN_le (rs := rs) hW.pos
      have sfh : (fam rs W).length ≤ 14 := hfh.short
      refine ⟨⟨_, rfl⟩, _, rfl, S [46], b, W.map S, rfl, rfl, .inl (SqL.of hWb), size_join (Nat.le_trans sho (by decide)), ?_⟩
      rw [join_S]
      refine ⟨_, rfl, _, rfl, p, rs, jo W, rfl, hp6, G, hW.host, fun H7 s7 => ?_⟩
      rw [fam_is hW]
      have hp7 := s7 _ _ hp6
      have hb7 := s7 _ _ hb
      refine ⟨_, rfl, _, rfl, p, rs, fam rs W, rfl, hp7, G, hfh.host, fun H8 s8 => ⟨_, rfl, rfl, _, rfl, ?_⟩⟩
      have e1 : famT rs (fam rs W) = fam rs W := (fam_is hfh).trans (fam_last (Nat.le_refl _) hfm.1 hW.pos)
      rw [e1, nd_self]
      refine ⟨_, rfl, _, rfl, jo W, fam rs W, rfl, hW.host, hfh.host, fun H9 s9 => ⟨_, rfl, ?_⟩⟩
      rw [fam_fits hW]
      refine ⟨_, rfl, ⟨_, rfl⟩, S (fam rs W), S [46], rfl, rfl, rfl, by rw [S_len]; exact sz (by omega), fun e ne => ?_⟩
      rw [split_S (by decide)]
      refine ⟨e, _, rfl, .inl (SqL.of upd_same), ?_⟩
      rw [List.length_map, fam_parts hW]
      have s10 := s8.trans (s9.trans (same_upd (o := HO.lst ((parts 46 (fam rs W)).map vS)) ne))
      generalize upd H9 e (.lst ((parts 46 (fam rs W)).map vS)) = H10 at s10
      have hp10 := s10 _ _ hp7
      have hb10 := s10 _ _ hb7
      refine ⟨_, rfl, b, _, rfl, .inl (SqL.of hb10), _, _, rfl, rfl, 1, _, rfl, ⟨by decide, by decide, ?_, ?_⟩, ?_⟩
      · rw [List.length_map]; omega
      · rw [List.length_map]; omega
      rw [List.length_map]
      refine for_range (lo := 1) (n := ((W.length : Int) + 1 - 1).toNat) (fun m σ H' => Same H10 H' ∧ ∃ y10 y11, σ = [some (.ref a), some (.int (i : Nat)), some (.int z), some (.ref d), some (.int (0 + (j : Nat))), some (.ref p), some (.ref b), some (vS (jo W)), some (vS (fam rs W)), some (.int (famN rs W : Nat)), y10, y11, y12, y13])
        ⟨Same.refl H10, _, _, rfl⟩ ?_ ?_
      · rintro m σ H11 hm ⟨s11, y10, y11, rfl⟩
        have hb11 := s11 _ _ hb10
        have hp11 := s11 _ _ hp10
        have m1 : m + 1 ≤ W.length := by omega
        have hdr := hW.drop (k := W.length - (m + 1)) (by omega)
        have sdr := hdr.short
        refine ⟨⟨_, rfl⟩, _, rfl, _, rfl, b, _, rfl, .inl (SqL.of hb11), _, rfl, _, _, rfl, rfl, _, rfl, b, _, rfl, SqL.of hb11, fun u nu => ?_⟩
        rw [List.length_map]
        have ek : (W.length : Int) - (1 + (m : Int)) = ((W.length - (m + 1) : Nat) : Int) := by omega
        rw [ek, cutV_map, cut_from]
        refine ⟨S [46], u, (W.drop (W.length - (m + 1))).map S, rfl, rfl, .inl (SqL.of (by rw [upd_same, ← mapS])), size_join (Nat.le_trans sdr (by decide)), ?_⟩
        rw [join_S]
        have s12 := s11.trans (same_upd (o := HO.lst ((W.drop (W.length - (m + 1))).map vS)) nu)
        have hp12 := (same_upd (o := HO.lst ((W.drop (W.length - (m + 1))).map vS)) nu) _ _ hp11
        refine ⟨_, rfl, _, rfl, jo W, jo (W.drop (W.length - (m + 1))), rfl, hW.host, hdr.host, fun H13 s13 => ⟨_, true, rfl, rfl, _, rfl, ?_⟩⟩
        rw [fits_drop hW (by omega)]
        refine ⟨_, rfl, _, rfl, p, rs, jo (W.drop (W.length - (m + 1))), rfl, s13 _ _ hp12, G, hdr.host, fun H14 s14 => ?_⟩
        rw [fam_is hdr]
        refine ⟨_, rfl, rfl, _, rfl, _, rfl, _, _, rfl, rfl, rfl, _, rfl, ?_⟩
        rw [dS, fam_test hW (by omega) m1]
        have ec : decide (((famN rs W : Nat) : Int) ≤ 1 + (m : Int)) = decide (famN rs W ≤ m + 1) := by
          rw [decide_eq_decide]
          omega
        have e9 : ((fun i j : Int => V.bl (decide (j ≤ i))) (1 + (m : Int)) ((famN rs W : Nat) : Int)) = V.bl (decide (famN rs W ≤ m + 1)) := congrArg V.bl ec
        rw [e9, ndB]
        exact ⟨s12.trans (s13.trans s14), _, _, rfl⟩
      · rintro σ H11 ⟨s11, y10, y11, rfl⟩
        have hb11 := s11 _ _ hb10
        have hp11 := s11 _ _ hp10
        have hz := hw_cons (c := 122) hW W6 (.inr rfl)
        have hy := hw_cons (c := 121) hW W6 (.inl rfl)
        have GZ := zG hz hr6 hrn hrl
        have szr := hz.short
        have syr := hy.short
        -- a rule more
        refine ⟨_, rfl, ⟨_, rfl⟩, _, rfl, S [46], b, W.map S, rfl, rfl, .inl (SqL.of (by rw [← mapS]; exact hb11)), size_join (Nat.le_trans sho (by decide)), ?_⟩
        rw [join_S]
        refine ⟨_, _, rfl, rfl, szadd (by simp only [List.length_cons, List.length_nil]; have : (TL.joinL [46] W).length ≤ 14 := sho; omega), ?_⟩
        rw [S_cat]
        have ez : [122, 46] ++ TL.joinL [46] W = jo ([122] :: W) := cons_jo [122] hW.ne
        rw [ez]
        refine ⟨by show 1 ≤ sizeLine; decide, fun t nt => ?_⟩
        have hpt := (same_upd (o := HO.tup [vS (jo ([122] :: W))]) nt) _ _ hp11
        refine ⟨_, rfl, p, _, rfl, .inr (SqT.of hpt), _, _, rfl, rfl, .inr ⟨_, rfl, ?_⟩⟩
        rw [List.length_map, decide_eq_true (by omega)]
        refine ⟨t, _, true, rfl, rfl, SqT.of upd_same, (fun h => nomatch h), (fun _ => ?_), (fun h => nomatch h)⟩
        refine cat_one hpt upd_same (by omega) fun H12 o s12 ho => ?_
        have sH : Same H11 H12 := (same_upd (o := HO.tup [vS (jo ([122] :: W))]) nt).trans s12
        have hp12 := sH _ _ hp11
        refine ⟨_, rfl, _, rfl, o, _, jo W, rfl, ho, GZ, hW.host, fun H13 s13 => ?_⟩
        have ez2 : famT (rs ++ [jo ([122] :: W)]) (jo W) = fam rs W := by
          rw [fam_is hW]
          unfold fam famN
          rw [z_many hz]
        rw [ez2]
        refine ⟨_, rfl, rfl, _, rfl, ?_⟩
        rw [nd_self]
        refine ⟨_, rfl, _, rfl, o, _, jo W, rfl, s13 _ _ ho, GZ, hW.host, fun H14 s14 => ?_⟩
        have ez3 : sufT (rs ++ [jo ([122] :: W)]) (jo W) = sufT rs (jo W) := by
          rw [suf_is hW, suf_is hW, z_many hz]
        rw [ez3, if_neg (by rw [hW.addr]; exact Bool.false_ne_true)]
        have hp14 := s14 _ _ (s13 _ _ hp12)
        refine ⟨_, rfl, _, rfl, p, rs, jo W, rfl, hp14, G, hW.host, fun H15 s15 => ?_⟩
        rw [if_neg (by rw [hW.addr]; exact Bool.false_ne_true)]
        refine ⟨rfl, _, rfl, ?_⟩
        rw [nd_self]
        have hp15 := s15 _ _ hp14
        -- one label more
        refine ⟨_, rfl, _, _, rfl, rfl, szadd (by simp only [List.length_cons, List.length_nil]; omega), ?_⟩
        rw [S_cat]
        have ey : [121, 46] ++ jo W = jo ([121] :: W) := cons_jo [121] hW.ne
        rw [ey]
        refine ⟨_, rfl, _, rfl, p, rs, jo ([121] :: W), rfl, hp15, G, hy.host, fun H16 s16 => ?_⟩
        rw [fam_is hy]
        have hp16 := s16 _ _ hp15
        refine ⟨_, rfl, _, rfl, by show 2 ≤ sizeLine; decide, fun t2 nt2 => ⟨t2, _, rfl, .inr (SqT.of upd_same), rfl, rfl, _, rfl, ?_⟩⟩
        rw [if_pos rfl, inVab]
        have fy := fam_y (rs := rs) hW.pos hrl
        have fy1 : (decide (fam rs ([121] :: W) = fam rs W) || decide (fam rs ([121] :: W) = jo ([121] :: W))) = true := by
          rw [Bool.or_eq_true, decide_eq_true_eq, decide_eq_true_eq]
          rcases fy with ⟨h, _⟩ | h
          · exact .inl h
          · exact .inr h
        rw [fy1]
        have hp17 := (same_upd (o := HO.tup [vS (fam rs W), vS (jo ([121] :: W))]) nt2) _ _ hp16
        have s17 := s16.trans (same_upd (o := HO.tup [vS (fam rs W), vS (jo ([121] :: W))]) nt2)
        generalize upd H16 t2 (.tup [vS (fam rs W), vS (jo ([121] :: W))]) = H17 at hp17 s17
        have sAll : Same H6 H17 := s7.trans (s10.trans (s11.trans (sH.trans (s13.trans (s14.trans (s15.trans s17))))))
        refine ⟨_, rfl, _, rfl, p, rs, jo W, rfl, hp17, G, hW.host, fun H18 s18 => ⟨_, rfl, ?_⟩⟩
        have fin : ∀ H', Same H18 H' → Sx d H3 H' ∧ Dr d (100000 + 230 * (j + 1)) H' := fun H' s' => by
          have s := sAll.trans (s18.trans s')
          exact ⟨(s4.trans s5).trans (s6.trans (Sx.of s)), (D6.same s).mono (by omega)⟩
        refine if2 (fun h1 => ?_) (fun h1 => ?_)
        · refine ⟨_, rfl, _, rfl, p, rs, jo ([121] :: W), rfl, s18 _ _ hp17, G, hy.host, fun H19 s19 => ?_⟩
          rw [fam_is hy]
          have hs : many rs W = W.length := by
            unfold isSuf at h1
            rw [Bool.and_eq_true, decide_eq_true_eq] at h1
            exact suf_all G hW h1.2
          have hne : fam rs ([121] :: W) ≠ jo W := by
            rcases fy with ⟨_, h⟩ | h
            · exact absurd hs h
            · rw [h]
              exact jo_y hW hy
          refine ⟨_, rfl, rfl, _, rfl, ?_⟩
          rw [dS, decide_eq_false hne]
          exact ⟨(fin H19 s19).1, (fin H19 s19).2, _, _, _, _, _, _, _, _, _, _, rfl⟩
        · exact ⟨(fin H18 (Same.refl H18)).1, (fin H18 (Same.refl H18)).2, _, _, _, _, _, _, _, _, _, _, rfl⟩
    · rintro σ H4 ⟨s4, D4, y4, y5, y6, y7, y8, y9, y10, y11, y12, y13, rfl⟩
      exact ⟨same_sx s2 nd s3 s4, _, _, _, _, _, _, _, _, _, _, _, _, _, rfl⟩

end
theorem all_mk {l : PySem.W.OpenLaw} {w : World} {K : PySem.W.Frag} {h : Heap} {mg : Str → Option Value} {fa : Addr} (X : K.In h) (G : h.Ns mainGlobals mg) (hfa : mg "law" = some (.ref fa))
    {f0 : Addr} {od0 an0 : Option Addr} {sl0 : Array (Option Value)} {oc0 kV0 dc0 pm0 cd0 ct0 : Value}
    (a0 : PySem.W.nsIn K mainGlobals "s1_is_number_word" = some (some (.ref f0))) (l0 : K.lookup f0 = some ⟨oc0, od0, .func (PySem.W.fnOf "s1_is_number_word" "s1_is_number_word" (defArgs S_s1_is_number_word) (defBody S_s1_is_number_word) (defScope S_s1_is_number_word) .none kV0 dc0 pm0 an0 cd0 ct0), sl0⟩) (c0 : PySem.W.codeIn K cd0 "s1_is_number_word" = true) (k0 : PySem.W.keepIn K (.ref f0) = true)
    {f1 : Addr} {od1 an1 : Option Addr} {sl1 : Array (Option Value)} {oc1 kV1 dc1 pm1 cd1 ct1 : Value}
    (a1 : PySem.W.nsIn K mainGlobals "s1_is_small" = some (some (.ref f1))) (l1 : K.lookup f1 = some ⟨oc1, od1, .func (PySem.W.fnOf "s1_is_small" "s1_is_small" (defArgs S_s1_is_small) (defBody S_s1_is_small) (defScope S_s1_is_small) .none kV1 dc1 pm1 an1 cd1 ct1), sl1⟩) (c1 : PySem.W.codeIn K cd1 "s1_is_small" = true) (k1 : PySem.W.keepIn K (.ref f1) = true)
    {f2 : Addr} {od2 an2 : Option Addr} {sl2 : Array (Option Value)} {oc2 kV2 dc2 pm2 cd2 ct2 : Value}
    (a2 : PySem.W.nsIn K mainGlobals "s1_is_label" = some (some (.ref f2))) (l2 : K.lookup f2 = some ⟨oc2, od2, .func (PySem.W.fnOf "s1_is_label" "s1_is_label" (defArgs S_s1_is_label) (defBody S_s1_is_label) (defScope S_s1_is_label) .none kV2 dc2 pm2 an2 cd2 ct2), sl2⟩) (c2 : PySem.W.codeIn K cd2 "s1_is_label" = true) (k2 : PySem.W.keepIn K (.ref f2) = true)
    {f3 : Addr} {od3 an3 : Option Addr} {sl3 : Array (Option Value)} {oc3 kV3 dc3 pm3 cd3 ct3 : Value}
    (a3 : PySem.W.nsIn K mainGlobals "is_address_host" = some (some (.ref f3))) (l3 : K.lookup f3 = some ⟨oc3, od3, .func (PySem.W.fnOf "is_address_host" "is_address_host" (defArgs S_is_address_host) (defBody S_is_address_host) (defScope S_is_address_host) .none kV3 dc3 pm3 an3 cd3 ct3), sl3⟩) (c3 : PySem.W.codeIn K cd3 "is_address_host" = true) (k3 : PySem.W.keepIn K (.ref f3) = true)
    {f4 : Addr} {od4 an4 : Option Addr} {sl4 : Array (Option Value)} {oc4 kV4 dc4 pm4 cd4 ct4 : Value}
    (a4 : PySem.W.nsIn K mainGlobals "is_host" = some (some (.ref f4))) (l4 : K.lookup f4 = some ⟨oc4, od4, .func (PySem.W.fnOf "is_host" "is_host" (defArgs S_is_host) (defBody S_is_host) (defScope S_is_host) .none kV4 dc4 pm4 an4 cd4 ct4), sl4⟩) (c4 : PySem.W.codeIn K cd4 "is_host" = true) (k4 : PySem.W.keepIn K (.ref f4) = true)
    {f5 : Addr} {od5 an5 : Option Addr} {sl5 : Array (Option Value)} {oc5 kV5 dc5 pm5 cd5 ct5 : Value}
    (a5 : PySem.W.nsIn K mainGlobals "s1_may_become_address" = some (some (.ref f5))) (l5 : K.lookup f5 = some ⟨oc5, od5, .func (PySem.W.fnOf "s1_may_become_address" "s1_may_become_address" (defArgs S_s1_may_become_address) (defBody S_s1_may_become_address) (defScope S_s1_may_become_address) .none kV5 dc5 pm5 an5 cd5 ct5), sl5⟩) (c5 : PySem.W.codeIn K cd5 "s1_may_become_address" = true) (k5 : PySem.W.keepIn K (.ref f5) = true)
    {f6 : Addr} {od6 an6 : Option Addr} {sl6 : Array (Option Value)} {oc6 kV6 dc6 pm6 cd6 ct6 : Value}
    (a6 : PySem.W.nsIn K mainGlobals "s1_begins" = some (some (.ref f6))) (l6 : K.lookup f6 = some ⟨oc6, od6, .func (PySem.W.fnOf "s1_begins" "s1_begins" (defArgs S_s1_begins) (defBody S_s1_begins) (defScope S_s1_begins) .none kV6 dc6 pm6 an6 cd6 ct6), sl6⟩) (c6 : PySem.W.codeIn K cd6 "s1_begins" = true) (k6 : PySem.W.keepIn K (.ref f6) = true)
    {f7 : Addr} {od7 an7 : Option Addr} {sl7 : Array (Option Value)} {oc7 kV7 dc7 pm7 cd7 ct7 : Value}
    (a7 : PySem.W.nsIn K mainGlobals "need_host" = some (some (.ref f7))) (l7 : K.lookup f7 = some ⟨oc7, od7, .func (PySem.W.fnOf "need_host" "need_host" (defArgs S_need_host) (defBody S_need_host) (defScope S_need_host) .none kV7 dc7 pm7 an7 cd7 ct7), sl7⟩) (c7 : PySem.W.codeIn K cd7 "need_host" = true) (k7 : PySem.W.keepIn K (.ref f7) = true)
    {f8 : Addr} {od8 an8 : Option Addr} {sl8 : Array (Option Value)} {oc8 kV8 dc8 pm8 cd8 ct8 : Value}
    (a8 : PySem.W.nsIn K mainGlobals "s1_place" = some (some (.ref f8))) (l8 : K.lookup f8 = some ⟨oc8, od8, .func (PySem.W.fnOf "s1_place" "s1_place" (defArgs S_s1_place) (defBody S_s1_place) (defScope S_s1_place) .none kV8 dc8 pm8 an8 cd8 ct8), sl8⟩) (c8 : PySem.W.codeIn K cd8 "s1_place" = true) (k8 : PySem.W.keepIn K (.ref f8) = true)
    {f9 : Addr} {od9 an9 : Option Addr} {sl9 : Array (Option Value)} {oc9 kV9 dc9 pm9 cd9 ct9 : Value}
    (a9 : PySem.W.nsIn K mainGlobals "s1_fits" = some (some (.ref f9))) (l9 : K.lookup f9 = some ⟨oc9, od9, .func (PySem.W.fnOf "s1_fits" "s1_fits" (defArgs S_s1_fits) (defBody S_s1_fits) (defScope S_s1_fits) .none kV9 dc9 pm9 an9 cd9 ct9), sl9⟩) (c9 : PySem.W.codeIn K cd9 "s1_fits" = true) (k9 : PySem.W.keepIn K (.ref f9) = true)
    {f10 : Addr} {od10 an10 : Option Addr} {sl10 : Array (Option Value)} {oc10 kV10 dc10 pm10 cd10 ct10 : Value}
    (a10 : PySem.W.nsIn K mainGlobals "host_fits" = some (some (.ref f10))) (l10 : K.lookup f10 = some ⟨oc10, od10, .func (PySem.W.fnOf "host_fits" "host_fits" (defArgs S_host_fits) (defBody S_host_fits) (defScope S_host_fits) .none kV10 dc10 pm10 an10 cd10 ct10), sl10⟩) (c10 : PySem.W.codeIn K cd10 "host_fits" = true) (k10 : PySem.W.keepIn K (.ref f10) = true)
    {f11 : Addr} {od11 an11 : Option Addr} {sl11 : Array (Option Value)} {oc11 kV11 dc11 pm11 cd11 ct11 : Value}
    (a11 : PySem.W.nsIn K mainGlobals "s1_is_rule" = some (some (.ref f11))) (l11 : K.lookup f11 = some ⟨oc11, od11, .func (PySem.W.fnOf "s1_is_rule" "s1_is_rule" (defArgs S_s1_is_rule) (defBody S_s1_is_rule) (defScope S_s1_is_rule) .none kV11 dc11 pm11 an11 cd11 ct11), sl11⟩) (c11 : PySem.W.codeIn K cd11 "s1_is_rule" = true) (k11 : PySem.W.keepIn K (.ref f11) = true)
    {f12 : Addr} {od12 an12 : Option Addr} {sl12 : Array (Option Value)} {oc12 kV12 dc12 pm12 cd12 ct12 : Value}
    (a12 : PySem.W.nsIn K mainGlobals "need_rules" = some (some (.ref f12))) (l12 : K.lookup f12 = some ⟨oc12, od12, .func (PySem.W.fnOf "need_rules" "need_rules" (defArgs S_need_rules) (defBody S_need_rules) (defScope S_need_rules) .none kV12 dc12 pm12 an12 cd12 ct12), sl12⟩) (c12 : PySem.W.codeIn K cd12 "need_rules" = true) (k12 : PySem.W.keepIn K (.ref f12) = true)
    {f13 : Addr} {od13 an13 : Option Addr} {sl13 : Array (Option Value)} {oc13 kV13 dc13 pm13 cd13 ct13 : Value}
    (a13 : PySem.W.nsIn K mainGlobals "s1_matching" = some (some (.ref f13))) (l13 : K.lookup f13 = some ⟨oc13, od13, .func (PySem.W.fnOf "s1_matching" "s1_matching" (defArgs S_s1_matching) (defBody S_s1_matching) (defScope S_s1_matching) .none kV13 dc13 pm13 an13 cd13 ct13), sl13⟩) (c13 : PySem.W.codeIn K cd13 "s1_matching" = true) (k13 : PySem.W.keepIn K (.ref f13) = true)
    {f14 : Addr} {od14 an14 : Option Addr} {sl14 : Array (Option Value)} {oc14 kV14 dc14 pm14 cd14 ct14 : Value}
    (a14 : PySem.W.nsIn K mainGlobals "s1_suffix" = some (some (.ref f14))) (l14 : K.lookup f14 = some ⟨oc14, od14, .func (PySem.W.fnOf "s1_suffix" "s1_suffix" (defArgs S_s1_suffix) (defBody S_s1_suffix) (defScope S_s1_suffix) .none kV14 dc14 pm14 an14 cd14 ct14), sl14⟩) (c14 : PySem.W.codeIn K cd14 "s1_suffix" = true) (k14 : PySem.W.keepIn K (.ref f14) = true)
    {f15 : Addr} {od15 an15 : Option Addr} {sl15 : Array (Option Value)} {oc15 kV15 dc15 pm15 cd15 ct15 : Value}
    (a15 : PySem.W.nsIn K mainGlobals "s1_family" = some (some (.ref f15))) (l15 : K.lookup f15 = some ⟨oc15, od15, .func (PySem.W.fnOf "s1_family" "s1_family" (defArgs S_s1_family) (defBody S_s1_family) (defScope S_s1_family) .none kV15 dc15 pm15 an15 cd15 ct15), sl15⟩) (c15 : PySem.W.codeIn K cd15 "s1_family" = true) (k15 : PySem.W.keepIn K (.ref f15) = true)
    {f16 : Addr} {od16 an16 : Option Addr} {sl16 : Array (Option Value)} {oc16 kV16 dc16 pm16 cd16 ct16 : Value}
    (a16 : PySem.W.nsIn K mainGlobals "need_both" = some (some (.ref f16))) (l16 : K.lookup f16 = some ⟨oc16, od16, .func (PySem.W.fnOf "need_both" "need_both" (defArgs S_need_both) (defBody S_need_both) (defScope S_need_both) .none kV16 dc16 pm16 an16 cd16 ct16), sl16⟩) (c16 : PySem.W.codeIn K cd16 "need_both" = true) (k16 : PySem.W.keepIn K (.ref f16) = true)
    {f17 : Addr} {od17 an17 : Option Addr} {sl17 : Array (Option Value)} {oc17 kV17 dc17 pm17 cd17 ct17 : Value}
    (a17 : PySem.W.nsIn K mainGlobals "suffix_of" = some (some (.ref f17))) (l17 : K.lookup f17 = some ⟨oc17, od17, .func (PySem.W.fnOf "suffix_of" "suffix_of" (defArgs S_suffix_of) (defBody S_suffix_of) (defScope S_suffix_of) .none kV17 dc17 pm17 an17 cd17 ct17), sl17⟩) (c17 : PySem.W.codeIn K cd17 "suffix_of" = true) (k17 : PySem.W.keepIn K (.ref f17) = true)
    {f18 : Addr} {od18 an18 : Option Addr} {sl18 : Array (Option Value)} {oc18 kV18 dc18 pm18 cd18 ct18 : Value}
    (a18 : PySem.W.nsIn K mainGlobals "family_of" = some (some (.ref f18))) (l18 : K.lookup f18 = some ⟨oc18, od18, .func (PySem.W.fnOf "family_of" "family_of" (defArgs S_family_of) (defBody S_family_of) (defScope S_family_of) .none kV18 dc18 pm18 an18 cd18 ct18), sl18⟩) (c18 : PySem.W.codeIn K cd18 "family_of" = true) (k18 : PySem.W.keepIn K (.ref f18) = true)
    {f19 : Addr} {od19 an19 : Option Addr} {sl19 : Array (Option Value)} {oc19 kV19 dc19 pm19 cd19 ct19 : Value}
    (a19 : PySem.W.nsIn K mainGlobals "is_suffix" = some (some (.ref f19))) (l19 : K.lookup f19 = some ⟨oc19, od19, .func (PySem.W.fnOf "is_suffix" "is_suffix" (defArgs S_is_suffix) (defBody S_is_suffix) (defScope S_is_suffix) .none kV19 dc19 pm19 an19 cd19 ct19), sl19⟩) (c19 : PySem.W.codeIn K cd19 "is_suffix" = true) (k19 : PySem.W.keepIn K (.ref f19) = true)
    {f20 : Addr} {od20 an20 : Option Addr} {sl20 : Array (Option Value)} {oc20 kV20 dc20 pm20 cd20 ct20 : Value}
    (a20 : PySem.W.nsIn K mainGlobals "_law_mixed" = some (some (.ref f20))) (l20 : K.lookup f20 = some ⟨oc20, od20, .func (PySem.W.fnOf "_law_mixed" "_law_mixed" (defArgs S__law_mixed) (defBody S__law_mixed) (defScope S__law_mixed) .none kV20 dc20 pm20 an20 cd20 ct20), sl20⟩) (c20 : PySem.W.codeIn K cd20 "_law_mixed" = true) (k20 : PySem.W.keepIn K (.ref f20) = true)
    {f21 : Addr} {od21 an21 : Option Addr} {sl21 : Array (Option Value)} {oc21 kV21 dc21 pm21 cd21 ct21 : Value}
    (a21 : PySem.W.nsIn K mainGlobals "_law_draw" = some (some (.ref f21))) (l21 : K.lookup f21 = some ⟨oc21, od21, .func (PySem.W.fnOf "_law_draw" "_law_draw" (defArgs S__law_draw) (defBody S__law_draw) (defScope S__law_draw) .none kV21 dc21 pm21 an21 cd21 ct21), sl21⟩) (c21 : PySem.W.codeIn K cd21 "_law_draw" = true) (k21 : PySem.W.keepIn K (.ref f21) = true)
    {f22 : Addr} {od22 an22 : Option Addr} {sl22 : Array (Option Value)} {oc22 kV22 dc22 pm22 cd22 ct22 : Value}
    (a22 : PySem.W.nsIn K mainGlobals "_law_digit" = some (some (.ref f22))) (l22 : K.lookup f22 = some ⟨oc22, od22, .func (PySem.W.fnOf "_law_digit" "_law_digit" (defArgs S__law_digit) (defBody S__law_digit) (defScope S__law_digit) .none kV22 dc22 pm22 an22 cd22 ct22), sl22⟩) (c22 : PySem.W.codeIn K cd22 "_law_digit" = true) (k22 : PySem.W.keepIn K (.ref f22) = true)
    {f23 : Addr} {od23 an23 : Option Addr} {sl23 : Array (Option Value)} {oc23 kV23 dc23 pm23 cd23 ct23 : Value}
    (a23 : PySem.W.nsIn K mainGlobals "_law_rules" = some (some (.ref f23))) (l23 : K.lookup f23 = some ⟨oc23, od23, .func (PySem.W.fnOf "_law_rules" "_law_rules" (defArgs S__law_rules) (defBody S__law_rules) (defScope S__law_rules) .none kV23 dc23 pm23 an23 cd23 ct23), sl23⟩) (c23 : PySem.W.codeIn K cd23 "_law_rules" = true) (k23 : PySem.W.keepIn K (.ref f23) = true)
    {f24 : Addr} {od24 an24 : Option Addr} {sl24 : Array (Option Value)} {oc24 kV24 dc24 pm24 cd24 ct24 : Value}
    (a24 : PySem.W.nsIn K mainGlobals "_law_labels" = some (some (.ref f24))) (l24 : K.lookup f24 = some ⟨oc24, od24, .func (PySem.W.fnOf "_law_labels" "_law_labels" (defArgs S__law_labels) (defBody S__law_labels) (defScope S__law_labels) .none kV24 dc24 pm24 an24 cd24 ct24), sl24⟩) (c24 : PySem.W.codeIn K cd24 "_law_labels" = true) (k24 : PySem.W.keepIn K (.ref f24) = true)
    {f25 : Addr} {od25 an25 : Option Addr} {sl25 : Array (Option Value)} {oc25 kV25 dc25 pm25 cd25 ct25 : Value}
    (a25 : PySem.W.nsIn K mainGlobals "law" = some (some (.ref f25))) (l25 : K.lookup f25 = some ⟨oc25, od25, .func (PySem.W.fnOf "law" "law" (defArgs S_law) (defBody S_law) (defScope S_law) .none kV25 dc25 pm25 an25 cd25 ct25), sl25⟩) (c25 : PySem.W.codeIn K cd25 "law" = true) (k25 : PySem.W.keepIn K (.ref f25) = true)
    {t_DIGITS : Tok} (v_DIGITS : PySem.W.nsIn K mainGlobals "DIGITS" = some (some (.str cs_DIGITS t_DIGITS)))
    {t_MOST_SIGNS : Tok} (v_MOST_SIGNS : PySem.W.nsIn K mainGlobals "MOST_SIGNS" = some (some (.int (100) t_MOST_SIGNS)))
    {t_MOST_LABELS : Tok} (v_MOST_LABELS : PySem.W.nsIn K mainGlobals "MOST_LABELS" = some (some (.int (10) t_MOST_LABELS)))
    {t_MOST_LABEL : Tok} (v_MOST_LABEL : PySem.W.nsIn K mainGlobals "MOST_LABEL" = some (some (.int (20) t_MOST_LABEL)))
    {t_LABEL_SIGNS : Tok} (v_LABEL_SIGNS : PySem.W.nsIn K mainGlobals "LABEL_SIGNS" = some (some (.str cs_LABEL_SIGNS t_LABEL_SIGNS)))
    {t_MOST_RULES : Tok} (v_MOST_RULES : PySem.W.nsIn K mainGlobals "MOST_RULES" = some (some (.int (30) t_MOST_RULES)))
    (z_all : PySem.W.nsIn K mainGlobals "all" = some none)
    (z_enumerate : PySem.W.nsIn K mainGlobals "enumerate" = some none)
    (z_int : PySem.W.nsIn K mainGlobals "int" = some none)
    (z_isinstance : PySem.W.nsIn K mainGlobals "isinstance" = some none)
    (z_len : PySem.W.nsIn K mainGlobals "len" = some none)
    (z_max : PySem.W.nsIn K mainGlobals "max" = some none)
    (z_range : PySem.W.nsIn K mainGlobals "range" = some none)
    (z_str : PySem.W.nsIn K mainGlobals "str" = some none)
    (z_sum : PySem.W.nsIn K mainGlobals "sum" = some none)
    (z_tuple : PySem.W.nsIn K mainGlobals "tuple" = some none)
    (z_zip : PySem.W.nsIn K mainGlobals "zip" = some none)
    : ∃ fd : FuncData, (∀ (s : Shared) (v : Value), BindsTo s fd ⟨[v], []⟩ [("_law_script", v)]) ∧ ∀ base : Heap, K.In base → base.Ns mainGlobals mg → FnOk l.prog w K mg base CX0 9 fa fd ["_law_script"] (sp_law K) := by
  have e := hfa.symm.trans (PySem.W.mg_of X G a25)
  cases e
  let T : Txt K mg := {
    f_s1_is_number_word := f0,
    d_s1_is_number_word := _,
    F_s1_is_number_word := fun_mk (st := S_s1_is_number_word) l0 c0 k0,
    g_s1_is_number_word := PySem.W.mg_of X G a0,
    f_s1_is_small := f1,
    d_s1_is_small := _,
    F_s1_is_small := fun_mk (st := S_s1_is_small) l1 c1 k1,
    g_s1_is_small := PySem.W.mg_of X G a1,
    f_s1_is_label := f2,
    d_s1_is_label := _,
    F_s1_is_label := fun_mk (st := S_s1_is_label) l2 c2 k2,
    g_s1_is_label := PySem.W.mg_of X G a2,
    f_is_address_host := f3,
    d_is_address_host := _,
    F_is_address_host := fun_mk (st := S_is_address_host) l3 c3 k3,
    g_is_address_host := PySem.W.mg_of X G a3,
    f_is_host := f4,
    d_is_host := _,
    F_is_host := fun_mk (st := S_is_host) l4 c4 k4,
    g_is_host := PySem.W.mg_of X G a4,
    f_s1_may_become_address := f5,
    d_s1_may_become_address := _,
    F_s1_may_become_address := fun_mk (st := S_s1_may_become_address) l5 c5 k5,
    g_s1_may_become_address := PySem.W.mg_of X G a5,
    f_s1_begins := f6,
    d_s1_begins := _,
    F_s1_begins := fun_mk (st := S_s1_begins) l6 c6 k6,
    g_s1_begins := PySem.W.mg_of X G a6,
    f_need_host := f7,
    d_need_host := _,
    F_need_host := fun_mk (st := S_need_host) l7 c7 k7,
    g_need_host := PySem.W.mg_of X G a7,
    f_s1_place := f8,
    d_s1_place := _,
    F_s1_place := fun_mk (st := S_s1_place) l8 c8 k8,
    g_s1_place := PySem.W.mg_of X G a8,
    f_s1_fits := f9,
    d_s1_fits := _,
    F_s1_fits := fun_mk (st := S_s1_fits) l9 c9 k9,
    g_s1_fits := PySem.W.mg_of X G a9,
    f_host_fits := f10,
    d_host_fits := _,
    F_host_fits := fun_mk (st := S_host_fits) l10 c10 k10,
    g_host_fits := PySem.W.mg_of X G a10,
    f_s1_is_rule := f11,
    d_s1_is_rule := _,
    F_s1_is_rule := fun_mk (st := S_s1_is_rule) l11 c11 k11,
    g_s1_is_rule := PySem.W.mg_of X G a11,
    f_need_rules := f12,
    d_need_rules := _,
    F_need_rules := fun_mk (st := S_need_rules) l12 c12 k12,
    g_need_rules := PySem.W.mg_of X G a12,
    f_s1_matching := f13,
    d_s1_matching := _,
    F_s1_matching := fun_mk (st := S_s1_matching) l13 c13 k13,
    g_s1_matching := PySem.W.mg_of X G a13,
    f_s1_suffix := f14,
    d_s1_suffix := _,
    F_s1_suffix := fun_mk (st := S_s1_suffix) l14 c14 k14,
    g_s1_suffix := PySem.W.mg_of X G a14,
    f_s1_family := f15,
    d_s1_family := _,
    F_s1_family := fun_mk (st := S_s1_family) l15 c15 k15,
    g_s1_family := PySem.W.mg_of X G a15,
    f_need_both := f16,
    d_need_both := _,
    F_need_both := fun_mk (st := S_need_both) l16 c16 k16,
    g_need_both := PySem.W.mg_of X G a16,
    f_suffix_of := f17,
    d_suffix_of := _,
    F_suffix_of := fun_mk (st := S_suffix_of) l17 c17 k17,
    g_suffix_of := PySem.W.mg_of X G a17,
    f_family_of := f18,
    d_family_of := _,
    F_family_of := fun_mk (st := S_family_of) l18 c18 k18,
    g_family_of := PySem.W.mg_of X G a18,
    f_is_suffix := f19,
    d_is_suffix := _,
    F_is_suffix := fun_mk (st := S_is_suffix) l19 c19 k19,
    g_is_suffix := PySem.W.mg_of X G a19,
    f__law_mixed := f20,
    d__law_mixed := _,
    F__law_mixed := fun_mk (st := S__law_mixed) l20 c20 k20,
    g__law_mixed := PySem.W.mg_of X G a20,
    f__law_draw := f21,
    d__law_draw := _,
    F__law_draw := fun_mk (st := S__law_draw) l21 c21 k21,
    g__law_draw := PySem.W.mg_of X G a21,
    f__law_digit := f22,
    d__law_digit := _,
    F__law_digit := fun_mk (st := S__law_digit) l22 c22 k22,
    g__law_digit := PySem.W.mg_of X G a22,
    f__law_rules := f23,
    d__law_rules := _,
    F__law_rules := fun_mk (st := S__law_rules) l23 c23 k23,
    g__law_rules := PySem.W.mg_of X G a23,
    f__law_labels := f24,
    d__law_labels := _,
    F__law_labels := fun_mk (st := S__law_labels) l24 c24 k24,
    g__law_labels := PySem.W.mg_of X G a24,
    f_law := fa,
    d_law := _,
    F_law := fun_mk (st := S_law) l25 c25 k25,
    g_law := PySem.W.mg_of X G a25,
    c_DIGITS := ⟨_, PySem.W.mg_of X G v_DIGITS⟩,
    c_MOST_SIGNS := ⟨_, PySem.W.mg_of X G v_MOST_SIGNS⟩,
    c_MOST_LABELS := ⟨_, PySem.W.mg_of X G v_MOST_LABELS⟩,
    c_MOST_LABEL := ⟨_, PySem.W.mg_of X G v_MOST_LABEL⟩,
    c_LABEL_SIGNS := ⟨_, PySem.W.mg_of X G v_LABEL_SIGNS⟩,
    c_MOST_RULES := ⟨_, PySem.W.mg_of X G v_MOST_RULES⟩,
    n_all := PySem.W.mg_none_of X G z_all,
    n_enumerate := PySem.W.mg_none_of X G z_enumerate,
    n_int := PySem.W.mg_none_of X G z_int,
    n_isinstance := PySem.W.mg_none_of X G z_isinstance,
    n_len := PySem.W.mg_none_of X G z_len,
    n_max := PySem.W.mg_none_of X G z_max,
    n_range := PySem.W.mg_none_of X G z_range,
    n_str := PySem.W.mg_none_of X G z_str,
    n_sum := PySem.W.mg_none_of X G z_sum,
    n_tuple := PySem.W.mg_none_of X G z_tuple,
    n_zip := PySem.W.mg_none_of X G z_zip }
  exact ⟨PySem.W.fnOf "law" "law" (defArgs S_law) (defBody S_law) (defScope S_law) .none kV25 dc25 pm25 an25 cd25 ct25, fun s v => .of_eq rfl, fun base _ _ => ok_law T⟩
end LawK07
open PySem PySem.W PyProof.Rows
set_option maxHeartbeats 0 in
theorem PySem.Challenge.cw_crumbjar_k07_whole_families_are_classes_holds : PySem.Challenge.rw_crumbjar_k07_whole_families_are_classes.Holds := by
  w_on; o_law; k_head; (case hw => w_witness2)
  k_fill
  refine L2.walk_of (l := PySem.Challenge.rw_crumbjar_k07_whole_families_are_classes) (n := 63) (k := 9) (x := "_law_script") (CX := fun _ => L2.CX0) (sp := fun w => LawK07.sp_law _) rfl (by decide) rfl ⟨rfl, by decide, by decide⟩ (fun w h Y => PySem.W.kIn_of Y) ?F (fun _ _ a ns hl _ hS => ⟨a, ns, rfl, hS, hl, fun _ => rfl⟩) (fun _ _ _ _ _ h => h)
  case F =>
    intro w mg fa h KX G hmg
    refine' LawK07.all_mk KX G hmg ?a0 ?l0 ?c0 ?k0 ?a1 ?l1 ?c1 ?k1 ?a2 ?l2 ?c2 ?k2 ?a3 ?l3 ?c3 ?k3 ?a4 ?l4 ?c4 ?k4 ?a5 ?l5 ?c5 ?k5 ?a6 ?l6 ?c6 ?k6 ?a7 ?l7 ?c7 ?k7 ?a8 ?l8 ?c8 ?k8 ?a9 ?l9 ?c9 ?k9 ?a10 ?l10 ?c10 ?k10 ?a11 ?l11 ?c11 ?k11 ?a12 ?l12 ?c12 ?k12 ?a13 ?l13 ?c13 ?k13 ?a14 ?l14 ?c14 ?k14 ?a15 ?l15 ?c15 ?k15 ?a16 ?l16 ?c16 ?k16 ?a17 ?l17 ?c17 ?k17 ?a18 ?l18 ?c18 ?k18 ?a19 ?l19 ?c19 ?k19 ?a20 ?l20 ?c20 ?k20 ?a21 ?l21 ?c21 ?k21 ?a22 ?l22 ?c22 ?k22 ?a23 ?l23 ?c23 ?k23 ?a24 ?l24 ?c24 ?k24 ?a25 ?l25 ?c25 ?k25 ?v_DIGITS ?v_MOST_SIGNS ?v_MOST_LABELS ?v_MOST_LABEL ?v_LABEL_SIGNS ?v_MOST_RULES ?z_all ?z_enumerate ?z_int ?z_isinstance ?z_len ?z_max ?z_range ?z_str ?z_sum ?z_tuple ?z_zip
    (case a0 => k_is); (case l0 => k_is); (case c0 => k_is); (case k0 => k_is); (case a1 => k_is); (case l1 => k_is); (case c1 => k_is); (case k1 => k_is); (case a2 => k_is); (case l2 => k_is); (case c2 => k_is); (case k2 => k_is); (case a3 => k_is); (case l3 => k_is); (case c3 => k_is); (case k3 => k_is); (case a4 => k_is); (case l4 => k_is); (case c4 => k_is); (case k4 => k_is); (case a5 => k_is); (case l5 => k_is); (case c5 => k_is); (case k5 => k_is); (case a6 => k_is); (case l6 => k_is); (case c6 => k_is); (case k6 => k_is); (case a7 => k_is); (case l7 => k_is); (case c7 => k_is); (case k7 => k_is); (case a8 => k_is); (case l8 => k_is); (case c8 => k_is); (case k8 => k_is); (case a9 => k_is); (case l9 => k_is); (case c9 => k_is); (case k9 => k_is); (case a10 => k_is); (case l10 => k_is); (case c10 => k_is); (case k10 => k_is); (case a11 => k_is); (case l11 => k_is); (case c11 => k_is); (case k11 => k_is); (case a12 => k_is); (case l12 => k_is); (case c12 => k_is); (case k12 => k_is); (case a13 => k_is); (case l13 => k_is); (case c13 => k_is); (case k13 => k_is); (case a14 => k_is); (case l14 => k_is); (case c14 => k_is); (case k14 => k_is); (case a15 => k_is); (case l15 => k_is); (case c15 => k_is); (case k15 => k_is); (case a16 => k_is); (case l16 => k_is); (case c16 => k_is); (case k16 => k_is); (case a17 => k_is); (case l17 => k_is); (case c17 => k_is); (case k17 => k_is); (case a18 => k_is); (case l18 => k_is); (case c18 => k_is); (case k18 => k_is); (case a19 => k_is); (case l19 => k_is); (case c19 => k_is); (case k19 => k_is); (case a20 => k_is); (case l20 => k_is); (case c20 => k_is); (case k20 => k_is); (case a21 => k_is); (case l21 => k_is); (case c21 => k_is); (case k21 => k_is); (case a22 => k_is); (case l22 => k_is); (case c22 => k_is); (case k22 => k_is); (case a23 => k_is); (case l23 => k_is); (case c23 => k_is); (case k23 => k_is); (case a24 => k_is); (case l24 => k_is); (case c24 => k_is); (case k24 => k_is); (case a25 => k_is); (case l25 => k_is); (case c25 => k_is); (case k25 => k_is); (case v_DIGITS => k_is); (case v_MOST_SIGNS => k_is); (case v_MOST_LABELS => k_is); (case v_MOST_LABEL => k_is); (case v_LABEL_SIGNS => k_is); (case v_MOST_RULES => k_is); (case z_all => k_is); (case z_enumerate => k_is); (case z_int => k_is); (case z_isinstance => k_is); (case z_len => k_is); (case z_max => k_is); (case z_range => k_is); (case z_str => k_is); (case z_sum => k_is); (case z_tuple => k_is); (case z_zip => k_is)
