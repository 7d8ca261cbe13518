import PyProof.Rows.All
import Wide.All
import OpenK.AllK
import Wide.FinOn
import HandS.ForMost
import HandS.Nested
import HandS.Set
import HandS.SetBool
import PyProof.Rows.SortShellAny
import KE.KOpsOwn
import HandS.Star
import HandS.ClsMeth
import HandS.Property
import HandS.CallRecv
import HandS.Codes
import HandS.Wide
import HandS.IsInst
import HandS.RaiseMore
import HandS.Walk
import HandS.ListItems
import HandS.DictComp
import KE.KSuper
import KE.KStar
import HandS.Replace
import HandS.Zip0
import HandS.Zip
import HandS.TupAny
import HandS.Defaults
import KE.GoesEnum
import HandS.ExcInit
import HandS.TryOnly
import HandS.WordsExc
import HandS.ExcOwn
import HandS.ExcIs
import HandS.ExcField
import HandS.Exc
import HandS.FStr
import PyProof.ListStr
import KE.KParD
import KE.KStateDown
import HandS.Base
import HandS.Call
import HandS.Words
import HandS.Head0
import HandS.Head1
import HandS.Head2
import HandS.HeadEnd
import HandS.HeadHook1
import HandS.HeadHook2
import KE.RegKSuper
import PySem.Challenge.RW_countsheld_k19_sets_of_rules_refused
set_option Elab.async false
set_option linter.all false
set_option maxRecDepth 100000
set_option maxHeartbeats 4000000
namespace Cs
open PySem L2
def top (i : Nat) : Stmt := PySem.Challenge.pw_countsheld_k19_sets_of_rules_refused.main.body.getD i (.Pass ⟨0, 0, 0, 0⟩)
abbrev s_BadWord_init : Stmt := inClass (top 3) 0
theorem sc_BadWord_init : FnScope ["self", "word"] ["self", "word"] (defScope s_BadWord_init) :=
  ⟨rfl, rfl, rfl, by decide +kernel, rfl, by decide +kernel, by decide +kernel⟩
abbrev s_BadNumber_init : Stmt := inClass (top 4) 0
theorem sc_BadNumber_init : FnScope ["self", "number"] ["self", "number"] (defScope s_BadNumber_init) :=
  ⟨rfl, rfl, rfl, by decide +kernel, rfl, by decide +kernel, by decide +kernel⟩
abbrev s_BadCounts_init : Stmt := inClass (top 5) 0
theorem sc_BadCounts_init : FnScope ["self", "at"] ["self", "at"] (defScope s_BadCounts_init) :=
  ⟨rfl, rfl, rfl, by decide +kernel, rfl, by decide +kernel, by decide +kernel⟩
abbrev s_BadRule_init : Stmt := inClass (top 6) 0
theorem sc_BadRule_init : FnScope ["self", "what"] ["self", "what"] (defScope s_BadRule_init) :=
  ⟨rfl, rfl, rfl, by decide +kernel, rfl, by decide +kernel, by decide +kernel⟩
abbrev s_BadRules_init : Stmt := inClass (top 7) 0
theorem sc_BadRules_init : FnScope ["self", "what"] ["self", "what"] (defScope s_BadRules_init) :=
  ⟨rfl, rfl, rfl, by decide +kernel, rfl, by decide +kernel, by decide +kernel⟩
abbrev s_NoDivisor_init : Stmt := inClass (top 8) 0
theorem sc_NoDivisor_init : FnScope ["self", "word"] ["self", "word"] (defScope s_NoDivisor_init) :=
  ⟨rfl, rfl, rfl, by decide +kernel, rfl, by decide +kernel, by decide +kernel⟩
abbrev s_is_integer : Stmt := top 10
theorem sc_is_integer : FnScope ["thing"] ["thing"] (defScope s_is_integer) :=
  ⟨rfl, rfl, rfl, by decide +kernel, rfl, by decide +kernel, by decide +kernel⟩
abbrev s_is_word : Stmt := top 14
theorem sc_is_word : FnScope ["thing", "sign"] ["thing"] (defScope s_is_word) :=
  ⟨rfl, rfl, rfl, by decide +kernel, rfl, by decide +kernel, by decide +kernel⟩
abbrev s_is_kind : Stmt := top 15
theorem sc_is_kind : FnScope ["thing"] ["thing"] (defScope s_is_kind) :=
  ⟨rfl, rfl, rfl, by decide +kernel, rfl, by decide +kernel, by decide +kernel⟩
abbrev s_is_small : Stmt := top 16
theorem sc_is_small : FnScope ["thing"] ["thing"] (defScope s_is_small) :=
  ⟨rfl, rfl, rfl, by decide +kernel, rfl, by decide +kernel, by decide +kernel⟩
abbrev s_distinct : Stmt := top 17
theorem sc_distinct : FnScope ["words", "word"] ["words"] (defScope s_distinct) :=
  ⟨rfl, rfl, rfl, by decide +kernel, rfl, by decide +kernel, by decide +kernel⟩
abbrev s_is_pair : Stmt := top 19
theorem sc_is_pair : FnScope ["thing"] ["thing"] (defScope s_is_pair) :=
  ⟨rfl, rfl, rfl, by decide +kernel, rfl, by decide +kernel, by decide +kernel⟩
abbrev s_joint_words : Stmt := top 20
theorem sc_joint_words : FnScope ["one", "other"] ["one", "other"] (defScope s_joint_words) :=
  ⟨rfl, rfl, rfl, by decide +kernel, rfl, by decide +kernel, by decide +kernel⟩
abbrev s_Counts_init : Stmt := inClass (top 21) 0
theorem sc_Counts_init : FnScope ["self", "pairs", "numbers", "word", "held", "number"] ["self", "pairs", "numbers"] (defScope s_Counts_init) :=
  ⟨rfl, rfl, rfl, by decide +kernel, rfl, by decide +kernel, by decide +kernel⟩
abbrev s_Counts_of : Stmt := inClass (top 21) 1
theorem sc_Counts_of : FnScope ["cls", "pairs", "at", "pair"] ["cls", "pairs"] (defScope s_Counts_of) :=
  ⟨rfl, rfl, rfl, by decide +kernel, rfl, by decide +kernel, by decide +kernel⟩
abbrev s_Counts_words : Stmt := inClass (top 21) 3
theorem sc_Counts_words : FnScope ["self"] ["self"] (defScope s_Counts_words) :=
  ⟨rfl, rfl, rfl, by decide +kernel, rfl, by decide +kernel, by decide +kernel⟩
abbrev s_Counts_pairs : Stmt := inClass (top 21) 4
theorem sc_Counts_pairs : FnScope ["self", "word"] ["self"] (defScope s_Counts_pairs) :=
  ⟨rfl, rfl, rfl, by decide +kernel, rfl, by decide +kernel, by decide +kernel⟩
abbrev s_Counts_total : Stmt := inClass (top 21) 8
theorem sc_Counts_total : FnScope ["self", "number"] ["self"] (defScope s_Counts_total) :=
  ⟨rfl, rfl, rfl, by decide +kernel, rfl, by decide +kernel, by decide +kernel⟩
abbrev s_Counts_getitem : Stmt := inClass (top 21) 9
theorem sc_Counts_getitem : FnScope ["self", "word"] ["self", "word"] (defScope s_Counts_getitem) :=
  ⟨rfl, rfl, rfl, by decide +kernel, rfl, by decide +kernel, by decide +kernel⟩
abbrev s_Counts_setitem : Stmt := inClass (top 21) 10
theorem sc_Counts_setitem : FnScope ["self", "word", "number"] ["self", "word", "number"] (defScope s_Counts_setitem) :=
  ⟨rfl, rfl, rfl, by decide +kernel, rfl, by decide +kernel, by decide +kernel⟩
abbrev s_Counts_iter : Stmt := inClass (top 21) 11
theorem sc_Counts_iter : FnScope ["self"] ["self"] (defScope s_Counts_iter) :=
  ⟨rfl, rfl, rfl, by decide +kernel, rfl, by decide +kernel, by decide +kernel⟩
abbrev s_Counts_contains : Stmt := inClass (top 21) 12
theorem sc_Counts_contains : FnScope ["self", "word"] ["self", "word"] (defScope s_Counts_contains) :=
  ⟨rfl, rfl, rfl, by decide +kernel, rfl, by decide +kernel, by decide +kernel⟩
abbrev s_Counts_len : Stmt := inClass (top 21) 13
theorem sc_Counts_len : FnScope ["self"] ["self"] (defScope s_Counts_len) :=
  ⟨rfl, rfl, rfl, by decide +kernel, rfl, by decide +kernel, by decide +kernel⟩
abbrev s_Counts_bool : Stmt := inClass (top 21) 14
theorem sc_Counts_bool : FnScope ["self"] ["self"] (defScope s_Counts_bool) :=
  ⟨rfl, rfl, rfl, by decide +kernel, rfl, by decide +kernel, by decide +kernel⟩
abbrev s_Counts_eq : Stmt := inClass (top 21) 15
theorem sc_Counts_eq : FnScope ["self", "other"] ["self", "other"] (defScope s_Counts_eq) :=
  ⟨rfl, rfl, rfl, by decide +kernel, rfl, by decide +kernel, by decide +kernel⟩
abbrev s_Counts_le : Stmt := inClass (top 21) 16
theorem sc_Counts_le : FnScope ["self", "other", "word"] ["self", "other"] (defScope s_Counts_le) :=
  ⟨rfl, rfl, rfl, by decide +kernel, rfl, by decide +kernel, by decide +kernel⟩
abbrev s_Counts_lt : Stmt := inClass (top 21) 17
theorem sc_Counts_lt : FnScope ["self", "other"] ["self", "other"] (defScope s_Counts_lt) :=
  ⟨rfl, rfl, rfl, by decide +kernel, rfl, by decide +kernel, by decide +kernel⟩
abbrev s_Counts_add : Stmt := inClass (top 21) 18
theorem sc_Counts_add : FnScope ["self", "other", "pairs"] ["self", "other"] (defScope s_Counts_add) :=
  ⟨rfl, rfl, rfl, by decide +kernel, rfl, by decide +kernel, by decide +kernel⟩
abbrev s_Counts_neg : Stmt := inClass (top 21) 19
theorem sc_Counts_neg : FnScope ["self", "pairs", "word"] ["self"] (defScope s_Counts_neg) :=
  ⟨rfl, rfl, rfl, by decide +kernel, rfl, by decide +kernel, by decide +kernel⟩
abbrev s_Counts_abs : Stmt := inClass (top 21) 20
theorem sc_Counts_abs : FnScope ["self", "pairs", "word"] ["self"] (defScope s_Counts_abs) :=
  ⟨rfl, rfl, rfl, by decide +kernel, rfl, by decide +kernel, by decide +kernel⟩
abbrev s_Counts_sub : Stmt := inClass (top 21) 21
theorem sc_Counts_sub : FnScope ["self", "other", "pairs", "word"] ["self", "other"] (defScope s_Counts_sub) :=
  ⟨rfl, rfl, rfl, by decide +kernel, rfl, by decide +kernel, by decide +kernel⟩
abbrev s_Counts_and : Stmt := inClass (top 21) 22
theorem sc_Counts_and : FnScope ["self", "other", "pairs", "word"] ["self", "other"] (defScope s_Counts_and) :=
  ⟨rfl, rfl, rfl, by decide +kernel, rfl, by decide +kernel, by decide +kernel⟩
abbrev s_Counts_or : Stmt := inClass (top 21) 23
theorem sc_Counts_or : FnScope ["self", "other", "pairs", "word"] ["self", "other"] (defScope s_Counts_or) :=
  ⟨rfl, rfl, rfl, by decide +kernel, rfl, by decide +kernel, by decide +kernel⟩
abbrev s_Counts_xor : Stmt := inClass (top 21) 24
theorem sc_Counts_xor : FnScope ["self", "other"] ["self", "other"] (defScope s_Counts_xor) :=
  ⟨rfl, rfl, rfl, by decide +kernel, rfl, by decide +kernel, by decide +kernel⟩
abbrev s_Counts_mul : Stmt := inClass (top 21) 25
theorem sc_Counts_mul : FnScope ["self", "times", "pairs", "word"] ["self", "times"] (defScope s_Counts_mul) :=
  ⟨rfl, rfl, rfl, by decide +kernel, rfl, by decide +kernel, by decide +kernel⟩
abbrev s_Counts_rmul : Stmt := inClass (top 21) 26
theorem sc_Counts_rmul : FnScope ["self", "times"] ["self", "times"] (defScope s_Counts_rmul) :=
  ⟨rfl, rfl, rfl, by decide +kernel, rfl, by decide +kernel, by decide +kernel⟩
abbrev s_Counts_floordiv : Stmt := inClass (top 21) 27
theorem sc_Counts_floordiv : FnScope ["self", "other", "word"] ["self", "other"] (defScope s_Counts_floordiv) :=
  ⟨rfl, rfl, rfl, by decide +kernel, rfl, by decide +kernel, by decide +kernel⟩
abbrev s_Counts_mod : Stmt := inClass (top 21) 28
theorem sc_Counts_mod : FnScope ["self", "other", "times"] ["self", "other"] (defScope s_Counts_mod) :=
  ⟨rfl, rfl, rfl, by decide +kernel, rfl, by decide +kernel, by decide +kernel⟩
abbrev s_Counts_iadd : Stmt := inClass (top 21) 29
theorem sc_Counts_iadd : FnScope ["self", "other", "result"] ["self", "other"] (defScope s_Counts_iadd) :=
  ⟨rfl, rfl, rfl, by decide +kernel, rfl, by decide +kernel, by decide +kernel⟩
abbrev s_Counts_isub : Stmt := inClass (top 21) 30
theorem sc_Counts_isub : FnScope ["self", "other", "result"] ["self", "other"] (defScope s_Counts_isub) :=
  ⟨rfl, rfl, rfl, by decide +kernel, rfl, by decide +kernel, by decide +kernel⟩
abbrev s_Counts_iand : Stmt := inClass (top 21) 31
theorem sc_Counts_iand : FnScope ["self", "other", "result"] ["self", "other"] (defScope s_Counts_iand) :=
  ⟨rfl, rfl, rfl, by decide +kernel, rfl, by decide +kernel, by decide +kernel⟩
abbrev s_Counts_ior : Stmt := inClass (top 21) 32
theorem sc_Counts_ior : FnScope ["self", "other", "result"] ["self", "other"] (defScope s_Counts_ior) :=
  ⟨rfl, rfl, rfl, by decide +kernel, rfl, by decide +kernel, by decide +kernel⟩
abbrev s_Counts_imul : Stmt := inClass (top 21) 33
theorem sc_Counts_imul : FnScope ["self", "times", "result"] ["self", "times"] (defScope s_Counts_imul) :=
  ⟨rfl, rfl, rfl, by decide +kernel, rfl, by decide +kernel, by decide +kernel⟩
abbrev s_Counts_repr : Stmt := inClass (top 21) 34
theorem sc_Counts_repr : FnScope ["self", "parts", "inside", "word"] ["self"] (defScope s_Counts_repr) :=
  ⟨rfl, rfl, rfl, by decide +kernel, rfl, by decide +kernel, by decide +kernel⟩
abbrev s_is_bound : Stmt := top 23
theorem sc_is_bound : FnScope ["thing"] ["thing"] (defScope s_is_bound) :=
  ⟨rfl, rfl, rfl, by decide +kernel, rfl, by decide +kernel, by decide +kernel⟩
abbrev s_Rule_init : Stmt := inClass (top 24) 0
theorem sc_Rule_init : FnScope ["self", "kinds", "kind"] ["self", "kinds"] (defScope s_Rule_init) :=
  ⟨rfl, rfl, rfl, by decide +kernel, rfl, by decide +kernel, by decide +kernel⟩
abbrev s_Rule_total_of : Stmt := inClass (top 24) 1
theorem sc_Rule_total_of : FnScope ["self", "counts", "kind"] ["self", "counts"] (defScope s_Rule_total_of) :=
  ⟨rfl, rfl, rfl, by decide +kernel, rfl, by decide +kernel, by decide +kernel⟩
abbrev s_Rule_holds : Stmt := inClass (top 24) 2
theorem sc_Rule_holds : FnScope ["self", "counts"] ["self", "counts"] (defScope s_Rule_holds) :=
  ⟨rfl, rfl, rfl, by decide +kernel, rfl, by decide +kernel, by decide +kernel⟩
abbrev s_Rule_sum_text : Stmt := inClass (top 24) 4
theorem sc_Rule_sum_text : FnScope ["self"] ["self"] (defScope s_Rule_sum_text) :=
  ⟨rfl, rfl, rfl, by decide +kernel, rfl, by decide +kernel, by decide +kernel⟩
abbrev s_Rule_eq : Stmt := inClass (top 24) 5
theorem sc_Rule_eq : FnScope ["self", "other", "same"] ["self", "other"] (defScope s_Rule_eq) :=
  ⟨rfl, rfl, rfl, by decide +kernel, rfl, by decide +kernel, by decide +kernel⟩
abbrev s_AtLeast_init : Stmt := inClass (top 25) 0
theorem sc_AtLeast_init : NdefX.NScope ["self", "least", "rest", "__class__"] ["self", "least", "rest"] ["__class__"] (defScope s_AtLeast_init) := NdefX.nscope_by (by decide +kernel)
abbrev s_AtLeast_holds : Stmt := inClass (top 25) 1
theorem sc_AtLeast_holds : NdefX.NScope ["self", "counts", "__class__"] ["self", "counts"] ["__class__"] (defScope s_AtLeast_holds) := NdefX.nscope_by (by decide +kernel)
abbrev s_AtLeast_str : Stmt := inClass (top 25) 3
theorem sc_AtLeast_str : FnScope ["self"] ["self"] (defScope s_AtLeast_str) :=
  ⟨rfl, rfl, rfl, by decide +kernel, rfl, by decide +kernel, by decide +kernel⟩
abbrev s_AtMost_init : Stmt := inClass (top 26) 0
theorem sc_AtMost_init : NdefX.NScope ["self", "most", "kinds", "__class__"] ["self", "most", "kinds"] ["__class__"] (defScope s_AtMost_init) := NdefX.nscope_by (by decide +kernel)
abbrev s_AtMost_holds : Stmt := inClass (top 26) 1
theorem sc_AtMost_holds : NdefX.NScope ["self", "counts", "__class__"] ["self", "counts"] ["__class__"] (defScope s_AtMost_holds) := NdefX.nscope_by (by decide +kernel)
abbrev s_AtMost_str : Stmt := inClass (top 26) 3
theorem sc_AtMost_str : FnScope ["self"] ["self"] (defScope s_AtMost_str) :=
  ⟨rfl, rfl, rfl, by decide +kernel, rfl, by decide +kernel, by decide +kernel⟩
abbrev s_Between_init : Stmt := inClass (top 27) 0
theorem sc_Between_init : NdefX.NScope ["self", "least", "most", "kinds", "__class__"] ["self", "least", "most", "kinds"] ["__class__"] (defScope s_Between_init) := NdefX.nscope_by (by decide +kernel)
abbrev s_Between_holds : Stmt := inClass (top 27) 1
theorem sc_Between_holds : NdefX.NScope ["self", "counts", "__class__"] ["self", "counts"] ["__class__"] (defScope s_Between_holds) := NdefX.nscope_by (by decide +kernel)
abbrev s_Between_str : Stmt := inClass (top 27) 3
theorem sc_Between_str : FnScope ["self"] ["self"] (defScope s_Between_str) :=
  ⟨rfl, rfl, rfl, by decide +kernel, rfl, by decide +kernel, by decide +kernel⟩
abbrev s_Exactly_init : Stmt := inClass (top 28) 0
theorem sc_Exactly_init : NdefX.NScope ["self", "number", "kinds", "__class__"] ["self", "number", "kinds"] ["__class__"] (defScope s_Exactly_init) := NdefX.nscope_by (by decide +kernel)
abbrev s_Exactly_holds : Stmt := inClass (top 28) 1
theorem sc_Exactly_holds : NdefX.NScope ["self", "counts", "__class__"] ["self", "counts"] ["__class__"] (defScope s_Exactly_holds) := NdefX.nscope_by (by decide +kernel)
abbrev s_Exactly_str : Stmt := inClass (top 28) 3
theorem sc_Exactly_str : FnScope ["self"] ["self"] (defScope s_Exactly_str) :=
  ⟨rfl, rfl, rfl, by decide +kernel, rfl, by decide +kernel, by decide +kernel⟩
abbrev s_caps_of : Stmt := top 29
theorem sc_caps_of : FnScope ["rules", "kinds", "caps", "kind", "mosts", "rule", "most"] ["rules", "kinds"] (defScope s_caps_of) :=
  ⟨rfl, rfl, rfl, by decide +kernel, rfl, by decide +kernel, by decide +kernel⟩
abbrev s_all_numbers : Stmt := top 30
theorem sc_all_numbers : FnScope ["caps", "rows", "cap", "row", "number"] ["caps"] (defScope s_all_numbers) :=
  ⟨rfl, rfl, rfl, by decide +kernel, rfl, by decide +kernel, by decide +kernel⟩
abbrev s_is_within : Stmt := top 31
theorem sc_is_within : FnScope ["rules", "kinds", "numbers", "rule", "total", "kind", "number"] ["rules", "kinds", "numbers"] (defScope s_is_within) :=
  ⟨rfl, rfl, rfl, by decide +kernel, rfl, by decide +kernel, by decide +kernel⟩
abbrev s_with_numbers : Stmt := top 32
theorem sc_with_numbers : FnScope ["kinds", "numbers", "pairs"] ["kinds", "numbers"] (defScope s_with_numbers) :=
  ⟨rfl, rfl, rfl, by decide +kernel, rfl, by decide +kernel, by decide +kernel⟩
abbrev s_Rules_init : Stmt := inClass (top 33) 0
theorem sc_Rules_init : FnScope ["self", "loose", "rules", "names", "rule", "kinds", "caps", "product", "cap", "row", "kind"] ["self", "loose", "rules"] (defScope s_Rules_init) :=
  ⟨rfl, rfl, rfl, by decide +kernel, rfl, by decide +kernel, by decide +kernel⟩
abbrev s_Rules_of : Stmt := inClass (top 33) 1
theorem sc_Rules_of : FnScope ["cls", "rules", "loose"] ["cls", "rules", "loose"] (defScope s_Rules_of) :=
  ⟨rfl, rfl, rfl, by decide +kernel, rfl, by decide +kernel, by decide +kernel⟩
abbrev s_Rules_cap : Stmt := inClass (top 33) 2
theorem sc_Rules_cap : FnScope ["self", "kind", "name", "cap"] ["self", "kind"] (defScope s_Rules_cap) :=
  ⟨rfl, rfl, rfl, by decide +kernel, rfl, by decide +kernel, by decide +kernel⟩
abbrev s_Rules_numbers : Stmt := inClass (top 33) 4
theorem sc_Rules_numbers : FnScope ["self", "counts", "kind"] ["self", "counts"] (defScope s_Rules_numbers) :=
  ⟨rfl, rfl, rfl, by decide +kernel, rfl, by decide +kernel, by decide +kernel⟩
abbrev s_Rules_each : Stmt := inClass (top 33) 5
abbrev s_Rules_contains : Stmt := inClass (top 33) 6
theorem sc_Rules_contains : FnScope ["self", "counts", "kind", "rule"] ["self", "counts"] (defScope s_Rules_contains) :=
  ⟨rfl, rfl, rfl, by decide +kernel, rfl, by decide +kernel, by decide +kernel⟩
abbrev s_Rules_len : Stmt := inClass (top 33) 7
theorem sc_Rules_len : FnScope ["self"] ["self"] (defScope s_Rules_len) :=
  ⟨rfl, rfl, rfl, by decide +kernel, rfl, by decide +kernel, by decide +kernel⟩
abbrev s_Rules_eq : Stmt := inClass (top 33) 8
theorem sc_Rules_eq : FnScope ["self", "other"] ["self", "other"] (defScope s_Rules_eq) :=
  ⟨rfl, rfl, rfl, by decide +kernel, rfl, by decide +kernel, by decide +kernel⟩
abbrev s_l_source : Stmt := top 35
theorem sc_l_source : FnScope ["_law_script"] ["_law_script"] (defScope s_l_source) :=
  ⟨rfl, rfl, rfl, by decide +kernel, rfl, by decide +kernel, by decide +kernel⟩
abbrev s_l_mixed : Stmt := top 36
theorem sc_l_mixed : FnScope ["_law_cell", "_law_count", "_law_first"] ["_law_cell", "_law_count"] (defScope s_l_mixed) :=
  ⟨rfl, rfl, rfl, by decide +kernel, rfl, by decide +kernel, by decide +kernel⟩
abbrev s_l_draw : Stmt := top 37
theorem sc_l_draw : FnScope ["_law_source_here", "_law_size", "_law_at", "_law_cell", "_law_value"] ["_law_source_here", "_law_size"] (defScope s_l_draw) :=
  ⟨rfl, rfl, rfl, by decide +kernel, rfl, by decide +kernel, by decide +kernel⟩
abbrev s_l_kind : Stmt := top 38
theorem sc_l_kind : FnScope ["_law_source_here", "_law_taken", "_law_letters", "_law_barred", "_law_words", "_law_word", "_law_k"] ["_law_source_here", "_law_taken"] (defScope s_l_kind) :=
  ⟨rfl, rfl, rfl, by decide +kernel, rfl, by decide +kernel, by decide +kernel⟩
abbrev s_l_kinds : Stmt := top 39
theorem sc_l_kinds : FnScope ["_law_source_here", "_law_many", "_law_kinds_here", "_law_k"] ["_law_source_here", "_law_many"] (defScope s_l_kinds) :=
  ⟨rfl, rfl, rfl, by decide +kernel, rfl, by decide +kernel, by decide +kernel⟩
abbrev s_l_four : Stmt := top 40
theorem sc_l_four : FnScope ["_law_low", "_law_high", "_law_kinds_here", "_law_one", "_law_two", "_law_three", "_law_found"] ["_law_low", "_law_high", "_law_kinds_here"] (defScope s_l_four) :=
  ⟨rfl, rfl, rfl, by decide +kernel, rfl, by decide +kernel, by decide +kernel⟩
abbrev s_l_ends : Stmt := top 41
theorem sc_l_ends : FnScope ["_law_low", "_law_high"] ["_law_low", "_law_high"] (defScope s_l_ends) :=
  ⟨rfl, rfl, rfl, by decide +kernel, rfl, by decide +kernel, by decide +kernel⟩
abbrev s_l_rows : Stmt := top 42
theorem sc_l_rows : FnScope ["_law_source_here", "_law_kinds_here", "_law_many", "_law_first", "_law_rows_here", "_law_names", "_law_mode", "_law_high", "_law_k", "_law_start", "_law_turn"] ["_law_source_here", "_law_kinds_here"] (defScope s_l_rows) :=
  ⟨rfl, rfl, rfl, by decide +kernel, rfl, by decide +kernel, by decide +kernel⟩
abbrev s_l_rule : Stmt := top 43
theorem sc_l_rule : FnScope ["_law_row"] ["_law_row"] (defScope s_l_rule) :=
  ⟨rfl, rfl, rfl, by decide +kernel, rfl, by decide +kernel, by decide +kernel⟩
abbrev s_l_bounds : Stmt := top 44
theorem sc_l_bounds : FnScope ["_law_row"] ["_law_row"] (defScope s_l_bounds) :=
  ⟨rfl, rfl, rfl, by decide +kernel, rfl, by decide +kernel, by decide +kernel⟩
abbrev s_l_cap : Stmt := top 45
theorem sc_l_cap : FnScope ["_law_rows_here", "_law_kind_here", "_law_cap_here", "_law_row", "_law_most"] ["_law_rows_here", "_law_kind_here"] (defScope s_l_cap) :=
  ⟨rfl, rfl, rfl, by decide +kernel, rfl, by decide +kernel, by decide +kernel⟩
abbrev s_l_broken : Stmt := top 46
theorem sc_l_broken : FnScope ["_law_rows_here", "_law_model", "_law_broken_here", "_law_at", "_law_total", "_law_least", "_law_most", "_law_kind_here"] ["_law_rows_here", "_law_model"] (defScope s_l_broken) :=
  ⟨rfl, rfl, rfl, by decide +kernel, rfl, by decide +kernel, by decide +kernel⟩
abbrev s_l_what : Stmt := top 47
theorem sc_l_what : FnScope ["_law_rules", "_law_free", "e"] ["_law_rules", "_law_free"] (defScope s_l_what) :=
  ⟨rfl, rfl, rfl, by decide +kernel, rfl, by decide +kernel, by decide +kernel⟩
abbrev s_l_wrong_rules : Stmt := top 48
theorem sc_l_wrong_rules : FnScope ["_law_choice", "_law_rules"] ["_law_choice", "_law_rules"] (defScope s_l_wrong_rules) :=
  ⟨rfl, rfl, rfl, by decide +kernel, rfl, by decide +kernel, by decide +kernel⟩
abbrev s_l_wrong_loose : Stmt := top 49
theorem sc_l_wrong_loose : FnScope ["_law_choice", "_law_kind_here", "_law_fresh", "_law_rows_here"] ["_law_choice", "_law_kind_here", "_law_fresh"] (defScope s_l_wrong_loose) :=
  ⟨rfl, rfl, rfl, by decide +kernel, rfl, by decide +kernel, by decide +kernel⟩
abbrev s_l_wide : Stmt := top 50
theorem sc_l_wide : FnScope ["_law_kinds_here", "_law_extra"] ["_law_kinds_here", "_law_extra"] (defScope s_l_wide) :=
  ⟨rfl, rfl, rfl, by decide +kernel, rfl, by decide +kernel, by decide +kernel⟩
abbrev s_law : Stmt := top 51
theorem sc_law : FnScope ["_law_script", "_law_source_here", "_law_names", "_law_some", "_law_fresh", "_law_rows_here", "_law_rules", "_law_wrong", "_law_free", "_law_five", "_law_single", "_law_wide_here", "_law_thing", "_law_things", "_law_both", "_law_row"] ["_law_script"] (defScope s_law) :=
  ⟨rfl, rfl, rfl, by decide +kernel, rfl, by decide +kernel, by decide +kernel⟩
end Cs

set_option Elab.async false
set_option linter.all false
set_option maxRecDepth 100000
set_option maxHeartbeats 4000000
/-! Sets of texts as a set comprehension makes them: a list of members without repeats, up to order; and sorted(..) of such a set. -/
namespace Cs
open PySem PySem.Spec PyProof.Rows L2

def tkey (e : Int × Value) : Str := match e.2 with | .str z _ => z | _ => Str.empty
def TGood (w : World) (e : Int × Value) : Prop := ∃ z tk, e.2 = Value.str z tk ∧ e.1 = hashStr w z
/-- a set object whose members are the texts zs (in some order) -/
def TSet (w : World) (h : Heap) (a : Addr) (zs : List Str) : Prop :=
  ∃ o es ep t, h.get? a = some o ∧ o.ExactSet ∧ o.data = .set es ep t ∧ (∀ e ∈ es.toList, TGood w e)
    ∧ (es.toList.map tkey).Perm zs ∧ zs.Nodup ∧ es.size < scanBound ∧ t.fits es.size = true
    ∧ Ris t.place.toList ∧ (w.params.followText "set-order" = true ∨ t.led = true)

section
variable {P : Program} {w : World} {h h' : Heap} {a : Addr} {zs : List Str}
theorem TSet.there (R : TSet w h a zs) (k : ∀ o, h.get? a = some o → h'.get? a = some o) : TSet w h' a zs := by
  obtain ⟨o, es, ep, t, q, r⟩ := R
  exact ⟨o, es, ep, t, k o q, r⟩
theorem TGood.elems {l : List (Int × Value)} (g : ∀ e ∈ l, TGood w e) : ElemsOf (PySem.strKind P w) l := fun e m => by
  obtain ⟨z, tk, e1, e2⟩ := g e m
  refine ⟨⟨z, ?_, e2⟩, ?_⟩
  · rw [e1]
    show Value.isStrOf z (.str z tk) = true
    simp [Value.isStrOf]
  · rw [e1]
    rfl
theorem TGood.is_iff {e : Int × Value} (g : TGood w e) (z : Str) : (PySem.strKind P w).is z e.2 = true ↔ tkey e = z := by
  obtain ⟨y, tk, e1, _⟩ := g
  unfold tkey
  rw [e1]
  show Value.isStrOf z (.str y tk) = true ↔ y = z
  simp [Value.isStrOf]
theorem TGood.mem_iff {l : List (Int × Value)} (g : ∀ e ∈ l, TGood w e) (z : Str) : z ∈ l.map tkey ↔ ∃ e ∈ l, (PySem.strKind P w).is z e.2 = true := by
  constructor
  · intro m
    obtain ⟨e, he, q⟩ := List.mem_map.mp m
    exact ⟨e, he, (TGood.is_iff (g e he) z).mpr q⟩
  · rintro ⟨e, he, q⟩
    exact List.mem_map.mpr ⟨e, he, (TGood.is_iff (g e he) z).mp q⟩
end

section
variable {P : Program} {w : World} {A : Around} {E : Value → Shared → Prop} {s : Shared} {a : Addr} {zs : List Str}
/-- the end of an addition: the table is stored, laid anew where it is too full -/
theorem tset_tail {g : Bool → Sem Unit} (hg : ∀ (b : Bool) (s1 : Shared) (Q1 : Unit → Shared → Prop), Q1 () s1 → wpAny (model P w) A (g b) Q1 E s1)
    {o : Obj} {es es1 : Array (Int × Value)} {ep : Nat} {t t1 : SetTable} (ho : s.heap.get? a = some o) (hex : o.ExactSet) (hd : o.data = .set es ep t)
    (gd : ∀ e ∈ es1.toList, TGood w e) (pz : (es1.toList.map tkey).Perm zs) (nz : zs.Nodup) (hb : es1.size < scanBound) (hf : t1.fits es1.size = true)
    (hr : Ris t1.place.toList) (hl : w.params.followText "set-order" = true ∨ t1.led = true) {dm : Bool} {R : Option Bool → Shared → Prop}
    (hR : ∀ h', Heap.SameBut a s.heap h' → TSet w h' a zs → R (some true) { s with heap := h' }) :
    wpAny (model P w) A (do
        storeSet a es1 t1
        if (!dm && t1.tooFull) = true then do
            g (relayAll t1 es1 (SetTable.grown es1.size)).2.2
            storeSet a (relayAll t1 es1 (SetTable.grown es1.size)).1 (relayAll t1 es1 (SetTable.grown es1.size)).2.1
            pure (some true)
          else pure (some true)) R E s := by
  refine wpAny_bind (wpAny_storeSet_of ho hd ?_ (fits_of_scanBound hb))
  have ho1 := store_at (es' := es1) (t' := t1) ho hd
  have same := Heap.SameBut.update s.heap a (Obj.putSet es1 t1)
  split
  · have p2 := relayAll_perm t1 es1 (SetTable.grown es1.size)
    have f2 := relayAll_fits t1 es1 (SetTable.grown es1.size)
    have r2 := relayAll_ris t1 es1 (SetTable.grown es1.size)
    have l2 := relayAll_led t1 es1 (SetTable.grown es1.size)
    generalize relayAll t1 es1 (SetTable.grown es1.size) = Z at p2 f2 r2 l2 ⊢
    obtain ⟨es2, t2, gv⟩ := Z
    dsimp only at p2 f2 r2 l2 ⊢
    have sz : es2.size = es1.size := by rw [← Array.length_toList, p2.length_eq, Array.length_toList]
    have hb2 : es2.size < scanBound := sz ▸ hb
    refine wpAny_bind (hg _ _ _ (wpAny_bind (wpAny_storeSet_of ho1 rfl ?_ (fits_of_scanBound hb2))))
    have ho2 := store_at (es' := es2) (t' := t2) ho1 rfl
    exact wpAny_pure (hR _ (same.trans (Heap.SameBut.update _ a _)) ⟨_, es2, _, t2, ho2, hex, rfl, fun e m => gd e (p2.mem_iff.mp m), (p2.map tkey).trans pz, nz, hb2, f2, r2, hl.imp id fun q => by rw [l2]; exact q⟩)
  · exact wpAny_pure (hR _ same ⟨_, es1, _, t1, ho1, hex, rfl, gd, pz, nz, hb, hf, hr, hl⟩)

/-- one text more -/
def addT (zs : List Str) (z : Str) : List Str := if z ∈ zs then zs else zs ++ [z]

theorem tset_hashed {z : Str} {tk : Tok} {Q : Bool → Shared → Prop} (R : TSet w s.heap a zs) (room : zs.length + 1 < scanBound)
    (hQ : ∀ b h', Heap.SameBut a s.heap h' → TSet w h' a (addT zs z) → Q b { s with heap := h' }) :
    wpAny (model P w) A (setAddHashed a (.str z tk) ((PySem.strKind P w).hash z)) Q E s := by
  obtain ⟨o, es, ep, t, ho, hex, hd, gd, pz, nz, hb, hf, hr, hl⟩ := R
  have hkey : (PySem.strKind P w).is z (.str z tk) = true := by
    show Value.isStrOf z (.str z tk) = true
    simp [Value.isStrOf]
  have hsc : (Value.str z tk).scannable = true := rfl
  have hel : ElemsOf (PySem.strKind P w) es.toList := TGood.elems gd
  have hn : es.size = zs.length := by rw [← Array.length_toList, ← pz.length_eq, List.length_map]
  unfold setAddHashed setAddHashedIn
  refine wpAny_holding (wpAny_bind (wpAny_setState_of ho hd hf ?_))
  dsimp only
  rw [byScan_of hsc hb hel]
  simp only [↓reduceIte]
  unfold setAddByScan
  refine wpAny_bind (wpAny_bind (wpAny_rule (wpAny_bind (wpAny_setScan_of hkey ho hd hf hel ?_))))
  cases hfi : List.findIdx? (fun e => (PySem.strKind P w).is z e.2) es.toList with
  | some j =>
    dsimp only
    obtain ⟨hj, pj, _⟩ := List.findIdx?_eq_some_iff_getElem.mp hfi
    have hin : z ∈ zs := pz.mem_iff.mp ((TGood.mem_iff (P := P) gd z).mpr ⟨_, List.getElem_mem hj, pj⟩)
    have q := hQ false s.heap (Heap.SameBut.refl a s.heap)
    rw [show addT zs z = zs from if_pos hin] at q
    exact wpAny_pure (wpAny_pure (q ⟨o, es, ep, t, ho, hex, hd, gd, pz, nz, hb, hf, hr, hl⟩))
  | none =>
    dsimp only
    have hout : z ∉ zs := fun m => by
      obtain ⟨e, he, q⟩ := (TGood.mem_iff (P := P) (w := w) gd z).mp (pz.mem_iff.mpr m)
      have c := List.findIdx?_eq_none_iff.mp hfi e he
      rw [q] at c
      cases c
    have hgw : ∀ (b : Bool) {s1 : Shared} {Q1 : Unit → Shared → Prop}, Q1 () s1 → wpAny (model P w) A (match b with | true => rule "set.scan.the-table-gave-way" | false => pure ()) Q1 E s1 :=
      fun b s1 Q1 q => by cases b <;> first | exact wpAny_pure q | exact wpAny_rule q
    have p1 := layNew_perm t es ((PySem.strKind P w).hash z) (.str z tk)
    have f1 := layNew_fits t es ((PySem.strKind P w).hash z) (.str z tk)
    have r1 := layNew_ris t es ((PySem.strKind P w).hash z) (.str z tk) hr
    have l1 := layNew_led t es ((PySem.strKind P w).hash z) (.str z tk)
    generalize layNew t es ((PySem.strKind P w).hash z) (.str z tk) = Z at p1 f1 r1 l1 ⊢
    obtain ⟨es1, t1, dm, gv⟩ := Z
    dsimp only at p1 f1 r1 l1 ⊢
    rw [Array.toList_push] at p1
    have gd1 : ∀ e ∈ es1.toList, TGood w e := fun e m => by
      rcases List.mem_append.mp (p1.mem_iff.mp m) with q | q
      · exact gd e q
      · rw [List.mem_singleton.mp q]
        exact ⟨z, tk, rfl, rfl⟩
    have ez : addT zs z = zs ++ [z] := if_neg hout
    have pz1 : (es1.toList.map tkey).Perm (addT zs z) := by
      rw [ez]
      refine (p1.map tkey).trans ?_
      rw [List.map_append]
      exact pz.append_right _
    have nz1 : (addT zs z).Nodup := by
      rw [ez]
      exact nd_snoc nz hout
    have sz1 : es1.size = zs.length + 1 := by
      rw [← Array.length_toList, p1.length_eq, List.length_append, Array.length_toList, hn]
      rfl
    have hb1 : es1.size < scanBound := by rw [sz1]; exact room
    have hl1 : w.params.followText "set-order" = true ∨ t1.led = true := hl.imp id fun q => by rw [l1]; exact q
    have fin : ∀ h', Heap.SameBut a s.heap h' → TSet w h' a (addT zs z) → Q true { s with heap := h' } := hQ true
    refine wpAny_bind (hgw _ ?_)
    split
    · refine wpAny_bind ?_
      rw [hashByValue_scannable 8 hsc]
      refine wpAny_pure ?_
      refine tset_tail ?_ ho hex hd gd1 pz1 nz1 hb1 ?_ ?_ ?_ ?_
      · intro b s1 Q1 q
        cases b <;> first | exact wpAny_pure q | exact wpAny_rule q
      · first | (split <;> first | exact f1 | exact SetTable.fits_plain_off f1) | exact f1
      · first | (split <;> exact r1) | exact r1
      · first | (split <;> exact hl1) | exact hl1
      · intro h' sb r
        dsimp only
        exact wpAny_pure (fin h' sb r)
    · refine wpAny_bind (wpAny_pure ?_)
      simp only [↓reduceIte]
      refine tset_tail ?_ ho hex hd gd1 pz1 nz1 hb1 f1 r1 hl1 ?_
      · intro b s1 Q1 q
        cases b <;> first | exact wpAny_pure q | exact wpAny_rule q
      · intro h' sb r
        dsimp only
        exact wpAny_pure (fin h' sb r)

theorem TSet.typeIs {zs : List Str} (R : TSet w s.heap a zs) : s.TypeIs (.ref a) "set" := by
  obtain ⟨o, es, ep, t, ho, hex, _⟩ := R
  exact ⟨o, ho, hex.1⟩
/-- s.add(z) -/
theorem tset_add {z : Str} {tk : Tok} {Q : Value → Shared → Prop} (R : TSet w s.heap a zs) (room : zs.length + 1 < scanBound)
    (hQ : ∀ h', Heap.SameBut a s.heap h' → TSet w h' a (addT zs z) → Q .none { s with heap := h', toks := s.toks + 1 }) :
    wpAny (model P w) A (call (.builtin "set.add") [.ref a, .str z tk]) Q E s := by
  have hkey : (PySem.strKind P w).is z (.str z tk) = true := by
    show Value.isStrOf z (.str z tk) = true
    simp [Value.isStrOf]
  refine wpAny_call_entry F.slot_set_add R.typeIs F.entry_set_add ?_ (F.args_set_add_2 _ _)
  unfold Builtin.«set.add» Builtin.Frozenset.oneOther
  simp only [List.isEmpty_nil, bind_assoc]
  unfold Builtin.Frozenset.addrOf setAdd
  refine wpAny_bind (wpAny_pure ?_)
  try dsimp only
  refine wpAny_bind (wpAny_pure ?_)
  try dsimp only
  refine wpAny_bind (wpAny_holding (wpAny_bind ((PySem.strKind P w).pyHash hkey ?_)))
  refine tset_hashed (s := { s with toks := s.toks + 1 }) R room fun b h' sb r => ?_
  show wpAny _ _ (ret Value.none) _ _ _
  exact wpAny_pure ⟨_, rfl, hQ h' sb r⟩
theorem tset_fresh {h : Heap} (w : World) : TSet w (h.push { cls := .type "set", dict := none, data := .set #[] 0 (.fresh 0 0 (!w.params.followText "set-order")) }) h.objs.size [] := by
  refine ⟨_, #[], 0, _, Heap.get?_push_size _ rfl, ⟨rfl, rfl, rfl⟩, rfl, (fun e m => by simp at m), .nil, .nil, by decide, rfl, .nil, ?_⟩
  show _ ∨ (!w.params.followText "set-order") = true
  cases w.params.followText "set-order"
  · exact Or.inr rfl
  · exact Or.inl rfl

/-! ### sorted -/
theorem strs_of : ∀ (l : List Value), (∀ v ∈ l, ∃ z tk, v = Value.str z tk) → StrsAre l (l.map fun v => tkey (0, v))
  | [], _ => .nil
  | v :: l, h => by
    obtain ⟨z, tk, rfl⟩ := h v List.mem_cons_self
    exact .cons z tk (strs_of l fun u m => h u (List.mem_cons_of_mem _ m))
theorem tset_sorted {Q : Value → Shared → Prop} (R : TSet w s.heap a zs) (hh : A.handled = none)
    (hQ : ∀ s' p (out : Array Value) (c : Nat) (ys : List Str), (∀ b o, s.heap.get? b = some o → s'.heap.get? b = some o) → s'.gens = s.gens → s'.os = s.os → s.heap.objs.size ≤ p →
      s'.heap.get? p = some (seqObj "list" out c) → StrsAre out.toList ys → ys.Perm zs → sortedS ys = true → Q (.ref p) s') :
    wpAny (model P w) A (call (.builtin "sorted") [.ref a]) Q E s := by
  obtain ⟨o, es, ep, t, ho, hex, hd, gd, pz, nz, hb, hf, hr, hl⟩ := R
  refine Calls.call_function_entry kind_sorted plain_sorted entry_sorted (args_sorted1 _) ?_
  unfold Builtin.«sorted»
  refine wpAny_bind (m := checkCount "sorted" 1 1 _) (wpAny_pure ?_)
  refine wpAny_bind (collect_set (A := A.in1) hh ⟨o, ho, hex.1, hd⟩ hf hb hr hl fun s1 vs k1 hz g1 o1 pm => ?_)
  have hvl : vs.length = es.size := by rw [pm.length_eq, List.length_map, Array.length_toList]
  have hS : StrsAre vs (vs.map fun v => tkey (0, v)) := strs_of vs fun v hv => by
    obtain ⟨e, he, q⟩ := List.mem_map.mp (pm.mem_iff.mp hv)
    obtain ⟨z, tk, e1, _⟩ := gd e he
    exact ⟨z, tk, by rw [← q]; exact e1⟩
  have pk : (vs.map fun v => tkey (0, v)).Perm zs := by
    have q := pm.map fun v => tkey (0, v)
    rw [List.map_map] at q
    exact q.trans pz
  have hln : vs.length ≤ sizeLine := by
    rw [hvl]
    exact fits_of_scanBound hb
  refine wpAny_bind (wpAny_newList ?_ hln)
  have hoL : (s1.heap.push (seqObj "list" vs.toArray 0)).get? s1.heap.objs.size = some (seqObj "list" vs.toArray 0) := Heap.get?_push_size _ rfl
  refine wpAny_bind (wpAny_holding (wpAny_call_entry slot_list_sort ⟨_, hoL, rfl⟩ entry_list_sort (list_sort_treeKAny strKind_oneLt hoL hS.keysOf (fun v1 v2 rest e => keyKind_strs (by rw [← e]; exact hS)) hln fun st' hp hs => ⟨_, rfl, ?_⟩) (args_list_sort _)))
  obtain ⟨ys, a1, a2, a3⟩ := sorted_out_str hS hp hs
  generalize (arrOf st').map (·.2) = out at a1 ⊢
  obtain ⟨c, hc⟩ := sortedHeap_at (vs := vs) (out := out) hoL
  refine wpAny_pure ⟨_, rfl, hQ _ s1.heap.objs.size out c ys (fun b u e => ?_) g1 o1 hz hc a1 (a2.trans pk) a3⟩
  have q := k1 b u e
  have hlt := Heap.lt_size q
  show (sortedHeap (s1.heap.push (seqObj "list" vs.toArray 0)) s1.heap.objs.size vs out).get? b = some u
  rw [sortedHeap_old (Nat.ne_of_lt hlt) (by rw [size_push']; exact Nat.lt_succ_of_lt hlt)]
  exact Heap.get?_push_of_some _ q
end

/-! ### over the abstract heap -/
def TSetO (w : World) (a : Addr) (zs : List Str) : HO := .ext fun h => TSet w h a zs
theorem tsetO_new {w : World} {P : Program} {H : Hp} {h : Heap} {a : Addr} {zs : List Str} (R : TSet w h a zs) : ObjOk P w H h a (TSetO w a zs) := by
  have ⟨o, _, _, _, ho, _⟩ := R
  exact ⟨R, ⟨o, ho⟩, fun h1 h2 p k => TSet.there p k⟩
section
variable {X : Cx} {pins : List (Addr × Obj)} {σ : L2.St} {H : Hp} {s : Shared} {zs : List Str}
theorem tsetO_get {a : Addr} (I : Inv X pins σ H s) (ha : H a = some (TSetO X.w a zs)) : TSet X.w s.heap a zs := (I.hok a _ ha).1
theorem tsetO_add {E : Value → Shared → Prop} {D : Addr} {z : Str} {tk : Tok} {Q : Value → Shared → Prop} (I : Inv X pins σ H s) (hD : H D = some (TSetO X.w D zs)) (room : zs.length + 1 < scanBound)
    (h : ∀ s', Inv X pins σ (upd H D (TSetO X.w D (addT zs z))) s' → Q .none s') : wpAny (model X.prog X.w) X.A (call (.builtin "set.add") [.ref D, .str z tk]) Q E s := by
  refine tset_add (tsetO_get I hD) room fun h' sb new => h _ ?_
  have he : ∃ u, h'.get? D = some u := by
    have ⟨o, _, _, _, ho, _⟩ := new
    exact ⟨o, ho⟩
  exact I.write (e := D) (t' := s.toks + 1) (by rw [hD]; trivial) (.inl rfl) (fun b u hb hu => (sb.2 b hb).trans hu) he (tsetO_new new)
/-- sorted(s), s a set of texts -/
def rSortT (w : World) : List V → Hp → VK → Prop := fun vs H Q => ∃ (a : Addr) (zs : List Str), vs = [V.ref a] ∧ H a = some (TSetO w a zs) ∧ zs.length ≤ 100000 ∧
  ∀ (ys : List Str) (p : Addr), ys.Perm zs → sortedS ys = true → H p = none → Q (.ref p) (upd H p (.lst (ys.map V.str)))
theorem cr_sortT (hc : X.calm = true) : CallR X (.builtin "sorted") (rSortT X.w) := by
  intro pins s σ H vs us Q I r h
  obtain ⟨a, zs, rfl, ha, hz, q⟩ := h
  rw [Vals.ref1 r]
  refine tset_sorted (tsetO_get I ha) (I.ok.hd hc) fun s' p out c ys k g o hp hg hS hperm hsrt => ?_
  have hlen : (ys.map V.str).length ≤ sizeLine := by
    rw [List.length_map, hperm.length_eq]
    exact Nat.le_trans hz (by decide)
  have hn : H p = none := I.hok.fresh hp
  have J : Inv X pins σ (upd H p (.lst (ys.map V.str))) { s with heap := s'.heap, gens := s'.gens, drawn := s'.drawn, toks := s'.toks } :=
    I.call (ch := []) (Un.laid k hp hn) (I.hok.laid k hp ⟨hlen, out.toList, c, vals_of_strs hS, hg⟩) (by rw [g]; exact I.bare) (fun _ m => nomatch m)
  have e : s' = { s with heap := s'.heap, gens := s'.gens, drawn := s'.drawn, toks := s'.toks } := by
    cases s'
    cases s
    cases o
    rfl
  rw [e]
  exact ⟨.ref p, _, J, rfl, q ys p hperm hsrt hn⟩
end
end Cs

set_option Elab.async false
set_option linter.all false
set_option maxRecDepth 100000
set_option maxHeartbeats 4000000
/-! {elt for target in iter if ..} where elt is a text. -/
namespace Cs
open PySem PySem.Spec PyProof.Rows L2

/-- one turn of such a comprehension: the text that comes is put into the set at D -/
def tScT (w : World) (wi : TI) (g : TG) (tt : TT) (te : TE) (vs : List Nat) : TE := fun σ H Q => wi σ H fun J H1 => ∀ D, H1 D = none →
  ∃ W : Nat → Nat → Hp → Prop, (∃ m, W 0 m (upd H1 D (TSetO w D []))) ∧ ∀ i m H, W i m H →
  (J.stop i H ∧ Q (.ref D) H) ∨ (J.go i H ∧ ∃ Nx : Hp → Prop, (∀ H', Nx H' → ∃ m', m' < m ∧ W (i + 1) m' H') ∧
    ∀ x H', J.yld i H x H' → g x (wipe σ vs) H' fun σ2 H2 => wipe σ2 vs = wipe σ vs ∧ tt σ2 H2 fun b H3 =>
    if b = true then te σ2 H3 fun y H4 => ∃ (z : Str) (zs : List Str), y = .str z ∧ H4 D = some (TSetO w D zs) ∧ zs.length + 1 < scanBound ∧ Nx (upd H4 D (TSetO w D (addT zs z))) else Nx H3)
section
variable {X : Cx}
theorem scT_core {pins : List (Addr × Obj)} {s : Shared} {σ : L2.St} {H : Hp} {Q : VK} {elt tg iter : Expr} {ifs : List Expr} {scope : Scope} {own : List (PySem.Str × Nat)} {pos pos' : Pos}
    {wi : TI} {g : TG} {tt : TT} {te : TE} {use : Option (Value → Sem Unit)} {Qf : Value → Shared → Prop}
    (hc : X.calm = true) (hN : X.N.Nodup) (I : Inv X pins σ H s) (hi : PI X tg iter wi) (ok : BlkOk X.N X.env.scope scope own)
    (hg : ∀ (s : Shared) (H : Hp) (C : Addr) (cl : List (PySem.Str × Addr)) (fp : List Addr), PG (X.blk s H scope (compEnvC scope cl C X.env) fp) tg g)
    (ht : ∀ (s : Shared) (H : Hp) (C : Addr) (cl : List (PySem.Str × Addr)) (fp : List Addr), PTs (X.blk s H scope (compEnvC scope cl C X.env) fp) ifs tt)
    (he : ∀ (s : Shared) (H : Hp) (C : Addr) (cl : List (PySem.Str × Addr)) (fp : List Addr), PE (X.blk s H scope (compEnvC scope cl C X.env) fp) elt te)
    (hs : ∀ x, foldedSetIterable iter X.env x = pure x) (h : tScT X.w wi g tt te (own.map (·.2)) σ H Q)
    (hRR : ∀ D C s' m H', Inv X pins σ H' s' → Q (.ref D) H' → s'.heap.Ns C m → FpOk X pins H' C → compPost (model X.prog X.w) X.A X.xe use Qf (.ref D) C (.ok .next) s') :
    wpAny (model X.prog X.w) X.A (comprehension (.SetComp elt [⟨tg, iter, ifs, 0⟩] scope pos) scope X.env pos' (newSet (.type "set")) false (eval iter X.env) use) Qf X.xe s := by
  have cells : ∀ y ∈ scope.names, y.2 = .free → ∃ c, X.env.cells.lookup y.1 = some c := fun y hy e => (ok.free y hy e).elim (fun k => I.ok.has _ (.inl k)) fun k => I.ok.has _ (.inr k)
  refine wpAny_comprehension_free (use := use) rfl hs (closure_ok cells) ok.kind (fun y hy e => by rw [ok.uniq y hy, e]) (thn (hi.run pins s σ H _ I h) fun xv sA hx => thn hx fun itv sB hB => ?_)
  obtain ⟨it, fp, tn, J, HB, e, IB, T, stB, fB, q⟩ := hB
  subst e
  refine PpSet.newSet_ok (newEnv_comp ?_)
  generalize hD : sB.heap.objs.size = D
  obtain ⟨W, ⟨m0, w0⟩, turn⟩ := q D (IB.hok.fresh (Nat.le_of_eq hD))
  generalize hsC : ({ sB with heap := sB.heap.push { cls := .type "set", dict := none, data := .set #[] 0 (.fresh 0 0 (!X.w.params.followText "set-order")) } } : Shared) = sC
  have hpC : sC.heap = sB.heap.push { cls := .type "set", dict := none, data := .set #[] 0 (.fresh 0 0 (!X.w.params.followText "set-order")) } := by rw [← hsC]
  generalize hHC : upd HB D (TSetO X.w D []) = HC at w0
  have IC : Inv X pins σ HC sC := by
    rw [← hsC, ← hHC]
    refine IB.laid (t' := sB.toks) (fun b o e => Heap.get?_push_of_some _ e) (Nat.le_of_eq hD) ?_
    rw [← hD]
    exact tsetO_new (tset_fresh X.w)
  have below : ∀ b ∈ fp, b < sB.heap.objs.size := fun b hb => (T.obj _ _ stB b hb).elim fun o z => Heap.lt_size z.1
  have fC : ∀ b ∈ fp, FpOk X pins HC b ∧ b < sC.heap.objs.size := fun b hb => by
    have lt := below b hb
    refine ⟨⟨?_, (fB b hb).2⟩, by rw [hpC, Heap.size_push]; exact Nat.lt_succ_of_lt lt⟩
    rw [← hHC, upd_ne (by rw [← hD]; exact Nat.ne_of_lt lt)]
    exact (fB b hb).1
  have stC : tn 0 sC.heap := T.keep _ _ _ stB fun b _ o e => by rw [hpC]; exact Heap.get?_push_of_some _ e
  have IK := block_start IC ok hN fC
  show codeAny _ _ (.compStart (.SetComp elt [⟨tg, iter, ifs, 0⟩] scope pos) 0 (.ref it) (.ref D) (compEnvC scope (cellsFrom (sC.heap.objs.size + 1) scope.names (cloFrom X.env.cells scope.names [])) sC.heap.objs.size X.env))
    (compPost (model X.prog X.w) X.A X.xe use Qf (.ref D) sC.heap.objs.size) { sC with heap := pushCells (sC.heap.push { cls := .type "dict", data := .dict #[] }) scope.names }
  generalize cellsFrom (sC.heap.objs.size + 1) scope.names (cloFrom X.env.cells scope.names []) = cl at IK ⊢
  have pg := hg sC HC sC.heap.objs.size cl fp
  have pt := ht sC HC sC.heap.objs.size cl fp
  have pe := he sC HC sC.heap.objs.size cl fp
  have nC : ∀ b ∈ fp, HC b = none := fun b hb => (fC b hb).1.1
  generalize hce : compEnvC scope cl sC.heap.objs.size X.env = ce at IK pg pt pe ⊢
  have locals : ce.locals = sC.heap.objs.size := by subst hce; rfl
  generalize hsK : ({ sC with heap := pushCells (sC.heap.push { cls := .type "dict", data := .dict #[] }) scope.names } : Shared) = sK at IK ⊢
  have stK : tn 0 sK.heap := T.keep _ _ _ stC fun b _ o e => by rw [← hsK]; exact pushCells_keeps _ _ _ _ (Heap.get?_push_of_some _ e)
  have stand : ∀ {σ' : L2.St} {H' : Hp} {s' : Shared}, Inv (X.blk sC HC scope ce fp) [] σ' H' s' → (∀ b ∈ fp, H' b = none) → ∀ b ∈ fp, FpOk (X.blk sC HC scope ce fp) [] H' b := fun {σ' H' s'} I' hn b hb =>
    ⟨hn b hb, (I'.ok.exf b hb).1, I'.ok.exfs b hb, .inl hb, fun x c e => (I'.ok.exf b hb).2 x c e, fun p hp => absurd (show p ∈ ([] : List (Addr × Obj)) ++ [] from hp) (by simp)⟩
  have loop : codeAny (model X.prog X.w) X.A (.compLoop (.SetComp elt [⟨tg, iter, ifs, 0⟩] scope pos) 0 (.ref it) (.ref D) ce) (compPost (model X.prog X.w) X.A X.xe use Qf (.ref D) sC.heap.objs.size) sK := by
    refine PpSet.compLoopS_any (fun n s' => ∃ i H', Inv (X.blk sC HC scope ce fp) [] (wipe σ (own.map (·.2))) H' s' ∧ tn i s'.heap ∧ (∀ b ∈ fp, H' b = none) ∧ W i n H') ?_ m0 ⟨0, HC, IK, stK, nC, w0⟩
    rintro n sL ⟨i, HL, IL, stL, nL, wL⟩
    rcases turn i n HL wL with ⟨stop, qq⟩ | ⟨go, Nx, hNx, step⟩
    · refine thnF (T.done (X.blk sC HC scope ce fp) rfl rfl rfl hc i [] sL _ HL (fun _ _ => False) IL (stand IL nL) stL stop) fun r sM ⟨hr, IM⟩ => ?_
      subst hr
      have IX : Inv X pins σ HL sM := IC.call' (ch := fp) IM.os IM.base IM.hok IM.bare fun b hb => ⟨(fC b hb).1.2.2.2.1, (fC b hb).1.2.1, (fC b hb).1.2.2.2.2.1, (fC b hb).1.2.2.2.2.2⟩
      have nl : HL sC.heap.objs.size = none := by
        have z : HL ce.locals = none := IM.free
        rw [locals] at z
        exact z
      obtain ⟨m, hn, _⟩ := IM.loc
      have hn : sM.heap.Ns ce.locals m := hn
      rw [locals] at hn
      exact hRR D sC.heap.objs.size sM m HL IX qq hn (IC.fpOk (Nat.le_refl _) nl)
    · refine thnF (T.item (X.blk sC HC scope ce fp) rfl rfl rfl hc i [] sL _ HL (fun _ _ => False) IL (stand IL nL) stL go) fun r sM ⟨u, hr, hM⟩ => ?_
      subst hr
      refine thnF hM fun _ sN ⟨x, HN, IN, rN, yN, stN, nN⟩ => ?_
      have INp := IN.pinned (stand IN nN) (T.obj _ _ stN)
      refine thnF (pg.run _ sN _ HN x u _ INp rN (step x HN yN)) fun _ sO ⟨σO, HO_, IO_, hwO, qO⟩ => ?_
      refine thnF (pt.run _ sO σO HO_ _ IO_ qO) fun b sP ⟨HP, IP, qP⟩ => ?_
      have fin : ∀ {s' : Shared} {H' : Hp}, Inv (X.blk sC HC scope ce fp) ([] ++ pinsAt fp sN.heap) σO H' s' → Nx H' →
          ∃ m, m < n ∧ ∃ i H', Inv (X.blk sC HC scope ce fp) [] (wipe σ (own.map (·.2))) H' s' ∧ tn i s'.heap ∧ (∀ b ∈ fp, H' b = none) ∧ W i m H' := fun {s' H'} I' nx => by
        obtain ⟨m', hm, w'⟩ := hNx H' nx
        have kept : ∀ b ∈ fp, ∀ o, sN.heap.get? b = some o → s'.heap.get? b = some o ∧ H' b = none := fun b hb o e =>
          let z := I'.pin (b, o) (List.mem_append_right _ (List.mem_append_right _ (mem_pinsAt hb e)))
          ⟨z.1, z.2.1⟩
        refine ⟨m', hm, i + 1, H', (I'.unpinned (pins := [])).weak (by rw [← hwO, wipe_length]) (fun j v e => ?_), T.keep _ _ _ stN fun b hb o e => (kept b hb o e).1, fun b hb => ?_, w'⟩
        · rw [← hwO] at e
          exact (wipe_some e).1
        · exact (T.obj _ _ stN b hb).elim fun o z => (kept b hb o z.1).2
      cases b with
      | false =>
        simp only [Bool.false_eq_true, if_false] at qP ⊢
        exact fin IP qP
      | true =>
        simp only [if_true] at qP ⊢
        refine thnF (pe.run _ sP σO HP _ IP qP) fun v sQ ⟨yv, HQ, IQ, rQ, z, zs, ey, hDQ, hzQ, nx⟩ => ?_
        subst ey
        obtain ⟨tk, rfl⟩ : ∃ tk, v = Value.str z tk := rQ
        exact tsetO_add (X := X.blk sC HC scope ce fp) IQ hDQ hzQ fun sR IR => fin IR nx
  exact PpSet.codeAny_compStart_set loop (T.self X.A 0 _ _ _ stK loop)
theorem pe_scT {elt tg iter : Expr} {ifs : List Expr} {scope : Scope} {own : List (PySem.Str × Nat)} {pos : Pos} {wi : TI} {g : TG} {tt : TT} {te : TE} (hc : X.calm = true) (hN : X.N.Nodup) (hi : PI X tg iter wi)
    (ok : BlkOk X.N X.env.scope scope own)
    (hg : ∀ (s : Shared) (H : Hp) (C : Addr) (cl : List (PySem.Str × Addr)) (fp : List Addr), PG (X.blk s H scope (compEnvC scope cl C X.env) fp) tg g)
    (ht : ∀ (s : Shared) (H : Hp) (C : Addr) (cl : List (PySem.Str × Addr)) (fp : List Addr), PTs (X.blk s H scope (compEnvC scope cl C X.env) fp) ifs tt)
    (he : ∀ (s : Shared) (H : Hp) (C : Addr) (cl : List (PySem.Str × Addr)) (fp : List Addr), PE (X.blk s H scope (compEnvC scope cl C X.env) fp) elt te)
    (hs : ∀ x, foldedSetIterable iter X.env x = pure x := by intro _; rfl) : PE X (.SetComp elt [⟨tg, iter, ifs, 0⟩] scope pos) (tScT X.w wi g tt te (own.map (·.2))) := by
  refine ⟨fun pins s σ H Q I h => ?_⟩
  rw [PpSet.eval_SetComp]
  refine scT_core hc hN I hi ok hg ht he hs h fun D C s' m H' I' q hn f => ⟨m, hn, fun h'' sb => ?_⟩
  obtain ⟨f0, f1, f2, f3, f4, f5⟩ := f
  exact ⟨.ref D, H', I'.turned (t' := s'.toks) (fun b o hb e => (sb.2 b hb).trans e) f0 f1 f3 f4 f5, rfl, q⟩
end
/-- the texts of a list, each once, by first place -/
def once (zs : List Str) : List Str := zs.foldl addT []
theorem once_snoc (zs : List Str) (z : Str) : once (zs ++ [z]) = addT (once zs) z := by
  unfold once
  rw [List.foldl_append]
  rfl
theorem once_len (zs : List Str) : (once zs).length ≤ zs.length := by
  have h : ∀ (l acc : List Str), (l.foldl addT acc).length ≤ acc.length + l.length := by
    intro l
    induction l with
    | nil => intro acc; exact Nat.le_refl _
    | cons z l ih =>
      intro acc
      have e := ih (addT acc z)
      have f : (addT acc z).length ≤ acc.length + 1 := by
        unfold addT
        split
        · omega
        · simp
      show (l.foldl addT (addT acc z)).length ≤ _
      rw [List.length_cons]
      omega
  have := h zs []
  simpa [once] using this
theorem once_mem (zs : List Str) (y : Str) : y ∈ once zs ↔ y ∈ zs := by
  have h : ∀ (l acc : List Str), y ∈ l.foldl addT acc ↔ y ∈ acc ∨ y ∈ l := by
    intro l
    induction l with
    | nil => intro acc; simp
    | cons z l ih =>
      intro acc
      show y ∈ l.foldl addT (addT acc z) ↔ _
      rw [ih]
      unfold addT
      split
      · rename_i m
        simp only [List.mem_cons]
        constructor
        · rintro (a | a)
          · exact .inl a
          · exact .inr (.inr a)
        · rintro (a | a | a)
          · exact .inl a
          · exact .inl (a ▸ m)
          · exact .inr a
      · simp only [List.mem_append, List.mem_cons, List.not_mem_nil, or_false, or_assoc]
  simpa [once] using h zs []
theorem once_nodup (zs : List Str) : (once zs).Nodup := by
  have h : ∀ (l acc : List Str), acc.Nodup → (l.foldl addT acc).Nodup := by
    intro l
    induction l with
    | nil => intro acc h; exact h
    | cons z l ih =>
      intro acc h
      refine ih _ ?_
      unfold addT
      split
      · exact h
      · rename_i m
        exact nd_snoc h m
  exact h zs [] .nil
end Cs

set_option Elab.async false
set_option linter.all false
set_option maxRecDepth 100000
set_option maxHeartbeats 4000000
/-! Plain laws: texts in order, tables of words and integers, what is told of a table. -/
namespace Cs
open PySem L2 PyProof.Rows
/-! ### the order of texts -/
def SLt (a b : Str) : Prop := a.cps.toList < b.cps.toList
theorem slt_irrefl (a : Str) : ¬ SLt a a := List.lt_irrefl _
theorem slt_trans {a b c : Str} (h : SLt a b) (k : SLt b c) : SLt a c := List.lt_trans h k
theorem str_ext {a b : Str} (h : a.cps.toList = b.cps.toList) : a = b := by
  cases a
  cases b
  congr
  exact Array.toList_inj.mp h
theorem slt_total {a b : Str} (h : ¬ SLt b a) (n : a ≠ b) : SLt a b := by
  have h1 : a.cps.toList ≤ b.cps.toList := List.not_lt.mp h
  apply Classical.byContradiction
  intro q
  exact n (str_ext (List.le_antisymm h1 (List.not_lt.mp q)))
theorem slt_of_le_lt {a b c : Str} (h : ¬ SLt b a) (k : SLt b c) : SLt a c := List.lt_of_le_of_lt (List.not_lt.mp h) k
/-- ascending, none twice -/
def Asc (zs : List Str) : Prop := zs.Pairwise SLt
theorem rising_pw : ∀ (r : List Str) (p : Str), risingS p r = true → (p :: r).Pairwise (fun a b => ¬ SLt b a)
  | [], p, _ => List.pairwise_singleton _ _
  | x :: r, p, h => by
    have h : (!PySem.Spec.ltCps x.cps.toList p.cps.toList && risingS x r) = true := h
    rw [Bool.and_eq_true, ltCps_eq] at h
    have ih := rising_pw r x h.2
    have h1 : ¬ SLt x p := by
      have := h.1
      intro q
      rw [decide_eq_true (show x.cps.toList < p.cps.toList from q)] at this
      cases this
    refine List.pairwise_cons.mpr ⟨fun y hy => ?_, ih⟩
    rcases List.mem_cons.mp hy with e | e
    · rw [e]
      exact h1
    · have h2 := (List.pairwise_cons.mp ih).1 y e
      exact fun q => h1 (slt_of_le_lt h2 q)
theorem sorted_pw : ∀ {zs : List Str}, sortedS zs = true → zs.Pairwise (fun a b => ¬ SLt b a)
  | [], _ => .nil
  | x :: r, h => rising_pw r x h
theorem asc_of_sorted {zs : List Str} (h : sortedS zs = true) (n : zs.Nodup) : Asc zs := by
  have a := sorted_pw h
  have b : zs.Pairwise (fun a b => ¬ SLt b a ∧ a ≠ b) := a.and n
  exact b.imp fun h => slt_total h.1 h.2
theorem Asc.nodup {zs : List Str} (h : Asc zs) : zs.Nodup := h.imp fun {a b} (q : SLt a b) (e : a = b) => slt_irrefl a (by rw [← e] at q; exact q)
/-- ascending lists with the same members are one -/
theorem asc_eq : ∀ {xs ys : List Str}, Asc xs → Asc ys → (∀ z, z ∈ xs ↔ z ∈ ys) → xs = ys
  | [], [], _, _, _ => rfl
  | [], y :: ys, _, _, h => absurd ((h y).mpr List.mem_cons_self) (by simp)
  | x :: xs, [], _, _, h => absurd ((h x).mp List.mem_cons_self) (by simp)
  | x :: xs, y :: ys, a, b, h => by
    obtain ⟨a1, a2⟩ := List.pairwise_cons.mp a
    obtain ⟨b1, b2⟩ := List.pairwise_cons.mp b
    have e : x = y := by
      rcases List.mem_cons.mp ((h x).mp List.mem_cons_self) with e | e
      · exact e
      · rcases List.mem_cons.mp ((h y).mpr List.mem_cons_self) with f | f
        · exact f.symm
        · exact absurd (slt_trans (a1 y f) (b1 x e)) (slt_irrefl x)
    subst e
    rw [asc_eq a2 b2 fun z => ?_]
    constructor
    · intro m
      rcases List.mem_cons.mp ((h z).mp (List.mem_cons_of_mem _ m)) with e | e
      · exact absurd (e ▸ a1 z m) (slt_irrefl _)
      · exact e
    · intro m
      rcases List.mem_cons.mp ((h z).mpr (List.mem_cons_of_mem _ m)) with e | e
      · exact absurd (e ▸ b1 z m) (slt_irrefl _)
      · exact e
/-! ### tables -/
abbrev Tab := List (Str × Int)
def keys (t : Tab) : List Str := t.map (·.1)
def look (t : Tab) (z : Str) : Option Int := (t.find? fun q => decide (q.1 = z)).map (·.2)
def val (t : Tab) (z : Str) : Int := (look t z).getD 0
def put (t : Tab) (z : Str) (n : Int) : Tab := if (t.any fun q => decide (q.1 = z)) = true then t.map (fun q => if q.1 = z then (q.1, n) else q) else t ++ [(z, n)]
def drop (t : Tab) (z : Str) : Tab := t.filter fun q => decide (q.1 ≠ z)
theorem look_none : ∀ {t : Tab} {z : Str}, z ∉ keys t → look t z = none
  | [], _, _ => rfl
  | q :: t, z, h => by
    have h1 : q.1 ≠ z := fun e => h (by rw [← e]; exact List.mem_cons_self)
    have h2 : z ∉ keys t := fun m => h (List.mem_cons_of_mem _ m)
    have ih := look_none h2
    unfold look at ih ⊢
    rw [List.find?_cons, decide_eq_false h1]
    exact ih
theorem look_some : ∀ {t : Tab} {z : Str}, z ∈ keys t → ∃ n, look t z = some n ∧ (z, n) ∈ t
  | [], _, h => by simp [keys] at h
  | q :: t, z, h => by
    by_cases e : q.1 = z
    · refine ⟨q.2, ?_, ?_⟩
      · unfold look
        rw [List.find?_cons, decide_eq_true e]
        rfl
      · rw [← e]
        exact List.mem_cons_self
    · have h2 : z ∈ keys t := (List.mem_cons.mp h).resolve_left fun q => e q.symm
      obtain ⟨n, a, b⟩ := look_some h2
      refine ⟨n, ?_, List.mem_cons_of_mem _ b⟩
      unfold look at a ⊢
      rw [List.find?_cons, decide_eq_false e]
      exact a
theorem look_mem {t : Tab} (nd : (keys t).Nodup) {z : Str} {n : Int} (h : (z, n) ∈ t) : look t z = some n := by
  induction t with
  | nil => cases h
  | cons q t ih =>
    obtain ⟨n1, n2⟩ := List.nodup_cons.mp (show (q.1 :: keys t).Nodup from nd)
    rcases List.mem_cons.mp h with e | e
    · subst e
      unfold look
      rw [List.find?_cons, decide_eq_true rfl]
      rfl
    · have h1 : q.1 ≠ z := fun f => n1 (f ▸ List.mem_map.mpr ⟨_, e, rfl⟩)
      have := ih n2 e
      unfold look at this ⊢
      rw [List.find?_cons, decide_eq_false h1]
      exact this
theorem any_keys (t : Tab) (z : Str) : (t.any fun q => decide (q.1 = z)) = decide (z ∈ keys t) := by
  rw [Bool.eq_iff_iff, List.any_eq_true, decide_eq_true_eq]
  constructor
  · rintro ⟨q, m, e⟩
    exact List.mem_map.mpr ⟨q, m, of_decide_eq_true e⟩
  · intro m
    obtain ⟨q, m, e⟩ := List.mem_map.mp m
    exact ⟨q, m, decide_eq_true e⟩
theorem keys_put (t : Tab) (z : Str) (n : Int) : keys (put t z n) = if z ∈ keys t then keys t else keys t ++ [z] := by
  unfold put
  rw [any_keys]
  by_cases h : z ∈ keys t
  · rw [if_pos (decide_eq_true h), if_pos h]
    unfold keys
    rw [List.map_map]
    apply List.map_congr_left
    intro q _
    simp only [Function.comp]
    split <;> rfl
  · rw [if_neg (by simpa using h), if_neg h]
    unfold keys
    rw [List.map_append]
    rfl
theorem mem_keys_put {t : Tab} {z y : Str} {n : Int} : y ∈ keys (put t z n) ↔ y ∈ keys t ∨ y = z := by
  rw [keys_put]
  split
  · rename_i h
    exact ⟨.inl, fun q => q.elim id fun e => e ▸ h⟩
  · rw [List.mem_append, List.mem_singleton]
theorem nd_put {t : Tab} {z : Str} {n : Int} (h : (keys t).Nodup) : (keys (put t z n)).Nodup := by
  rw [keys_put]
  split
  · exact h
  · rename_i m
    exact nd_snoc h m
theorem mem_put {t : Tab} {z y : Str} {n m : Int} (h : (y, m) ∈ put t z n) : (y = z ∧ m = n) ∨ (y ≠ z ∧ (y, m) ∈ t) := by
  unfold put at h
  rw [any_keys] at h
  by_cases k : z ∈ keys t
  · rw [if_pos (decide_eq_true k)] at h
    obtain ⟨q, hq, e⟩ := List.mem_map.mp h
    by_cases c : q.1 = z
    · rw [if_pos c] at e
      left
      exact ⟨by rw [← c]; exact (congrArg Prod.fst e).symm, (congrArg Prod.snd e).symm⟩
    · rw [if_neg c] at e
      right
      subst e
      exact ⟨c, hq⟩
  · rw [if_neg (by simpa using k)] at h
    rcases List.mem_append.mp h with a | a
    · right
      exact ⟨fun e => k (e ▸ List.mem_map.mpr ⟨_, a, rfl⟩), a⟩
    · left
      have := List.mem_singleton.mp a
      exact ⟨congrArg Prod.fst this, congrArg Prod.snd this⟩
theorem look_put {t : Tab} {z y : Str} {n : Int} (h : (keys t).Nodup) : look (put t z n) y = if y = z then some n else look t y := by
  by_cases k : y ∈ keys (put t z n)
  · obtain ⟨m, a, b⟩ := look_some k
    rw [a]
    rcases mem_put b with ⟨e, f⟩ | ⟨e, f⟩
    · rw [if_pos e, f]
    · rw [if_neg e, look_mem h f]
  · rw [look_none k]
    have k2 : ¬ (y ∈ keys t ∨ y = z) := fun q => k (mem_keys_put.mpr q)
    rw [if_neg fun e => k2 (.inr e), look_none fun e => k2 (.inl e)]
theorem val_put {t : Tab} {z y : Str} {n : Int} (h : (keys t).Nodup) : val (put t z n) y = if y = z then n else val t y := by
  unfold val
  rw [look_put h]
  split <;> rfl
theorem keys_drop (t : Tab) (z : Str) : keys (drop t z) = (keys t).filter fun y => decide (y ≠ z) := by
  unfold keys drop
  rw [List.filter_map]
  rfl
theorem nd_drop {t : Tab} {z : Str} (h : (keys t).Nodup) : (keys (drop t z)).Nodup := by
  rw [keys_drop]
  exact h.filter _
theorem look_drop {t : Tab} {z y : Str} (h : (keys t).Nodup) : look (drop t z) y = if y = z then none else look t y := by
  by_cases k : y ∈ keys (drop t z)
  · obtain ⟨m, a, b⟩ := look_some k
    have c := List.mem_filter.mp b
    have d : y ≠ z := of_decide_eq_true c.2
    rw [a, if_neg d, look_mem h c.1]
  · rw [look_none k]
    by_cases e : y = z
    · rw [if_pos e]
    · rw [if_neg e, look_none]
      intro m
      apply k
      rw [keys_drop]
      exact List.mem_filter.mpr ⟨m, decide_eq_true e⟩
theorem val_drop {t : Tab} {z y : Str} (h : (keys t).Nodup) : val (drop t z) y = if y = z then 0 else val t y := by
  unfold val
  rw [look_drop h]
  split <;> rfl
theorem len_put (t : Tab) (z : Str) (n : Int) : (put t z n).length ≤ t.length + 1 := by
  unfold put
  split
  · rw [List.length_map]
    omega
  · rw [List.length_append]
    exact Nat.le_refl _
/-! ### what is told of a table: the words ascending whose integer is not 0 -/
/-- ws holds the table's words, ascending -/
def toldBy (t : Tab) (ws : List Str) : Tab := (ws.filter fun z => decide (val t z ≠ 0)).map fun z => (z, val t z)
/-- l is what is told of a table with these values -/
structure Told (f : Str → Int) (l : Tab) : Prop where
  asc : Asc (keys l)
  mem : ∀ z n, (z, n) ∈ l ↔ n = f z ∧ n ≠ 0
theorem Told.keys_iff {f : Str → Int} {l : Tab} (h : Told f l) (z : Str) : z ∈ keys l ↔ f z ≠ 0 := by
  constructor
  · intro m
    obtain ⟨⟨y, n⟩, hm, e⟩ := List.mem_map.mp m
    have e : y = z := e
    subst e
    obtain ⟨a, b⟩ := (h.mem _ _).mp hm
    rw [← a]
    exact b
  · intro q
    exact List.mem_map.mpr ⟨(z, f z), (h.mem _ _).mpr ⟨rfl, q⟩, rfl⟩
theorem Told.form {f : Str → Int} {l : Tab} (h : Told f l) : l = (keys l).map fun z => (z, f z) := by
  unfold keys
  rw [List.map_map]
  conv => lhs; rw [← List.map_id l]
  apply List.map_congr_left
  intro q m
  have := ((h.mem q.1 q.2).mp m).1
  show q = (q.1, f q.1)
  rw [← this]
theorem told_eq {f g : Str → Int} {l m : Tab} (a : Told f l) (b : Told g m) (h : ∀ z, f z = g z) : l = m := by
  have e : f = g := funext h
  subst e
  have k : keys l = keys m := asc_eq a.asc b.asc fun z => by rw [a.keys_iff, b.keys_iff]
  rw [a.form, b.form, k]
theorem told_of {t : Tab} {ws : List Str} (nd : (keys t).Nodup) (ha : Asc ws) (hm : ∀ z, z ∈ ws ↔ z ∈ keys t) : Told (val t) (toldBy t ws) := by
  have ek : keys (toldBy t ws) = ws.filter fun z => decide (val t z ≠ 0) := by
    unfold keys toldBy
    rw [List.map_map]
    exact List.map_id _
  refine ⟨?_, fun z n => ?_⟩
  · rw [ek]
    exact List.Pairwise.filter _ ha
  · unfold toldBy
    rw [List.mem_map]
    constructor
    · rintro ⟨y, m, e⟩
      have e1 : y = z := congrArg Prod.fst e
      have e2 : val t y = n := congrArg Prod.snd e
      subst e1
      subst e2
      exact ⟨rfl, of_decide_eq_true (List.mem_filter.mp m).2⟩
    · rintro ⟨rfl, q⟩
      refine ⟨z, List.mem_filter.mpr ⟨?_, decide_eq_true q⟩, rfl⟩
      rw [hm]
      apply Classical.byContradiction
      intro k
      exact q (by unfold val; rw [look_none k]; rfl)
/-! ### a table as a dict's pairs -/
def tv (t : Tab) : List (Key × V) := t.map fun q => (Sum.inr q.1, V.int q.2)
theorem tv_len (t : Tab) : (tv t).length = t.length := List.length_map _
theorem tv_val (t : Tab) (z : Str) : valV (tv t) (Sum.inr z) = (look t z).map V.int := by
  unfold valV tv look
  induction t with
  | nil => rfl
  | cons q t ih =>
    rw [List.map_cons, List.find?_cons, List.find?_cons]
    by_cases e : q.1 = z
    · rw [decide_eq_true e, decide_eq_true (show (Sum.inr q.1 : Key) = Sum.inr z by rw [e])]
      rfl
    · rw [decide_eq_false e, decide_eq_false (show ¬ (Sum.inr q.1 : Key) = Sum.inr z from fun f => e (Sum.inr.inj f))]
      exact ih
theorem tv_any (t : Tab) (z : Str) : ((tv t).any fun kv => decide (kv.1 = Sum.inr z)) = t.any fun q => decide (q.1 = z) := by
  unfold tv
  rw [List.any_map]
  congr 1
  funext q
  exact key_rr q.1 z
theorem tv_put (t : Tab) (z : Str) (n : Int) : putK (tv t) (Sum.inr z) (V.int n) = tv (put t z n) := by
  unfold putK put
  rw [tv_any]
  split
  · unfold tv
    rw [List.map_map, List.map_map]
    apply List.map_congr_left
    intro q _
    simp only [Function.comp]
    by_cases e : q.1 = z
    · rw [if_pos e, if_pos (show (Sum.inr q.1 : Key) = Sum.inr z by rw [e])]
    · rw [if_neg e, if_neg (show ¬ (Sum.inr q.1 : Key) = Sum.inr z from fun f => e (Sum.inr.inj f))]
  · unfold tv
    rw [List.map_append]
    rfl
theorem tv_drop (t : Tab) (z : Str) : dropK (tv t) (Sum.inr z) = tv (drop t z) := by
  unfold dropK drop tv
  rw [List.filter_map]
  congr 1
  apply List.filter_congr
  intro q _
  simp only [Function.comp]
  by_cases e : q.1 = z
  · simp [e]
  · have : ¬ (Sum.inr q.1 : Key) = Sum.inr z := fun f => e (Sum.inr.inj f)
    simp [e, this]
/-- pairs added up word by word -/
def addUp (ps : List (Str × Int)) : Tab := ps.foldl (fun t q => put t q.1 (val t q.1 + q.2)) []
/-- the integers of a word in pairs -/
def sumOf (ps : List (Str × Int)) (z : Str) : Int := ((ps.filter fun q => decide (q.1 = z)).map (·.2)).sum
theorem addUp_snoc (ps : List (Str × Int)) (q : Str × Int) : addUp (ps ++ [q]) = put (addUp ps) q.1 (val (addUp ps) q.1 + q.2) := by
  unfold addUp
  rw [List.foldl_append]
  rfl
theorem snoc_rec {α : Type} {C : List α → Prop} (h0 : C []) (h1 : ∀ l a, C l → C (l ++ [a])) : ∀ l, C l := by
  intro l
  have : ∀ n (l : List α), l.length = n → C l := by
    intro n
    induction n with
    | zero => intro l hl; rw [List.length_eq_zero_iff.mp hl]; exact h0
    | succ n ih =>
      intro l hl
      have hne : l ≠ [] := by intro e; rw [e] at hl; cases hl
      rw [← List.dropLast_concat_getLast hne]
      exact h1 _ _ (ih _ (by rw [List.length_dropLast, hl]; rfl))
  exact this _ l rfl
theorem addUp_nd : ∀ ps, (keys (addUp ps)).Nodup := snoc_rec List.nodup_nil fun l a h => by
  rw [addUp_snoc]
  exact nd_put h
theorem addUp_val (z : Str) : ∀ ps, val (addUp ps) z = sumOf ps z := snoc_rec rfl fun l a h => by
  rw [addUp_snoc, val_put (addUp_nd l)]
  unfold sumOf at h ⊢
  rw [List.filter_append, List.map_append, List.sum_append]
  by_cases e : a.1 = z
  · rw [if_pos e.symm]
    subst e
    rw [h]
    simp
  · rw [if_neg fun q => e q.symm, h]
    simp [e]
theorem addUp_len : ∀ ps, (addUp ps).length ≤ ps.length := snoc_rec (Nat.le_refl _) fun l a h => by
  rw [addUp_snoc, List.length_append]
  exact Nat.le_trans (len_put _ _ _) (Nat.succ_le_succ h)
/-- without zeros -/
def noZero (t : Tab) : Tab := t.filter fun q => decide (q.2 ≠ 0)
theorem noZero_nd {t : Tab} (h : (keys t).Nodup) : (keys (noZero t)).Nodup := by
  unfold keys noZero
  exact List.Nodup.sublist ((List.filter_sublist).map _) h
theorem noZero_mem {t : Tab} {q : Str × Int} : q ∈ noZero t ↔ q ∈ t ∧ q.2 ≠ 0 := by
  unfold noZero
  rw [List.mem_filter, decide_eq_true_eq]
theorem noZero_val {t : Tab} (h : (keys t).Nodup) (z : Str) : val (noZero t) z = val t z := by
  unfold val
  by_cases k : z ∈ keys (noZero t)
  · obtain ⟨n, a, b⟩ := look_some k
    rw [a, look_mem h (noZero_mem.mp b).1]
  · rw [look_none k]
    by_cases m : z ∈ keys t
    · obtain ⟨n, a, b⟩ := look_some m
      rw [a]
      by_cases e : n = 0
      · rw [e]
        rfl
      · exact absurd (List.mem_map.mpr ⟨(z, n), noZero_mem.mpr ⟨b, e⟩, rfl⟩) k
    · rw [look_none m]
/-- a table as Counts hold it -/
structure Held (t : Tab) : Prop where
  nd : (keys t).Nodup
  nz : ∀ q ∈ t, q.2 ≠ 0
theorem Held.of {t : Tab} (h : (keys t).Nodup) : Held (noZero t) := ⟨noZero_nd h, fun q m => (noZero_mem.mp m).2⟩
theorem Held.keys_iff {t : Tab} (h : Held t) (z : Str) : z ∈ keys t ↔ val t z ≠ 0 := by
  unfold val
  constructor
  · intro m
    obtain ⟨n, a, b⟩ := look_some m
    rw [a]
    exact h.nz _ b
  · intro q
    apply Classical.byContradiction
    intro m
    rw [look_none m] at q
    exact q rfl
/-- the pairs of held counts, by their words ascending -/
theorem Held.told {t : Tab} (h : Held t) {ws : List Str} (ha : Asc ws) (hm : ∀ z, z ∈ ws ↔ z ∈ keys t) : Told (val t) (ws.map fun z => (z, val t z)) := by
  have := told_of h.nd ha hm
  unfold toldBy at this
  rw [List.filter_eq_self.mpr] at this
  · exact this
  · intro z m
    exact decide_eq_true ((h.keys_iff z).mp ((hm z).mp m))
end Cs

set_option Elab.async false
set_option linter.all false
set_option maxRecDepth 100000
set_option maxHeartbeats 4000000
/-! What an own class's special methods do: len(o), o[i], o[i] = v; classes called with a starred list. -/
namespace Cs
open PySem PySem.Spec PyProof.Rows L2
/-- a special method of the class at C -/
structure Spc (K : PySem.W.Frag) (C : Addr) (m : Str) (f : Addr) : Prop where
  at_ : PySem.W.findIn K (.ref C) m = some (some (.ref f))
  fn : PySem.W.isFn K (.ref f) = true
section
variable {X : Cx} {CX : CXT} {k i : Nat} {f C g : Addr} {fd : FuncData} {ps : List Str} {sp : Sp} {dvs : List V} {ds : List Value} {E : XK} {x m : Str} {e o : Expr} {es : List Expr} {te ta : TE} {t : TA} {p sp_ pos apos : Pos}
/-- a def run one level down -/
theorem run_fn1 {pins : List (Addr × Obj)} {σ : L2.St} {H : Hp} {s : Shared} {Q : VK} {us : List Value} {vs : List V} (F : FnOk X.prog X.w X.K X.mg X.base CX k f fd ps sp) (hr : Room (k + 1) X.A) (hb : Binds X.K fd ps []) (hx : Passes CX X E)
    (I : Inv X pins σ H s) (r : Vals vs us) (h : sp vs H Q E) : wpAny (model X.prog X.w) X.A.in1 (call (.ref f) us) (EP X pins σ Q) X.xe s := by
  have hl : us.length = ps.length := by rw [← r.length]; exact F.len _ _ _ _ h
  have hb' := hb s us I.kIn (by rw [List.append_nil]; exact hl)
  rw [List.append_nil] at hb'
  refine wpAny_call (codeAny_mono (F.run X.A.in1 X.stack s H ⟨us, []⟩ us vs Q E hr.in1 I.env0.in1 hb' r h) fun r s' hq => ?_)
  cases r with
  | error e => exact hx pins σ H s e s' I hq
  | ok fl =>
    cases fl with
    | ret u => exact I.after hq
    | next => exact False.elim hq
    | brk => exact False.elim hq
    | cont => exact False.elim hq
theorem ins_inst {pins : List (Addr × Obj)} {σ : L2.St} {H : Hp} {s : Shared} {a dx : Addr} {fs : List (Str × V)} (I : Inv X pins σ H s) (h : H a = some (.ins C dx fs)) : ∃ ox od, PySem.W.InstAt s.heap a ox C od ∧ ox.data = .plain := by
  obtain ⟨mA, O, _⟩ := ins_get I.hok h
  obtain ⟨od, J, _⟩ := O.look
  exact ⟨_, _, J, rfl⟩
/-- len(o) by an own __len__ -/
def rLenO (C : Addr) (sp : Sp) (E : XK) : List V → Hp → VK → Prop := fun xs H Q => ∃ a dx fs, xs = [.ref a] ∧ H a = some (.ins C dx fs) ∧ sp [.ref a] H (fun v H2 => ∃ n : Int, v = .int n ∧ (0 ≤ n ∧ n < 2 ^ 63) ∧ Q (.int n) H2) E
theorem call_lenO (c : Spc X.K C "__len__" f) (F : FnOk X.prog X.w X.K X.mg X.base CX k f fd ps sp) (hr : Room (k + 1) X.A) (hb : Binds X.K fd ps []) (hx : Passes CX X E) : CallR X (.builtin "len") (rLenO C sp E) := by
  intro pins s σ H xs us Q I r h
  obtain ⟨a, dx, fs, rfl, ha, q⟩ := h
  rw [Vals.ref1 r]
  obtain ⟨ox, od, J, _⟩ := ins_inst I ha
  obtain ⟨m, Fr⟩ := I.fr
  refine PySem.W.len_K Fr I.ok.mod.kin J c.at_ c.fn (wpAny_mono (run_fn1 (us := [.ref a]) (vs := [.ref a]) F hr hb hx I (.cons rfl .nil) q) (fun v s' z => ?_) fun _ _ z => z)
  obtain ⟨v0, H2, I2, rv, n, e, hn, q2⟩ := z
  subst e
  obtain ⟨tk, rfl⟩ := rv
  exact ⟨hn, .int n, H2, I2.tok _, ⟨_, rfl⟩, q2⟩
/-- o[i] = v by an own __setitem__ -/
def rSetO (C : Addr) (sp : Sp) (E : XK) : V → V → V → Hp → (Hp → Prop) → Prop := fun o i v H Q => ∃ a dx fs, o = .ref a ∧ H a = some (.ins C dx fs) ∧ sp [.ref a, i, v] H (fun _ H2 => Q H2) E
theorem set_own (c : Spc X.K C "__setitem__" f) (hq : PySem.W.noSeq X.K C = true) (F : FnOk X.prog X.w X.K X.mg X.base CX k f fd ps sp) (hr : Room k X.A) (hb : Binds X.K fd ps []) (hx : Passes CX X E) : PSet X (rSetO C sp E) := by
  intro pins s σ H o i v ov iv u Q I ro ri rv h
  obtain ⟨a, dx, fs, rfl, ha, q⟩ := h
  cases ro
  obtain ⟨ox, od, J, _⟩ := ins_inst I ha
  obtain ⟨m, Fr⟩ := I.fr
  refine PySem.W.ksp_setItem Fr I.ok.mod.kin J hq c.at_ c.fn ?_
  refine wpAny_mono (run_fn (us := [.ref a, iv, u]) (vs := [.ref a, i, v]) (dvs := []) F hr hb .nil hx I (.cons rfl (.cons ri (.cons rv .nil))) q) (fun v s' z => ?_) fun _ _ z => z
  obtain ⟨v0, H2, I2, _, q2⟩ := z
  exact ⟨H2, I2, q2⟩
/-- C(*y), C a class of the module -/
def tMkS (K : PySem.W.Frag) (C : Addr) (sp : Sp) (E : XK) (te : TE) : TE := fun σ H Q => te σ H fun y H1 => ∃ a xs, y = V.ref a ∧ (SqT K H1 a xs ∨ SqL K H1 a xs) ∧ ∀ x dx, H1 x = none → H1 dx = none → dx ≠ x →
  sp (V.ref x :: xs) (upd (upd H1 dx (.own x)) x (.ins C dx [])) (fun v H2 => v = .non ∧ Q (.ref x) H2) E
theorem pe_mkS (M : Mk X.K C f) (F : FnR X.prog X.w X.K X.mg X.base CX k f sp) (hr : Room (k + 1) X.A) (hg : Gl X x) (hm : X.mg x = some (.ref C)) (hx : Passes CX X E) (he : PE X e te) (hd : (x == ("__debug__" : Str)) = false := by decide)
    (hst : starEach [.Starred e sp_] X.env = [(true, eval e X.env)] := by rfl) : PE X (.Call (.Name x p) [.Starred e sp_] [] pos) (tMkS X.K C sp E te) := by
  refine ⟨fun pins s σ H Q I h => ?_⟩
  refine wpAny_Call_Name_kw (ld_glob I hg hm ?_ hd)
  refine PySem.W.callWith_S (h₀ := X.base) I.ok.mod.kin M.kp (thn (he.run pins s σ H _ I h) fun v s1 ⟨y, H1, I1, ry, a, xs, ey, hxs, q⟩ => ?_) hst
  subst ey
  obtain rfl : v = Value.ref a := ry
  exact StX.star_any I1 hxs fun us s2 I2 rv => ⟨I2.kIn, StX.run_makeR M F hr hx I2 rv q⟩
/-- c(*y), c a local name that holds the class -/
theorem pe_mkSL (M : Mk X.K C f) (F : FnR X.prog X.w X.K X.mg X.base CX k f sp) (hr : Room (k + 1) X.A) (hN : X.N[i]? = some x) (hv : Vis X.env.scope x) (hx : Passes CX X E) (he : PE X e te) (hdb : (x == ("__debug__" : Str)) = false := by decide)
    (hcd : (x == ("__classdict__" : Str)) = false := by decide) (hst : starEach [.Starred e sp_] X.env = [(true, eval e X.env)] := by rfl) :
    PE X (.Call (.Name x p) [.Starred e sp_] [] pos) (fun σ H Q => σ[i]? = some (some (.ref C)) ∧ tMkS X.K C sp E te σ H Q) := by
  refine ⟨fun pins s σ H Q I h => ?_⟩
  obtain ⟨hs, h⟩ := h
  refine wpAny_Call_Name_kw (thn ((pe_var (pos := p) hN hv hdb hcd).run pins s σ H (fun v H1 => v = .ref C ∧ H1 = H) I ⟨.ref C, hs, rfl, rfl⟩) fun u s0 ⟨v, H0, I0, r0, q0⟩ => ?_)
  obtain ⟨rfl, rfl⟩ := q0
  cases r0
  refine PySem.W.callWith_S (h₀ := X.base) I.ok.mod.kin M.kp (thn (he.run pins s0 σ _ _ I0 h) fun v s1 ⟨y, H1, I1, ry, a, xs, ey, hxs, q⟩ => ?_) hst
  subst ey
  obtain rfl : v = Value.ref a := ry
  exact StX.star_any I1 hxs fun us s2 I2 rv => ⟨I2.kIn, StX.run_makeR M F hr hx I2 rv q⟩
/-- C(), by a positional promise -/
theorem pe_mkR0 (M : Mk X.K C f) (F : FnR X.prog X.w X.K X.mg X.base CX k f sp) (hr : Room (k + 1) X.A) (hg : Gl X x) (hm : X.mg x = some (.ref C)) (hx : Passes CX X E) (hdb : (x == ("__debug__" : Str)) = false := by decide) :
    PE X (.Call (.Name x p) [] [] pos) (StX.tMakeR C sp E tNil) := by
  refine ⟨fun pins s σ H Q I h => ?_⟩
  refine wpAny_Call_Name_kw (ld_glob I hg hm ?_ hdb)
  exact PySem.W.callWith_K0 I.kIn M.kp (StX.run_makeR (us := []) M F hr hx I .nil h)
/-- o.m() by a positional promise -/
theorem pe_methR0 {pl : Sem Bool} (he : PE X o ta) (c : Cls X.K C) (hm : Meth X.K C m f) (F : FnR X.prog X.w X.K X.mg X.base CX k f sp) (hr : Room k X.A) (hx : Passes CX X E)
    (ht : eval (.Call (.Attribute o m apos) [] [] pos) X.env = (do
      let ov ← eval o X.env
      standAt apos.atName
      let (f, first) ← holding [ov] (getMethod ov m pl)
      callWith pos f first (backTo pos (starEach [] X.env)) (backToKw pos (keywordEach [] X.env))) := by rfl) :
    PE X (.Call (.Attribute o m apos) [] [] pos) (tMethR C m sp E ta tNil) := by
  refine ⟨fun pins s σ H Q I h => ?_⟩
  refine PySem.W.methodCall_KW (pl := pl) (thn (he.run pins s σ H _ I h) fun u s1 ⟨x, H1, I1, rx, a, dx, fs, ex, ea, l, q⟩ => ?_) ht
  subst ex
  obtain rfl : u = Value.ref a := rx
  refine getmeth_ok I1 ea c hm l ?_
  exact PySem.W.callWith_K0 (first := [.ref a]) I1.kIn hm.kp (wpAny_call (run_fnR (us := [.ref a]) (vs := [.ref a]) F hr hx I1 (.cons rfl .nil) q))
end
end Cs

set_option Elab.async false
set_option linter.all false
set_option maxRecDepth 100000
set_option maxHeartbeats 4000000
/-! Operators of an own class: + - * & | ^ and the like, unary minus, abs, comparisons, op=, o[i]. -/
namespace Cs
open PySem PySem.Spec PyProof.Rows L2
/-- no value of the layer is NotImplemented -/
theorem back_of {X : Cx} {pins : List (Addr × Obj)} {σ : L2.St} {Q : VK} {u : Value} {s : Shared} (h : EP X pins σ Q u s) : PySem.W.CmpBack (EP X pins σ Q) u s := by
  obtain ⟨v, H', I, r, q⟩ := id h
  cases u <;> first | exact h | (cases v <;> first | (obtain ⟨_, z⟩ := r; cases z; done) | (exact absurd r (by intro z; cases z)))
section
variable {X : Cx} {CX : CXT} {k i : Nat} {f C g : Addr} {fd : FuncData} {ps : List Str} {sp : Sp} {E : XK} {a b : Expr} {ta tb : TE} {pos : Pos} {op : Operator}
/-- the class comes first in its own order -/
structure OpC (K : PySem.W.Frag) (C : Addr) (m : Str) (f : Addr) : Prop where
  sf : PySem.W.selfFirst K C = true
  at_ : PySem.W.findIn K (.ref C) m = some (some (.ref f))
  fn : PySem.W.isFn K (.ref f) = true
/-- x op y, both of the class -/
def rBinO (C : Addr) (sp : Sp) (E : XK) : R2 := fun x y H Q => ∃ p q dp dq fp fq, x = .ref p ∧ y = .ref q ∧ H p = some (.ins C dp fp) ∧ H q = some (.ins C dq fq) ∧ sp [.ref p, .ref q] H Q E
theorem op_own (c : OpC X.K C (PySem.dunder op.info.2) f) (F : FnOk X.prog X.w X.K X.mg X.base CX k f fd ps sp) (hr : Room k X.A) (hb : Binds X.K fd ps []) (hx : Passes CX X E) : OpR X (binaryOp op) (rBinO C sp E) := by
  intro pins s σ H x y v u Q I rx ry h
  obtain ⟨p, q, dp, dq, fp, fq, rfl, rfl, hp, hq, k⟩ := h
  cases rx
  cases ry
  obtain ⟨ox, od, J, _⟩ := ins_inst I hp
  obtain ⟨oy, oe, J2, _⟩ := ins_inst I hq
  obtain ⟨m, Fr⟩ := I.fr
  refine PySem.W.binop_K Fr I.ok.mod.kin J J2.type c.sf c.at_ c.fn ?_
  exact wpAny_mono (run_fn (us := [.ref p, .ref q]) (vs := [.ref p, .ref q]) (dvs := []) F hr hb .nil hx I (.cons rfl (.cons rfl .nil)) k) (fun v s' z => back_of z) fun _ _ z => z
/-- x op n, x of the class, n an int -/
def rBinI (C : Addr) (sp : Sp) (E : XK) : R2 := fun x y H Q => ∃ p dp fp n, x = .ref p ∧ y = .int n ∧ H p = some (.ins C dp fp) ∧ sp [.ref p, .int n] H Q E
structure OpT (K : PySem.W.Frag) (C : Addr) (nm : String) (f g : Addr) : Prop where
  sf : PySem.W.selfFirst K C = true
  at_ : PySem.W.findIn K (.ref C) (PySem.dunder nm) = some (some (.ref f))
  fn : PySem.W.isFn K (.ref f) = true
  rat : PySem.W.findIn K (.ref C) (dunderR nm) = some (some (.ref g))
  rfn : PySem.W.isFn K (.ref g) = true
  sub : PySem.W.subIn K (.type "int") (.ref C) = some false
  sub2 : PySem.W.subIn K (.ref C) (.type "int") = some false
theorem op_ownI {fo ro : Option Value} (c : OpT X.K C op.info.2 f g) (h1 : PySem.W.findIn X.K (.type "int") (PySem.dunder op.info.2) = some fo) (h2 : PySem.W.findIn X.K (.type "int") (dunderR op.info.2) = some ro)
    (F : FnOk X.prog X.w X.K X.mg X.base CX k f fd ps sp) (hr : Room k X.A) (hb : Binds X.K fd ps []) (hx : Passes CX X E) : OpR X (binaryOp op) (rBinI C sp E) := by
  intro pins s σ H x y v u Q I rx ry h
  obtain ⟨p, dp, fp, n, rfl, rfl, hp, k⟩ := h
  cases rx
  obtain ⟨t, rfl⟩ := ry
  obtain ⟨ox, od, J, _⟩ := ins_inst I hp
  obtain ⟨m, Fr⟩ := I.fr
  refine PySem.W.ksp_binT (T := "int") (b := .int n t) Fr I.ok.mod.kin J rfl c.sf c.at_ c.fn c.rat (.inr ⟨g, rfl⟩) h1 h2 c.sub ?_
  exact wpAny_mono (run_fn (us := [.ref p, .int n t]) (vs := [.ref p, .int n]) (dvs := []) F hr hb .nil hx I (.cons rfl (.cons ⟨t, rfl⟩ .nil)) k) (fun v s' z => back_of z) fun _ _ z => z
/-- int.__mul__ of an object that is no int -/
theorem mul_other {prog : Program} {w : World} {A : Around} {E : Value → Shared → Prop} {s : Shared} {x : Addr} {o : Obj} {n : Int} {t : Tok} {Q : Option Value → Shared → Prop} (ho : s.heap.get? x = some o) (hd : o.data = .plain) (h : Q none s) :
    wpAny (model prog w) A (tryMethod (.int n t) (PySem.dunder "mul") (.ref x)) Q E s := by
  unfold tryMethod
  refine wpAny_bind (PySem.wpAny_callSpecial?_slot (typeIs_int s n t) PySem.F.slot_int_mul (wpAny_call_entry PySem.F.slot_int_mul (typeIs_int s n t) PySem.F.entry_int_mul ?_ (PySem.F.args_int_mul_2 _ _)))
  unfold Builtin.«int.__mul__»
  obtain ⟨hp, gg, d, tk, os⟩ := s
  obtain ⟨cls, dict, data, slots⟩ := o
  subst hd
  have ho1 := ho
  wp_walk using wpAny_load ho1
  exact ⟨_, rfl, wpAny_pure h⟩
/-- n * x, x of the class: by its own __rmul__ -/
theorem mul_right {prog : Program} {w : World} {A : Around} {E : Value → Shared → Prop} {s : Shared} {K : PySem.W.Frag} {x : Addr} {ox : Obj} {od : Option Obj} {n : Int} {t : Tok} {Q : Value → Shared → Prop} {ro : Option Value} (X : K.In s.heap) (I : PySem.W.InstAt s.heap x ox C od) (hd : ox.data = .plain)
    (hx : s.heap.get? x = some ox) (c : OpT K C "mul" f g) (h1 : PySem.W.findIn K (.type "int") (PySem.dunder "mul") = some (some (.builtin "int.__mul__"))) (h2 : PySem.W.findIn K (.type "int") (dunderR "mul") = some ro)
    (h : wpAny (model prog w) A (call (.ref g) [.ref x, .int n t]) (PySem.W.CmpBack Q) E s) : wpAny (model prog w) A (binaryOp .Mult (.int n t) (.ref x)) Q E s := by
  obtain ⟨cd, rest, hcd, hm⟩ := PySem.W.ksp_first c.sf
  have one := PySem.W.ksp_try X I c.rat c.rfn h
  have oth := fun Q' (q : Q' none s) => mul_other (prog := prog) (w := w) (A := A) (E := E) (n := n) (t := t) (Q := Q') hx hd q
  have L1 : PySem.W.Looks (model prog w) s.heap (typeOf (.int n t)) (.type "int") := PySem.W.Looks.of_pure rfl
  have L2 : PySem.W.Looks (model prog w) s.heap (typeOf (.ref x)) (.ref C) := I.type
  have L3 : PySem.W.Looks (model prog w) s.heap (fillsNumberSlot (.type "int") "mul") true := by
    have := PySem.W.ksp_fillsT (M := model prog w) X h1 h2
    exact this
  have L4 : PySem.W.Looks (model prog w) s.heap (fillsNumberSlot (.ref C) "mul") true := PySem.W.fills_K X hcd hm c.at_
  have L5 : PySem.W.Looks (model prog w) s.heap (isSubtype (.ref C) (.type "int")) false := PySem.W.looks_subIn X c.sub2
  have L6 : PySem.W.Looks (model prog w) s.heap (numberSlotInPython (.type "int") "mul") false := PySem.W.Looks.of_pure rfl
  have hne : (Value.type "int" == Value.ref C) = false := Bool.eq_false_iff.mpr fun q => by cases beq_iff_eq.mp q
  have hi : Operator.Mult.info.2 = "mul" := rfl
  simp only [binaryOp]
  refine wpAny_holding (wpAny_bind ?_)
  rw [hi]
  unfold binaryOp1
  refine wpAny_bind (L1.here (wpAny_bind (L2.here (wpAny_bind (L3.here ?_)))))
  simp only [hne, Bool.false_eq_true, if_false]
  refine wpAny_bind (L4.here ?_)
  simp only [Bool.and_self, if_true, Bool.true_and, Bool.not_false]
  refine wpAny_bind (L5.here ?_)
  simp only [Bool.false_eq_true, if_false, Bool.not_false, if_true]
  refine wpAny_bind (L6.here ?_)
  simp only [Bool.false_eq_true, if_false]
  refine wpAny_bind (oth _ ?_)
  dsimp only
  refine wpAny_bind (wpAny_mono one (fun r s' z => ?_) fun _ _ e => e)
  obtain ⟨v, rfl, hq⟩ := z
  exact wpAny_bind (wpAny_rule (wpAny_pure (wpAny_pure hq)))
end
end Cs

set_option Elab.async false
set_option linter.all false
set_option maxRecDepth 100000
set_option maxHeartbeats 4000000
namespace Cs
open PySem PySem.Spec PyProof.Rows L2
section
variable {X : Cx} {CX : CXT} {k i : Nat} {f C g : Addr} {fd : FuncData} {ps : List Str} {sp : Sp} {E : XK} {a b : Expr} {ta tb : TE} {pos : Pos} {op : Operator}
theorem ins_obj {pins : List (Addr × Obj)} {σ : L2.St} {H : Hp} {s : Shared} {p dx : Addr} {fs : List (Str × V)} (I : Inv X pins σ H s) (h : H p = some (.ins C dx fs)) : ∃ ox od, PySem.W.InstAt s.heap p ox C od ∧ ox.data = .plain ∧ s.heap.get? p = some ox := by
  obtain ⟨mA, O, _⟩ := ins_get I.hok h
  obtain ⟨od, J, _⟩ := O.look
  exact ⟨_, _, J, rfl, J.at_⟩
/-- n * x -/
def rMulR (C : Addr) (sp : Sp) (E : XK) : R2 := fun x y H Q => ∃ p dp fp n, x = .int n ∧ y = .ref p ∧ H p = some (.ins C dp fp) ∧ sp [.ref p, .int n] H Q E
theorem op_mulR {ro : Option Value} (c : OpT X.K C "mul" f g) (h1 : PySem.W.findIn X.K (.type "int") (PySem.dunder "mul") = some (some (.builtin "int.__mul__"))) (h2 : PySem.W.findIn X.K (.type "int") (dunderR "mul") = some ro)
    (F : FnOk X.prog X.w X.K X.mg X.base CX k g fd ps sp) (hr : Room k X.A) (hb : Binds X.K fd ps []) (hx : Passes CX X E) : OpR X (binaryOp .Mult) (rMulR C sp E) := by
  intro pins s σ H x y v u Q I rx ry h
  obtain ⟨p, dp, fp, n, rfl, rfl, hp, k⟩ := h
  cases ry
  obtain ⟨t, rfl⟩ := rx
  obtain ⟨ox, od, J, hd, hg⟩ := ins_obj I hp
  refine mul_right I.kIn J hd hg c h1 h2 ?_
  exact wpAny_mono (run_fn (us := [.ref p, .int n t]) (vs := [.ref p, .int n]) (dvs := []) F hr hb .nil hx I (.cons rfl (.cons ⟨t, rfl⟩ .nil)) k) (fun v s' z => back_of z) fun _ _ z => z
/-- -x -/
def rNegO (C : Addr) (sp : Sp) (E : XK) : V → Hp → VK → Prop := fun x H Q => ∃ p dp fp, x = .ref p ∧ H p = some (.ins C dp fp) ∧ sp [.ref p] H Q E
theorem un_negO (c : Spc X.K C "__neg__" f) (F : FnOk X.prog X.w X.K X.mg X.base CX k f fd ps sp) (hr : Room k X.A) (hb : Binds X.K fd ps []) (hx : Passes CX X E) : UnR X (unaryOp .USub) (rNegO C sp E) := by
  intro pins s σ H x v Q I rx h
  obtain ⟨p, dp, fp, rfl, hp, k⟩ := h
  cases rx
  obtain ⟨ox, od, J, _⟩ := ins_inst I hp
  obtain ⟨m, Fr⟩ := I.fr
  exact PySem.W.ksp_neg Fr I.ok.mod.kin J c.at_ c.fn (run_fn (us := [.ref p]) (vs := [.ref p]) (dvs := []) F hr hb .nil hx I (.cons rfl .nil) k)
/-- abs(x) -/
def rAbsO (C : Addr) (sp : Sp) (E : XK) : List V → Hp → VK → Prop := fun xs H Q => ∃ p dp fp, xs = [.ref p] ∧ H p = some (.ins C dp fp) ∧ sp [.ref p] H Q E
theorem call_absO (c : Spc X.K C "__abs__" f) (F : FnOk X.prog X.w X.K X.mg X.base CX k f fd ps sp) (hr : Room (k + 1) X.A) (hb : Binds X.K fd ps []) (hx : Passes CX X E) : CallR X (.builtin "abs") (rAbsO C sp E) := by
  intro pins s σ H xs us Q I r h
  obtain ⟨p, dp, fp, rfl, hp, q⟩ := h
  rw [Vals.ref1 r]
  obtain ⟨ox, od, J, _⟩ := ins_inst I hp
  refine Calls.call_function_entry kind_abs plain_abs entry_abs (args_abs _) ?_
  unfold Builtin.«abs»
  refine wpAny_bind (m := oneArg "abs" _) (wpAny_pure ?_)
  refine wpAny_bind (m := callSpecial? (.ref p) (Str.ofString "__abs__")) (PySem.W.special_fn I.kIn J c.at_ (beq_iff_eq.mp c.fn) (wpAny_mono (run_fn1 (us := [.ref p]) (vs := [.ref p]) F hr hb hx I (.cons rfl .nil) q) (fun v s' z => ?_) fun _ _ z => z))
  exact wpAny_pure ⟨_, rfl, z⟩
/-- x op= y -/
theorem ip_own (c : OpC X.K C (dunderI op.info.2) f) (F : FnOk X.prog X.w X.K X.mg X.base CX k f fd ps sp) (hr : Room k X.A) (hb : Binds X.K fd ps []) (hx : Passes CX X E) : PIp X op (fun x y H Q => ∃ p dp fp, x = .ref p ∧ H p = some (.ins C dp fp) ∧ sp [.ref p, y] H Q E) := by
  intro pins s σ H x y v u Q I rx ry h
  obtain ⟨p, dp, fp, rfl, hp, k⟩ := h
  cases rx
  obtain ⟨ox, od, J, _⟩ := ins_inst I hp
  obtain ⟨m, Fr⟩ := I.fr
  refine PySem.W.ksp_inplace Fr I.ok.mod.kin J c.sf c.at_ c.fn ?_
  exact wpAny_mono (run_fn (us := [.ref p, u]) (vs := [.ref p, y]) (dvs := []) F hr hb .nil hx I (.cons rfl (.cons ry .nil)) k) (fun v s' z => back_of z) fun _ _ z => z
/-- x[y] by an own __getitem__ -/
def rIxO (C : Addr) (sp : Sp) (E : XK) : R2 := fun x y H Q => ∃ p dp fp, x = .ref p ∧ H p = some (.ins C dp fp) ∧ sp [.ref p, y] H Q E
theorem pe_ixO (c : Spc X.K C "__getitem__" f) (hf : PySem.W.fnIn X.K f = true) (F : FnOk X.prog X.w X.K X.mg X.base CX k f fd ps sp) (hr : Room (k + 1) X.A) (hb : Binds X.K fd ps []) (hx : Passes CX X E) (ha : PE X a ta) (hi : PE X b tb)
    (hsl : ∀ o i, subscripted b true (.ref o) i = runValue (.builtin "lifetime.subscript" ⟨[.ref o, i], []⟩) := by intro _ _; rfl) : PE X (.Subscript a b pos) (tOp (rIxO C sp E) ta tb) := by
  refine ⟨fun pins s σ H Q I h => ?_⟩
  refine Subscript_ (binT ha hi I h fun v u s2 x y H2 I2 rx ry q => ?_)
  obtain ⟨p, dp, fp, rfl, hp, q⟩ := q
  cases rx
  obtain ⟨ox, od, J, _⟩ := ins_inst I2 hp
  obtain ⟨m, Fr⟩ := I2.fr
  exact PySem.W.sub_K Fr I2.ok.mod.kin J c.at_ hf c.fn (run_fn1 (us := [.ref p, u]) (vs := [.ref p, y]) F hr hb hx I2 (.cons rfl (.cons ry .nil)) q) (hsl _ _)
end
end Cs

set_option Elab.async false
set_option linter.all false
set_option maxRecDepth 100000
set_option maxHeartbeats 4000000
/-! The law's draws: a source is a list of the script's cells and three numbers. -/
namespace Cs
open PySem L2
/-- the builtins and helper defs that are reached, by what the module's names hold -/
structure Bi (mg : Str → Option Value) : Prop where
  len : mg "len" = none
  int : mg "int" = none
  abs : mg "abs" = none
  list : mg "list" = none
  range : mg "range" = none
  sorted : mg "sorted" = none
  str : mg "str" = none
  isinstance : mg "isinstance" = none
  sum : mg "sum" = none
  tuple : mg "tuple" = none
  dict : mg "dict" = none
  all : mg "all" = none
  bool : mg "bool" = none
  enumerate : mg "enumerate" = none
/-- all but what stands at p is as it was -/
def Kp (p : Addr) (H H' : Hp) : Prop := ∀ b o, H b = some o → b ≠ p → H' b = some o
theorem Kp.refl (p : Addr) (H : Hp) : Kp p H H := fun _ _ h _ => h
theorem Kp.trans {p : Addr} {H H1 H2 : Hp} (a : Kp p H H1) (b : Kp p H1 H2) : Kp p H H2 := fun c o h n => b c o (a c o h n) n
theorem Kp.of {p : Addr} {H H1 : Hp} (a : Same H H1) : Kp p H H1 := fun c o h _ => a c o h
theorem Kp.upd {p : Addr} {H : Hp} {o : HO} : Kp p H (upd H p o) := fun c u h n => by rw [upd_ne n]; exact h
theorem Kp.seq {K : PySem.W.Frag} {p a : Addr} {H H' : Hp} {xs : List V} (k : Kp p H H') (h : SqL K H a xs) (n : a ≠ p) : SqL K H' a xs := by
  rcases h with (h | ⟨o, h⟩) | h
  · exact .inl (.inl (k _ _ h n))
  · exact .inl (.inr ⟨o, k _ _ h n⟩)
  · exact .inr h
theorem Same.new {H : Hp} {p : Addr} {o : HO} (h : H p = none) : Same H (L2.upd H p o) := fun b u e => by
  rw [upd_ne (ne_of_none e h)]
  exact e
/-- a source of draws at p, its cells at c -/
def Src (H : Hp) (p c : Addr) : Prop := ∃ (ns : List Int) (i l n : Int), H p = some (.lst [.ref c, .int i, .int l, .int n]) ∧ H c = some (.lst (ns.map V.int)) ∧ c ≠ p ∧ 0 ≤ i ∧ 0 ≤ l
theorem Src.keep {H H' : Hp} {p c : Addr} (h : Src H p c) (s : ∀ b o, (b = p ∨ b = c) → H b = some o → H' b = some o) : Src H' p c := by
  obtain ⟨ns, i, l, n, a, b, r⟩ := h
  exact ⟨ns, i, l, n, s _ _ (.inl rfl) a, s _ _ (.inr rfl) b, r⟩
theorem Src.same {H H' : Hp} {p c : Addr} (s : Same H H') (h : Src H p c) : Src H' p c := h.keep fun b o _ e => s b o e
theorem Src.at_p {H : Hp} {p c : Addr} (h : Src H p c) : ∃ xs, H p = some (.lst xs) := by
  obtain ⟨ns, i, l, n, a, _⟩ := h
  exact ⟨_, a⟩
theorem Src.at_c {H : Hp} {p c : Addr} (h : Src H p c) : ∃ xs, H c = some (.lst xs) := by
  obtain ⟨ns, i, l, n, a, b, _⟩ := h
  exact ⟨_, b⟩
theorem Src.new_p {H : Hp} {p c q : Addr} (h : Src H p c) (n : H q = none) : q ≠ p := by
  obtain ⟨xs, e⟩ := h.at_p
  exact (ne_of_none e n).symm
theorem Src.new_c {H : Hp} {p c q : Addr} (h : Src H p c) (n : H q = none) : q ≠ c := by
  obtain ⟨xs, e⟩ := h.at_c
  exact (ne_of_none e n).symm
theorem Src.tup_p {H : Hp} {p c t : Addr} {xs : List V} (h : Src H p c) (e : H t = some (.tup xs)) : t ≠ p := by
  obtain ⟨ys, a⟩ := h.at_p
  rintro rfl
  rw [e] at a
  cases a
theorem atI0 {α : Type} {a b c d : α} : atI [a, b, c, d] 0 = some a := rfl
theorem atI1 {α : Type} {a b c d : α} : atI [a, b, c, d] 1 = some b := rfl
theorem atI2 {α : Type} {a b c d : α} : atI [a, b, c, d] 2 = some c := rfl
theorem atI3 {α : Type} {a b c d : α} : atI [a, b, c, d] 3 = some d := rfl

def spMixed : Sp := fun vs H Q _ => ∃ c n : Int, vs = [.int c, .int n] ∧ ∀ v : Int, Q (.int v) H
def spDraw : Sp := fun vs H Q _ => ∃ (p c : Addr) (n : Int), vs = [.ref p, .int n] ∧ Src H p c ∧ 0 < n ∧ n < 1329227995784915872903807060280344576 ∧ ∀ (v : Int) (H' : Hp), 0 ≤ v → v < n → Src H' p c → Kp p H H' → Q (.int v) H'
def spSource (K : PySem.W.Frag) : Sp := fun vs H Q _ => ∃ (a : Addr) (ns : List Int), vs = [.ref a] ∧ SqL K H a (ns.map V.int) ∧ ∀ (p c : Addr) (H' : Hp), H p = none → H c = none → Same H H' → Src H' p c → Q (.ref p) H'

section
variable {P : Program} {w : World} {K : PySem.W.Frag} {mg : Str → Option Value} {base : Heap}
theorem ok_mixed {f : Addr} {fd : FuncData} (F : Fun K "_law_mixed" "_law_mixed" s_l_mixed f fd) (g : Bi mg) : FnOk P w K mg base CX0 1 f fd ["_law_cell", "_law_count"] spMixed := by
  refine F.ok sc_l_mixed (fun vs H Q E h => ?_) (fun cdv A outer s H vs Q E hr h => ?_)
  · obtain ⟨_, _, rfl, _⟩ := h
    rfl
  · obtain ⟨c, n, rfl, k⟩ := h
    refine ⟨_, (pss_cons (ps_if (pt_cmpR op_eq (pv 0) pe_int (nomark _)) (pss_one (ps_ret pe_int)) pss_nil)
      (pss_cons (ps_set (i := 2) sc_l_mixed.nd rfl (Or.inl rfl) (pe_op op_mod (pe_callTy call_int1 (by rfl) g.int (by decide +kernel) (pa_cons (pe_op op_add (pe_op op_mul (pv 0) pe_int) (pe_op op_mul (pv 1) pe_int)) pa_nil)) pe_int))
      (pss_one (ps_ret (pe_op op_fdiv (pe_op op_mod (pe_callTy call_int1 (by rfl) g.int (by decide +kernel) (pa_cons (pe_op op_add (pe_op op_add (pe_op op_mul (pv 2) pe_int) (pe_op op_mul (pe_op op_fdiv (pv 2) pe_int) (pv 1))) pe_int) pa_nil)) pe_int) pe_int))))), ?_⟩
    refine ⟨_, rfl, rfl, _, rfl, ite2 (fun _ => k _) (fun _ => ?_)⟩
    refine ⟨_, rfl, _, _, rfl, rfl, .inr ⟨by decide, by decide⟩, _, rfl, _, _, rfl, rfl, .inr ⟨by decide, by decide⟩, _, _, rfl, rfl, Or.inl ⟨_, rfl, _, _, rfl, rfl, (by show (0 : Int) < 2147483647; decide), ?_⟩⟩
    generalize hf : (c * 48271 + n * 69621) % 2147483647 = a
    have h0 : 0 ≤ a := by rw [← hf]; exact Int.emod_nonneg _ (by decide)
    have h1 : a < 2147483647 := by rw [← hf]; exact Int.emod_lt_of_pos _ (by decide)
    refine ⟨_, rfl, _, _, rfl, rfl, .inr ⟨by decide, by decide⟩, _, rfl, _, _, rfl, rfl, ⟨by decide, by decide⟩, _, rfl, _, _, rfl, rfl, .inl ⟨by omega, by omega⟩, _, _, rfl, rfl, _, _, rfl, rfl, Or.inl ⟨_, rfl, _, _, rfl, rfl, (by show (0 : Int) < 2147483399; decide), _, _, rfl, rfl, ⟨by decide, by decide⟩, k _⟩⟩
theorem ok_source {f : Addr} {fd : FuncData} (F : Fun K "_law_source" "_law_source" s_l_source f fd) (g : Bi mg) : FnOk P w K mg base CX0 1 f fd ["_law_script"] (spSource K) := by
  refine F.ok sc_l_source (fun vs H Q E h => ?_) (fun cdv A outer s H vs Q E hr h => ?_)
  · obtain ⟨_, _, rfl, _⟩ := h
    rfl
  · obtain ⟨a, ns, rfl, hS, k⟩ := h
    refine ⟨_, (pss_one (ps_ret (pe_lst (pa_cons (pe_callTy call_list_of (by rfl) g.list (by decide +kernel) (pa_cons (pe_slice sl_list (pv 0) po_none (po_some pe_int)) pa_nil)) (pa_cons pe_int (pa_cons pe_int (pa_cons pe_int pa_nil))))))), ?_⟩
    refine ⟨_, rfl, _, rfl, a, _, rfl, hS, fun q hq => ⟨q, _, rfl, .inl (SqL.of upd_same), fun c hc => ⟨by show 4 ≤ sizeLine; decide, fun p hp => ?_⟩⟩⟩
    have s1 : Same H (upd H q (.lst (cutV (ns.map V.int) none (some 63)))) := Same.new hq
    have s2 := s1.trans (Same.new (o := .lst (cutV (ns.map V.int) none (some 63))) hc)
    have s3 := s2.trans (Same.new (o := .lst [.ref c, .int 0, .int 0, .int 0]) hp)
    have ncp : c ≠ p := ne_of_none (H := upd _ c _) upd_same hp
    obtain ⟨ms, em⟩ : ∃ ms : List Int, cutV (ns.map V.int) none (some 63) = ms.map V.int := by
      unfold cutV
      rw [← List.map_drop, ← List.map_take]
      exact ⟨_, rfl⟩
    refine k p c _ (s2.free hp) (s1.free hc) s3 ⟨ms, 0, 0, 0, upd_same, ?_, ncp, by decide, by decide⟩
    rw [upd_ne ncp, upd_same, em]
theorem ok_draw {f fM : Addr} {fd fdM : FuncData} (F : Fun K "_law_draw" "_law_draw" s_l_draw f fd) (g : Bi mg) (FM : Fun K "_law_mixed" "_law_mixed" s_l_mixed fM fdM) (mM : mg "_law_mixed" = some (.ref fM)) (bM : Binds K fdM ["_law_cell", "_law_count"] []) :
    FnOk P w K mg base CX0 2 f fd ["_law_source_here", "_law_size"] spDraw := by
  have GM : FnOk P w K mg base CX0 1 fM fdM ["_law_cell", "_law_count"] spMixed := ok_mixed FM g
  refine F.ok sc_l_draw (fun vs H Q E h => ?_) (fun cdv A outer s H vs Q E hr h => ?_)
  · obtain ⟨_, _, _, rfl, _⟩ := h
    rfl
  · obtain ⟨p, c, n, rfl, ⟨ns, i, l, m, hp, hc, ncp, hi, hl⟩, n0, n1, k⟩ := h
    have hrM : Room 1 _ := hr.mono (by decide)
    refine ⟨_, (pss_cons (ps_asg (pe_op op_add (pe_ix ix_list (pv 0) pe_int (fun _ _ => rfl)) pe_int) (pg_sub (pv 0) pe_int set_list))
      (C8.pss_cut (ps_if (PW.pt (pw_and (pt_cmpR op_eq (pe_ix ix_list (pv 0) pe_int (fun _ _ => rfl)) pe_int (nomark _)) (pw_and1 (pt_cmpR op_gt (pe_callB call_len (by rfl) g.len PySem.boot_len (pa_cons (pe_ix ix_list (pv 0) pe_int (fun _ _ => rfl)) pa_nil)) pe_int (nomark _))))) (pss_cons (ps_set (i := 2) sc_l_draw.nd rfl (Or.inl rfl) (pe_ix ix_list (pv 0) pe_int (fun _ _ => rfl)))
      (pss_cons (ps_set (i := 3) sc_l_draw.nd rfl (Or.inl rfl) (pe_ix ix_list (pe_ix ix_list (pv 0) pe_int (fun _ _ => rfl)) (pe_op op_mod (pe_callTy call_int1 (by rfl) g.int (by decide +kernel) (pa_cons (pv 2) pa_nil)) (pe_callB call_len (by rfl) g.len PySem.boot_len (pa_cons (pe_ix ix_list (pv 0) pe_int (fun _ _ => rfl)) pa_nil))) (fun _ _ => rfl)))
      (pss_cons (ps_asg (pe_op op_add (pv 2) pe_int) (pg_sub (pv 0) pe_int set_list))
      (pss_one (ps_if (PW.pt (pw_and (pt_cmpR op_lt (pv 2) (pe_callB call_len (by rfl) g.len PySem.boot_len (pa_cons (pe_ix ix_list (pv 0) pe_int (fun _ _ => rfl)) pa_nil)) (nomark _)) (pw_and1 (pt_cmpR op_ge (pe_callB call_abs (by rfl) g.abs (by decide +kernel) (pa_cons (pv 3) pa_nil)) (pe_op op_pow pe_int pe_int) (nomark _))))) (pss_one (ps_asg (pe_callB call_abs (by rfl) g.abs (by decide +kernel) (pa_cons (pv 3) pa_nil)) (pg_sub (pv 0) pe_int set_list))) (pss_one (ps_ret (pe_op op_mod (pe_callTy call_int1 (by rfl) g.int (by decide +kernel) (pa_cons (pe_call GM hrM rfl mM FM.kp bM .nil pass0 (pa_cons (pv 3) (pa_cons (pe_ix ix_list (pv 0) pe_int (fun _ _ => rfl)) pa_nil))) pa_nil)) (pv 1))))))))) pss_nil)
      (pss_cons (ps_set (i := 4) sc_l_draw.nd rfl (Or.inl rfl) (pe_op op_mod (pe_callTy call_int1 (by rfl) g.int (by decide +kernel) (pa_cons (pe_ix ix_list (pv 0) pe_int (fun _ _ => rfl)) pa_nil)) (pv 1)))
      (pss_cons (ps_asg (pe_op op_fdivW (pe_ix ix_list (pv 0) pe_int (fun _ _ => rfl)) (pv 1)) (pg_sub (pv 0) pe_int set_list))
      (pss_one (ps_ret (pv 4))))))), ?_⟩
    have c1 : ∀ o, (upd H p o) c = some (.lst (ns.map V.int)) := fun o => by rw [upd_ne ncp]; exact hc
    have q1 : ∀ xs, SqL K (upd H p (.lst xs)) p xs := fun xs => SqL.of upd_same
    have q2 : ∀ o, SqL K (upd H p o) c (ns.map V.int) := fun o => SqL.of (c1 o)
    refine ⟨_, rfl, p, _, _, _, rfl, rfl, SqL.of hp, atI3, _, _, rfl, rfl, _, rfl, p, _, _, 3, rfl, rfl, hp, rfl, ?_⟩
    have e1 : ([V.ref c, .int i, .int l, .int m].set 3 (.int (m + 1))) = [V.ref c, .int i, .int l, .int (m + 1)] := rfl
    rw [e1]
    refine ⟨fun σ' H2 => ∃ x2 x3 x4 j l2, σ' = [some (.ref p), some (.int n), x2, x3, x4] ∧ H2 p = some (.lst [.ref c, .int j, .int l2, .int (m + 1)]) ∧ H2 c = some (.lst (ns.map V.int)) ∧ 0 ≤ j ∧ 0 ≤ l2 ∧ Kp p H H2, ?_, ?_⟩
    · refine ⟨_, rfl, p, _, _, _, rfl, rfl, q1 _, atI2, rfl, _, rfl, ?_⟩
      refine ite2 (fun z => ?_) (fun z => ?_)
      · refine ⟨_, rfl, p, _, _, _, rfl, rfl, q1 _, atI0, _, _, rfl, .inl ⟨_, q2 _, rfl⟩, _, _, rfl, rfl, _, rfl, ?_⟩
        rw [List.length_map]
        refine ite2 (fun z2 => ?_) (fun z2 => ?_)
        · have hlen : 0 < ns.length := by simpa using z2
          refine ⟨_, rfl, p, _, _, _, rfl, rfl, q1 _, atI1, ?_⟩
          have hx0 : 0 ≤ i % (ns.length : Int) := Int.emod_nonneg _ (by omega)
          have hx1 : i % (ns.length : Int) < (ns.length : Int) := Int.emod_lt_of_pos _ (by omega)
          obtain ⟨j, ej⟩ : ∃ j : Nat, i % (ns.length : Int) = (j : Int) := ⟨(i % (ns.length : Int)).toNat, by omega⟩
          have hj : j < ns.length := by omega
          have hat : atI (ns.map V.int) (i % ((ns.map V.int).length : Int)) = some (.int ns[j]) := by
            rw [List.length_map, ej]
            exact atI_nat (by rw [List.getElem?_map, List.getElem?_eq_getElem hj]; rfl)
          refine ⟨_, rfl, p, _, _, _, rfl, rfl, q1 _, atI0, _, rfl, Or.inl ⟨_, rfl, _, rfl, p, _, _, _, rfl, rfl, q1 _, atI0, _, _, rfl, .inl ⟨_, q2 _, rfl⟩, _, _, rfl, rfl, (by rw [List.length_map]; omega), c, _, _, _, rfl, rfl, q2 _, hat, ?_⟩⟩
          refine ⟨_, rfl, _, _, rfl, rfl, _, rfl, p, _, _, 1, rfl, rfl, upd_same, rfl, ?_⟩
          have e2 : ([V.ref c, .int i, .int l, .int (m + 1)].set 1 (.int (i + 1))) = [V.ref c, .int (i + 1), .int l, .int (m + 1)] := rfl
          rw [e2]
          have c2 : ∀ o o', (upd (upd H p o) p o') c = some (.lst (ns.map V.int)) := fun o o' => by rw [upd_ne ncp]; exact c1 o
          have kp2 : ∀ o o', Kp p H (upd (upd H p o) p o') := fun o o' => Kp.upd.trans Kp.upd
          have other : ∀ v : Int, Q (.int (v % n)) (upd (upd H p (.lst [.ref c, .int i, .int l, .int (m + 1)])) p (.lst [.ref c, .int (i + 1), .int l, .int (m + 1)])) := fun v =>
            k _ _ (Int.emod_nonneg _ (by omega)) (Int.emod_lt_of_pos _ n0) ⟨ns, i + 1, l, m + 1, upd_same, c2 _ _, ncp, by omega, hl⟩ (kp2 _ _)
          refine ⟨_, rfl, _, rfl, p, _, _, _, rfl, rfl, SqL.of upd_same, atI0, _, _, rfl, .inl ⟨_, SqL.of (c2 _ _), rfl⟩, _, _, rfl, rfl, _, rfl, ?_⟩
          refine ite2 (fun z3 => ?_) (fun z3 => ?_)
          · refine ⟨_, rfl, _, rfl, _, _, rfl, rfl, ⟨by decide, by decide, by decide⟩, _, _, rfl, rfl, _, rfl, ?_⟩
            refine ite2 (fun z4 => ?_) (fun z4 => ?_)
            · refine ⟨_, rfl, _, rfl, _, rfl, p, _, _, 2, rfl, rfl, upd_same, rfl, ?_⟩
              refine ⟨_, _, _, i + 1, _, rfl, upd_same, by rw [upd_ne ncp]; exact c2 _ _, by omega, ?_, (kp2 _ _).trans Kp.upd⟩
              split <;> omega
            · refine ⟨_, rfl, _, rfl, p, _, _, _, rfl, rfl, SqL.of upd_same, atI3, _, _, rfl, fun v => Or.inl ⟨_, rfl, _, rfl, _, _, rfl, rfl, n0, other v⟩⟩
          · refine ⟨_, rfl, _, rfl, p, _, _, _, rfl, rfl, SqL.of upd_same, atI3, _, _, rfl, fun v => Or.inl ⟨_, rfl, _, rfl, _, _, rfl, rfl, n0, other v⟩⟩
        · exact ⟨_, _, _, i, l, rfl, upd_same, c1 _, hi, hl, Kp.upd⟩
      · exact ⟨_, _, _, i, l, rfl, upd_same, c1 _, hi, hl, Kp.upd⟩
    · rintro σ' H2 ⟨x2, x3, x4, j, l2, rfl, hp2, hc2, j0, l0, kp⟩
      refine ⟨_, rfl, p, _, _, _, rfl, rfl, SqL.of hp2, atI2, Or.inl ⟨_, rfl, _, rfl, _, _, rfl, rfl, n0, ?_⟩⟩
      refine ⟨_, rfl, p, _, _, _, rfl, rfl, SqL.of hp2, atI2, _, rfl, _, _, rfl, rfl, wide_div (b := 120) n0 (by omega) (by decide) (by decide), _, rfl, p, _, _, 2, rfl, rfl, hp2, rfl, ?_⟩
      refine ⟨_, rfl, ?_⟩
      exact k _ _ (Int.emod_nonneg _ (by omega)) (Int.emod_lt_of_pos _ n0) ⟨ns, j, l2 / n, m + 1, upd_same, by rw [upd_ne ncp]; exact hc2, ncp, j0, Int.ediv_nonneg l0 (by omega)⟩ (kp.trans Kp.upd)
end
end Cs

set_option Elab.async false
set_option linter.all false
set_option maxRecDepth 100000
set_option maxHeartbeats 4000000
/-! The law's words, numbers and pairs. -/
namespace Cs
open PySem L2
def LET : Str := "abcdefghijklmnopqrstuvwxyz"
/-- one to eight letters -/
def Word (z : Str) : Prop := 1 ≤ z.length ∧ z.length ≤ 8 ∧ ∀ c ∈ z.cps.toList, c ∈ LET.cps.toList
/-- at most thirty digits -/
def Small (n : Int) : Prop := -(10 ^ 30) < n ∧ n < 10 ^ 30
theorem len_add (x y : Str) : (x ++ y).length = x.length + y.length := by
  show (x.cps ++ y.cps).size = x.cps.size + y.cps.size
  exact Array.size_append
theorem cps_add (x y : Str) : (x ++ y).cps.toList = x.cps.toList ++ y.cps.toList := by
  show (x.cps ++ y.cps).toList = _
  exact Array.toList_append
def wordB (z : Str) : Bool := decide (1 ≤ z.length) && decide (z.length ≤ 8) && z.cps.toList.all fun c => decide (c ∈ LET.cps.toList)
theorem word_of {z : Str} (h : wordB z = true) : Word z := by
  unfold wordB at h
  simp only [Bool.and_eq_true, decide_eq_true_eq, List.all_eq_true] at h
  exact ⟨h.1.1, h.1.2, h.2⟩
theorem ats_of {α : Type} {xs : List α} {z : Int} {j : Nat} {v : α} (e : z = (j : Int)) (h : xs[j]? = some v) : atI xs z = some v := by
  rw [e]
  exact atI_nat h
def spWord : Sp := fun vs H Q _ => ∃ p c : Addr, vs = [.ref p] ∧ Src H p c ∧ ∀ (z : Str) (H' : Hp), Word z → Src H' p c → Kp p H H' → Q (.str z) H'
def spNumber : Sp := fun vs H Q _ => ∃ p c : Addr, vs = [.ref p] ∧ Src H p c ∧ ∀ (n : Int) (H' : Hp), Small n → Src H' p c → Kp p H H' → Q (.int n) H'
/-- the items are tuples of a text and a number -/
def PrL (H : Hp) : List V → List (Str × Int) → Prop := Paired fun x q => ∃ t, x = V.ref t ∧ H t = some (.tup [.str q.1, .int q.2])
def GoodPs (ps : List (Str × Int)) : Prop := ∀ q ∈ ps, Word q.1 ∧ Small q.2
def spPairs : Sp := fun vs H Q _ => ∃ (p c : Addr) (m : Int), vs = [.ref p, .int m] ∧ Src H p c ∧ 0 ≤ m ∧ m ≤ 1000 ∧
  ∀ (q : Addr) (H' : Hp) (xs : List V) (ps : List (Str × Int)), H q = none → H' q = some (.lst xs) → PrL H' xs ps → GoodPs ps → (ps.length : Int) ≤ m → Src H' p c → Kp p H H' → Q (.ref q) H'
theorem PrL.mono {H H' : Hp} {xs : List V} {ps : List (Str × Int)} (h : PrL H xs ps) (k : ∀ t a b, H t = some (.tup [.str a, .int b]) → H' t = some (.tup [.str a, .int b])) : PrL H' xs ps :=
  Paired.mapP h fun x q ⟨t, e, r⟩ => ⟨t, e, k t _ _ r⟩
theorem PrL.length {H : Hp} : ∀ {xs : List V} {ps : List (Str × Int)}, PrL H xs ps → xs.length = ps.length
  | _, _, .nil => rfl
  | _, _, .cons _ t => congrArg (· + 1) (PrL.length t)
theorem PrL.at {H : Hp} : ∀ {xs : List V} {ps : List (Str × Int)}, PrL H xs ps → ∀ {i : Nat} {q : Str × Int}, ps[i]? = some q → ∃ t, xs[i]? = some (V.ref t) ∧ H t = some (.tup [.str q.1, .int q.2])
  | _, _, .nil, i, q, h => by simp at h
  | _, _, .cons (a := a) r t, 0, q, h => by
    obtain ⟨u, e, hu⟩ := r
    obtain rfl := Option.some.inj h
    exact ⟨u, by rw [e]; rfl, hu⟩
  | _, _, .cons r t, i + 1, q, h => PrL.at t h
theorem PrL.snoc {H : Hp} : ∀ {xs : List V} {ps : List (Str × Int)} {t : Addr} {a : Str} {b : Int}, PrL H xs ps → H t = some (.tup [.str a, .int b]) → PrL H (xs ++ [.ref t]) (ps ++ [(a, b)])
  | _, _, _, _, _, .nil, h => .cons ⟨_, rfl, h⟩ .nil
  | _, _, _, _, _, .cons r t, h => .cons r (PrL.snoc t h)
section
variable {P : Program} {w : World} {K : PySem.W.Frag} {mg : Str → Option Value} {base : Heap}
/-- a def of the module as its callers have it: its promise, its name, that it stays, how its arguments bind -/
structure Def (P : Program) (w : World) (K : PySem.W.Frag) (mg : Str → Option Value) (base : Heap) (CX : CXT) (k : Nat) (x : Str) (ps : List Str) (sp : Sp) (f : Addr) (fd : FuncData) : Prop where
  ok : FnOk P w K mg base CX k f fd ps sp
  m : mg x = some (.ref f)
  kp : PySem.W.keepIn K (.ref f) = true
  b : Binds K fd ps []
end
end Cs

set_option Elab.async false
set_option linter.all false
set_option maxRecDepth 100000
set_option maxHeartbeats 4000000
namespace Cs
open PySem L2
section
variable {P : Program} {w : World} {K : PySem.W.Frag} {mg : Str → Option Value} {base : Heap}
end
end Cs

set_option Elab.async false
set_option linter.all false
set_option maxRecDepth 100000
set_option maxHeartbeats 4000000
/-! The program's words: is_integer, is_word, is_small, is_pair, distinct. -/
namespace Cs
open PySem L2
/-- a value of a built-in type that is no int -/
def NotInt (K : PySem.W.Frag) (H : Hp) (x : V) : Prop := ∃ ty : String, TyX K H x (.type ty) ∧ (ty = "bool" ∨ kitB ty "int" = some false)
def spIsInteger (K : PySem.W.Frag) : Sp := fun vs H Q _ => (∃ n : Int, vs = [.int n] ∧ Q (.bl true) H) ∨ (∃ x, vs = [x] ∧ NotInt K H x ∧ Q (.bl false) H)
def spIsSmall (K : PySem.W.Frag) : Sp := fun vs H Q _ => (∃ n : Int, vs = [.int n] ∧ Q (.bl (decide (-(10 ^ 30) < n) && decide (n < 10 ^ 30))) H) ∨ (∃ x, vs = [x] ∧ NotInt K H x ∧ Q (.bl false) H)
def spIsWord (K : PySem.W.Frag) : Sp := fun vs H Q _ => (∃ z : Str, vs = [.str z] ∧ z.length ≤ 100000 ∧ ∀ H', Same H H' → Q (.bl (wordB z)) H') ∨ (∃ x ty, vs = [x] ∧ TyX K H x (.type ty) ∧ kitB ty "str" = some false ∧ Q (.bl false) H)
/-- of a good pair -/
def spIsPair (K : PySem.W.Frag) : Sp := fun vs H Q _ => ∃ (t : Addr) (z : Str) (n : Int), vs = [.ref t] ∧ H t = some (.tup [.str z, .int n]) ∧ Word z ∧ Small n ∧ ∀ H', Same H H' → Q (.bl true) H'
def spDistinct (K : PySem.W.Frag) : Sp := fun vs H Q _ => ∃ (a : Addr) (zs : List Str), vs = [.ref a] ∧ SqL K H a (zs.map V.str) ∧ zs.length ≤ 1000 ∧
  ∀ (p : Addr) (H' : Hp) (ws : List Str), H p = none → Same H H' → H' p = some (.lst (ws.map V.str)) → Asc ws → (∀ z, z ∈ ws ↔ z ∈ zs) → ws.length ≤ zs.length → Q (.ref p) H'
theorem wordB_of {z : Str} (h : Word z) : wordB z = true := by
  unfold wordB
  simp only [Bool.and_eq_true, decide_eq_true_eq, List.all_eq_true]
  exact ⟨⟨h.1, h.2.1⟩, h.2.2⟩
theorem kit_int {K : PySem.W.Frag} {H : Hp} {x : V} (h : NotInt K H x) : ∃ ty, TyX K H x (.type ty) ∧ (ty = "bool" ∨ kitB ty "int" = some false) := h
theorem yes_it {σ : L2.St} {H : Hp} {A B : Hp → Prop} (h : A H) : tYes σ H (fun b H3 => if b = true then A H3 else B H3) := iteT (A := A H) (B := B H) h
/-- a set comprehension of texts over a walk -/
theorem scT_it {J : It} {n : Nat} {G : Hp → Prop} {Y : Nat → Hp → V → Hp → Prop} (wk : Walk J n G Y) {w : World} {g : TG} {tt : TT} {te : TE} {vs : List Nat} {σ : L2.St} {H1 : Hp} {D : Addr} {Qd : Hp → Prop} (Pv : Nat → Hp → Prop)
    (h0 : Pv 0 (upd H1 D (TSetO w D []))) (hG : ∀ i H, i ≤ n → Pv i H → G H)
    (hs : ∀ i x H H', i < n → Pv i H → Y i H x H' → g x (wipe σ vs) H' fun σ2 H2 => wipe σ2 vs = wipe σ vs ∧ tt σ2 H2 fun b H3 =>
      if b = true then te σ2 H3 fun y H4 => ∃ (z : Str) (zs : List Str), y = .str z ∧ H4 D = some (TSetO w D zs) ∧ zs.length + 1 < scanBound ∧ Pv (i + 1) (upd H4 D (TSetO w D (addT zs z))) else Pv (i + 1) H3)
    (hd : ∀ H, Pv n H → Qd H) :
    ∃ W : Nat → Nat → Hp → Prop, (∃ m, W 0 m (upd H1 D (TSetO w D []))) ∧ ∀ i m H, W i m H →
      (J.stop i H ∧ Qd H) ∨ (J.go i H ∧ ∃ Nx : Hp → Prop, (∀ H', Nx H' → ∃ m', m' < m ∧ W (i + 1) m' H') ∧ ∀ x H', J.yld i H x H' → g x (wipe σ vs) H' fun σ2 H2 => wipe σ2 vs = wipe σ vs ∧ tt σ2 H2 fun b H3 =>
        if b = true then te σ2 H3 fun y H4 => ∃ (z : Str) (zs : List Str), y = .str z ∧ H4 D = some (TSetO w D zs) ∧ zs.length + 1 < scanBound ∧ Nx (upd H4 D (TSetO w D (addT zs z))) else Nx H3) := by
  refine ⟨fun i m H => m = n - i ∧ i ≤ n ∧ Pv i H, ⟨n, by simp, Nat.zero_le _, h0⟩, ?_⟩
  rintro i m H ⟨rfl, hi, p⟩
  by_cases lt : i < n
  · exact .inr ⟨wk.goes i H lt (hG i H hi p), Pv (i + 1), fun H' r => ⟨n - (i + 1), by omega, rfl, lt, r⟩, fun x H' y => hs i x H H' lt p (wk.yields i H x H' lt (hG i H hi p) y)⟩
  · obtain rfl : i = n := by omega
    exact .inl ⟨wk.stops H (hG i H hi p), hd H p⟩
section
variable {P : Program} {w : World} {K : PySem.W.Frag} {mg : Str → Option Value} {base : Heap}
theorem ok_is_integer {f : Addr} {fd : FuncData} (F : Fun K "is_integer" "is_integer" s_is_integer f fd) (g : Bi mg) : FnOk P w K mg base CX0 1 f fd ["thing"] (spIsInteger K) := by
  refine F.ok sc_is_integer (fun vs H Q E h => ?_) (fun cdv A outer s H vs Q E hr h => ?_)
  · rcases h with ⟨_, rfl, _⟩ | ⟨_, rfl, _⟩ <;> rfl
  · refine ⟨_, (pss_one (ps_ret (pe_and (pe_callB call_isi (by rfl) g.isinstance (by decide +kernel) (pa_cons (pv 0) (pa_cons (pe_bltn (v := .ty "int") (by rfl) g.int (by decide +kernel) rfl) pa_nil))) (pe_one (pe_not (pe_callB call_isi (by rfl) g.isinstance (by decide +kernel) (pa_cons (pv 0) (pa_cons (pe_bltn (v := .ty "bool") (by rfl) g.bool (by decide +kernel) rfl) pa_nil)))))))), ?_⟩
    rcases h with ⟨n, rfl, q⟩ | ⟨x, rfl, ⟨ty, ht, hc⟩, q⟩
    · refine ⟨_, rfl, _, _, _, _, true, rfl, .ty "int", .base (.int n), kit_ty (by decide +kernel), _, rfl, iteT ?_⟩
      exact ⟨_, rfl, _, _, _, _, false, rfl, .ty "bool", .base (.int n), kit_ty (by decide +kernel), _, rfl, q⟩
    · rcases hc with e | e
      · subst e
        refine ⟨_, rfl, _, _, _, _, true, rfl, .ty "int", ht, kit_ty (by decide +kernel), _, rfl, iteT ?_⟩
        exact ⟨_, rfl, _, _, _, _, true, rfl, .ty "bool", ht, kit_ty (by decide +kernel), _, rfl, q⟩
      · exact ⟨_, rfl, _, _, _, _, false, rfl, .ty "int", ht, kit_ty e, _, rfl, iteF q⟩
theorem ok_is_small {f fIi : Addr} {fd fdIi : FuncData} (F : Fun K "is_small" "is_small" s_is_small f fd) (g : Bi mg) (FIi : Def P w K mg base CX0 1 "is_integer" ["thing"] (spIsInteger K) fIi fdIi) : FnOk P w K mg base CX0 2 f fd ["thing"] (spIsSmall K) := by
  obtain ⟨GIi, mIi, _, bIi⟩ := id FIi
  refine F.ok sc_is_small (fun vs H Q E h => ?_) (fun cdv A outer s H vs Q E hr h => ?_)
  · rcases h with ⟨_, rfl, _⟩ | ⟨_, rfl, _⟩ <;> rfl
  · have hrIi : Room 1 _ := hr.mono (by decide)
    refine ⟨_, (pss_one (ps_ret (pe_and (pe_call GIi hrIi rfl mIi FIi.kp bIi .nil pass0 (pa_cons (pv 0) pa_nil)) (pe_one (pe_chain op_lt op_lt (pe_un un_neg (pe_op op_pow pe_int pe_int)) (pv 0) (pe_op op_pow pe_int pe_int)))))), ?_⟩
    rcases h with ⟨n, rfl, q⟩ | ⟨x, rfl, hx, q⟩
    · refine ⟨_, rfl, .inl ⟨n, rfl, _, rfl, iteT ?_⟩⟩
      refine ⟨_, _, rfl, rfl, ⟨by decide, by decide, by decide⟩, _, rfl, _, rfl, _, _, rfl, rfl, _, rfl, ?_⟩
      have e : ((10 : Int) ^ (30 : Int).toNat) = 10 ^ 30 := rfl
      by_cases c : -(10 ^ 30 : Int) < n
      · rw [decide_eq_true (show -((10 : Int) ^ (30 : Int).toNat) < n from c)]
        rw [decide_eq_true c] at q
        exact iteT ⟨_, _, rfl, rfl, ⟨by decide, by decide, by decide⟩, _, _, rfl, rfl, q⟩
      · rw [decide_eq_false (show ¬ -((10 : Int) ^ (30 : Int).toNat) < n from c)]
        rw [decide_eq_false c] at q
        exact iteF q
    · exact ⟨_, rfl, .inr ⟨x, rfl, hx, _, rfl, iteF q⟩⟩
theorem ok_is_word {f : Addr} {fd : FuncData} {tk : Tok} (F : Fun K "is_word" "is_word" s_is_word f fd) (g : Bi mg) (mLET : mg "LETTERS" = some (.str LET tk)) : FnOk P w K mg base CX0 1 f fd ["thing"] (spIsWord K) := by
  refine F.ok sc_is_word (fun vs H Q E h => ?_) (fun cdv A outer s H vs Q E hr h => ?_)
  · rcases h with ⟨_, rfl, _⟩ | ⟨_, _, rfl, _⟩ <;> rfl
  · refine ⟨_, (pss_cons (ps_if (PW.pt (pw_or (pt_not (pt_val (pe_callB call_isi (by rfl) g.isinstance (by decide +kernel) (pa_cons (pv 0) (pa_cons (pe_bltn (v := .ty "str") (by rfl) g.str (by decide +kernel) rfl) pa_nil))))) (pw_or1 (pt_not (pt_chain op_le op_le pe_int (pe_callB call_len (by rfl) g.len PySem.boot_len (pa_cons (pv 0) pa_nil)) pe_int))))) (pss_one (ps_ret pe_bl)) pss_nil)
      (pss_one (ps_ret (pe_callB (cr_all rfl) (by rfl) g.all (by decide +kernel) (pa_cons (pe_lc (own := [("sign", 1)]) (g := gName 1)  (by rfl) sc_is_word.nd (pi_str (pv 0)) (blkOk_by (own := [("sign", 1)]) (N := ["thing", "sign"]) (sc := defScope s_is_word) (by decide +kernel)) (fun _ _ _ _ _ => (pg_name (i := 1) sc_is_word.nd rfl (Or.inl rfl))) (fun _ _ _ _ _ => pts_nil) (fun _ _ _ _ _ => (pe_cmpR op_in_sign (pv 1) (pe_glob (v := .str LET) rfl mLET ⟨_, rfl⟩) (by rfl)))) pa_nil))))), ?_⟩
    rcases h with ⟨z, rfl, hz, q⟩ | ⟨x, ty, rfl, ht, hc, q⟩
    · refine ⟨_, rfl, _, _, _, _, true, rfl, .ty "str", .base (.str z), kit_ty (by decide +kernel), _, rfl, iteF ?_⟩
      have hl : z.length ≤ sizeLine := Nat.le_trans hz (by decide)
      refine ⟨_, rfl, _, _, rfl, ⟨hl, rfl⟩, _, _, rfl, rfl, _, rfl, ?_⟩
      have go : 1 ≤ z.length → z.length ≤ 8 → Q (.bl (wordB z)) H := fun _ _ => q H (Same.refl H)
      by_cases c : (1 : Int) ≤ (z.length : Int)
      · rw [decide_eq_true c]
        refine iteT ⟨_, _, rfl, rfl, _, rfl, ?_⟩
        by_cases d : ((z.length : Nat) : Int) ≤ 8
        · rw [decide_eq_true d]
          refine iteF ?_
          refine ⟨_, rfl, z, rfl, fun D hD => ?_⟩
          refine lc_it walk_str (fun i H' => Same H H' ∧ H' D = some (.lst ((z.cps.toList.take i).map fun c => .bl (decide (c ∈ LET.cps.toList))))) ⟨Same.new hD, upd_same⟩ (fun _ _ _ _ => True.intro) ?_ ?_
          · rintro i x H' H2 hi ⟨s', hD'⟩ ⟨rfl, c, hc, rfl⟩
            have hc' : z.cps.toList[i]? = some c := by rw [Array.getElem?_toList]; exact hc
            refine ⟨rfl, yes_it ?_⟩
            refine ⟨_, rfl, c, LET, rfl, rfl, _, hD', ?_, ?_, ?_⟩
            · rw [List.length_map, List.length_take]
              exact Nat.lt_of_le_of_lt (Nat.min_le_left _ _) (Nat.lt_of_lt_of_le hi hl)
            · exact fun b o e => by rw [upd_ne (ne_of_none e hD)]; exact s' b o e
            · rw [upd_same, List.take_succ, hc', List.map_append]
              rfl
          · rintro H' ⟨s', hD'⟩
            refine ⟨D, (z.cps.toList.map fun c => decide (c ∈ LET.cps.toList)), rfl, SqL.of ?_, ?_⟩
            · rw [hD', List.map_map, List.take_of_length_le (by rw [Array.length_toList]; exact Nat.le_refl _)]
              rfl
            · have e : (z.cps.toList.map fun c => decide (c ∈ LET.cps.toList)).all id = wordB z := by
                unfold wordB
                rw [List.all_map, decide_eq_true (show 1 ≤ z.length by omega), decide_eq_true (show z.length ≤ 8 by omega)]
                rfl
              rw [e]
              exact q H' s'
        · rw [decide_eq_false d]
          refine iteT ?_
          have e : wordB z = false := by
            unfold wordB
            rw [decide_eq_false (show ¬ z.length ≤ 8 by omega)]
            simp
          have := q H (Same.refl H)
          rw [e] at this
          exact this
      · rw [decide_eq_false c]
        refine iteF ⟨_, rfl, iteT ?_⟩
        have e : wordB z = false := by
          unfold wordB
          rw [decide_eq_false (show ¬ 1 ≤ z.length by omega)]
          simp
        have := q H (Same.refl H)
        rw [e] at this
        exact this
    · exact ⟨_, rfl, _, _, _, _, false, rfl, .ty "str", ht, kit_ty hc, _, rfl, iteT q⟩
theorem ok_is_pair {f fIw fIs : Addr} {fd fdIw fdIs : FuncData} (F : Fun K "is_pair" "is_pair" s_is_pair f fd) (g : Bi mg) (FIw : Def P w K mg base CX0 1 "is_word" ["thing"] (spIsWord K) fIw fdIw) (FIs : Def P w K mg base CX0 2 "is_small" ["thing"] (spIsSmall K) fIs fdIs) :
    FnOk P w K mg base CX0 3 f fd ["thing"] (spIsPair K) := by
  obtain ⟨GIw, mIw, _, bIw⟩ := id FIw
  obtain ⟨GIs, mIs, _, bIs⟩ := id FIs
  refine F.ok sc_is_pair (fun vs H Q E h => ?_) (fun cdv A outer s H vs Q E hr h => ?_)
  · obtain ⟨_, _, _, rfl, _⟩ := h
    rfl
  · obtain ⟨t, z, n, rfl, ht, hz, hn, q⟩ := h
    have hrIw : Room 1 _ := hr.mono (by decide)
    have hrIs : Room 2 _ := hr.mono (by decide)
    refine ⟨_, (pss_one (ps_ret (pe_and (pe_callB call_isi (by rfl) g.isinstance (by decide +kernel) (pa_cons (pv 0) (pa_cons (pe_bltn (v := .ty "tuple") (by rfl) g.tuple (by decide +kernel) rfl) pa_nil))) (pe_and (pe_cmpR op_eq (pe_callB call_len (by rfl) g.len PySem.boot_len (pa_cons (pv 0) pa_nil)) pe_int (nomark _)) (pe_and (pe_call GIw hrIw rfl mIw FIw.kp bIw .nil pass0 (pa_cons (pe_ix ix_tup (pv 0) pe_int (fun _ _ => rfl)) pa_nil)) (pe_one (pe_call GIs hrIs rfl mIs FIs.kp bIs .nil pass0 (pa_cons (pe_ix ix_tup (pv 0) pe_int (fun _ _ => rfl)) pa_nil)))))))), ?_⟩
    refine ⟨_, rfl, _, _, _, _, true, rfl, .ty "tuple", .base (.tup ht), kit_ty (by decide +kernel), _, rfl, iteT ?_⟩
    refine ⟨_, rfl, _, _, rfl, .inr ⟨_, SqT.of ht, rfl⟩, rfl, _, rfl, iteT ?_⟩
    refine ⟨_, rfl, t, _, 0, _, rfl, rfl, SqT.of ht, rfl, .inl ⟨z, rfl, Nat.le_trans hz.2.1 (by decide), fun H' s' => ?_⟩⟩
    rw [wordB_of hz]
    refine ⟨_, rfl, iteT ?_⟩
    refine ⟨_, rfl, t, _, 1, _, rfl, rfl, SqT.of (s' _ _ ht), rfl, .inl ⟨n, rfl, ?_⟩⟩
    rw [decide_eq_true hn.1, decide_eq_true hn.2]
    exact q H' s'
theorem ok_distinct {f : Addr} {fd : FuncData} (F : Fun K "distinct" "distinct" s_distinct f fd) (g : Bi mg) : FnOk P w K mg base CX0 1 f fd ["words"] (spDistinct K) := by
  refine F.ok sc_distinct (fun vs H Q E h => ?_) (fun cdv A outer s H vs Q E hr h => ?_)
  · obtain ⟨_, _, rfl, _⟩ := h
    rfl
  · obtain ⟨a, zs, rfl, ha, hl, q⟩ := h
    refine ⟨_, (pss_one (ps_ret (pe_callB (cr_sortT rfl) (by rfl) g.sorted (by decide +kernel) (pa_cons (pe_scT (own := [("word", 1)]) (g := gName 1)  (by rfl) sc_distinct.nd (pi_list (pv 0)) (blkOk_by (own := [("word", 1)]) (N := ["words", "word"]) (sc := defScope s_distinct) (by decide +kernel)) (fun _ _ _ _ _ => (pg_name (i := 1) sc_distinct.nd rfl (Or.inl rfl))) (fun _ _ _ _ _ => pts_nil) (fun _ _ _ _ _ => (pe_callTy SkE.call_str_str (by rfl) g.str (by decide +kernel) (pa_cons (pv 1) pa_nil)))) pa_nil)))), ?_⟩
    refine ⟨_, rfl, a, rfl, ⟨_, ha⟩, fun D hD => ?_⟩
    refine scT_it walk_list (fun i H' => Same H H' ∧ H' D = some (TSetO w D (once (zs.take i)))) ⟨Same.new hD, upd_same⟩ (fun i H' _ h => h.1.seq ha) ?_ ?_
    · rintro i x H' H2 hi ⟨s', hD'⟩ ⟨rfl, hx⟩
      rw [List.length_map] at hi
      have ex : x = V.str zs[i] := by
        rw [List.getElem?_map, List.getElem?_eq_getElem hi] at hx
        exact (Option.some.inj hx).symm
      subst ex
      refine ⟨rfl, yes_it ?_⟩
      refine ⟨_, rfl, _, rfl, zs[i], _, rfl, hD', ?_, ?_, ?_⟩
      · have h1 := once_len (zs.take i)
        rw [List.length_take] at h1
        exact Nat.lt_of_le_of_lt (show (once (zs.take i)).length + 1 ≤ 1001 by omega) (by decide)
      · exact fun b o e => by rw [upd_ne (ne_of_none e hD)]; exact s' b o e
      · rw [upd_same, List.take_succ, List.getElem?_eq_getElem hi]
        show some (TSetO w D (addT (once (zs.take i)) zs[i])) = some (TSetO w D (once (zs.take i ++ [zs[i]])))
        rw [once_snoc]
    · rintro H' ⟨s', hD'⟩
      rw [List.length_map, List.take_length] at hD'
      have h1 := once_len zs
      refine ⟨D, _, rfl, hD', by omega, fun ys p hp hs hn => ?_⟩
      refine q p _ ys (s'.free hn) (s'.trans (Same.new hn)) upd_same (asc_of_sorted hs (hp.nodup_iff.mpr (once_nodup zs))) (fun z => by rw [hp.mem_iff, once_mem]) (by rw [hp.length_eq]; exact h1)
end
end Cs

set_option Elab.async false
set_option linter.all false
set_option maxRecDepth 100000
set_option maxHeartbeats 4000000
/-! Counts.__init__ with pairs and no keywords. -/
namespace Cs
open PySem L2
/-- Counts at p, its dict at d with the table t -/
structure Cnt (C : Addr) (H : Hp) (p d : Addr) (t : Tab) : Prop where
  ob : ∃ dx, H p = some (.ins C dx [("held", .ref d)])
  dc : H d = some (.dK (tv t))
  hd : Held t
  wd : ∀ z ∈ keys t, Word z
theorem put_new {t : Tab} {z : Str} {n : Int} (h : z ∉ keys t) : put t z n = t ++ [(z, n)] := by
  unfold put
  rw [any_keys, if_neg (by simpa using h)]
theorem noZero_take {t : Tab} (nd : (keys t).Nodup) {i : Nat} {q : Str × Int} (h : t[i]? = some q) :
    noZero (t.take (i + 1)) = if q.2 ≠ 0 then put (noZero (t.take i)) q.1 q.2 else noZero (t.take i) := by
  have e : t.take (i + 1) = t.take i ++ [q] := by rw [List.take_succ, h]; rfl
  unfold noZero
  rw [e, List.filter_append]
  by_cases z : q.2 ≠ 0
  · rw [if_pos z, put_new]
    · rw [List.filter_cons, if_pos (decide_eq_true z)]
      rfl
    · intro m
      obtain ⟨r, hr, er⟩ := List.mem_map.mp m
      have h1 : r ∈ t.take i := (List.mem_filter.mp hr).1
      have h2 : (keys (t.take i ++ [q])).Nodup := by
        rw [← e]
        unfold keys
        rw [List.map_take]
        exact nd.sublist (List.take_sublist _ _)
      unfold keys at h2
      rw [List.map_append, List.nodup_append] at h2
      exact h2.2.2 r.1 (List.mem_map.mpr ⟨r, h1, rfl⟩) q.1 (by simp) er
  · rw [if_neg z, List.filter_cons, if_neg (by simpa using z)]
    simp
theorem addUp_keys (z : Str) : ∀ ps, z ∈ keys (addUp ps) → ∃ q ∈ ps, q.1 = z := snoc_rec (fun h => nomatch h) fun l a ih h => by
  rw [addUp_snoc] at h
  rcases mem_keys_put.mp h with m | m
  · obtain ⟨q, hq, e⟩ := ih m
    exact ⟨q, List.mem_append_left _ hq, e⟩
  · exact ⟨a, List.mem_append_right _ (List.mem_singleton.mpr rfl), m.symm⟩
theorem noZero_keys {t : Tab} {z : Str} (h : z ∈ keys (noZero t)) : z ∈ keys t := by
  obtain ⟨q, hq, e⟩ := List.mem_map.mp h
  exact List.mem_map.mpr ⟨q, (noZero_mem.mp hq).1, e⟩
/-- all the words of pairs are words -/
def WdP (ps : List (Str × Int)) : Prop := ∀ q ∈ ps, Word q.1
theorem WdP.held {ps : List (Str × Int)} (h : WdP ps) : ∀ z ∈ keys (noZero (addUp ps)), Word z := fun z m => by
  obtain ⟨q, hq, e⟩ := addUp_keys z ps (noZero_keys m)
  rw [← e]
  exact h q hq
/-- a dict comprehension over a walk -/
theorem dc_it {J : It} {n : Nat} {G : Hp → Prop} {Y : Nat → Hp → V → Hp → Prop} (wk : Walk J n G Y) {g : TG} {tt : TT} {tk tx : TE} {vs : List Nat} {σ : L2.St} {H1 : Hp} {D : Addr} {Qd : Hp → Prop} (Pv : Nat → Hp → Prop)
    (h0 : Pv 0 (upd H1 D (.dK []))) (hG : ∀ i H, i ≤ n → Pv i H → G H)
    (hs : ∀ i x H H', i < n → Pv i H → Y i H x H' → g x (wipe σ vs) H' fun σ2 H2 => wipe σ2 vs = wipe σ vs ∧ tt σ2 H2 fun b H3 =>
      if b = true then tk σ2 H3 fun y H4 => tx σ2 H4 fun z H5 => ∃ kvs k, y = kV k ∧ H5 D = some (.dK kvs) ∧ kvs.length < sizeLine ∧ Pv (i + 1) (upd H5 D (.dK (putK kvs k z))) else Pv (i + 1) H3)
    (hd : ∀ H, Pv n H → Qd H) :
    ∃ W : Nat → Nat → Hp → Prop, (∃ m, W 0 m (upd H1 D (.dK []))) ∧ ∀ i m H, W i m H →
      (J.stop i H ∧ Qd H) ∨ (J.go i H ∧ ∃ Nx : Hp → Prop, (∀ H', Nx H' → ∃ m', m' < m ∧ W (i + 1) m' H') ∧ ∀ x H', J.yld i H x H' → g x (wipe σ vs) H' fun σ2 H2 => wipe σ2 vs = wipe σ vs ∧ tt σ2 H2 fun b H3 =>
        if b = true then tk σ2 H3 fun y H4 => tx σ2 H4 fun z H5 => ∃ kvs k, y = kV k ∧ H5 D = some (.dK kvs) ∧ kvs.length < sizeLine ∧ Nx (upd H5 D (.dK (putK kvs k z))) else Nx H3) := by
  refine ⟨fun i m H => m = n - i ∧ i ≤ n ∧ Pv i H, ⟨n, by simp, Nat.zero_le _, h0⟩, ?_⟩
  rintro i m H ⟨rfl, hi, p⟩
  by_cases lt : i < n
  · exact .inr ⟨wk.goes i H lt (hG i H hi p), Pv (i + 1), fun H' r => ⟨n - (i + 1), by omega, rfl, lt, r⟩, fun x H' y => hs i x H H' lt p (wk.yields i H x H' lt (hG i H hi p) y)⟩
  · obtain rfl : i = n := by omega
    exact .inl ⟨wk.stops H (hG i H hi p), hd H p⟩
theorem val_getD (t : Tab) (z : Str) : ((look t z).map V.int).getD (.int 0) = .int (val t z) := by
  unfold val
  cases look t z <;> rfl
/-- __init__ behind its binding: the pairs a tuple at pt, the keywords an empty dict at dn -/
def spInitB (C : Addr) : Sp := fun vs H Q _ => ∃ (x pt dn dx : Addr) (xs : List V) (ps : List (Str × Int)), vs = [.ref x, .ref pt, .ref dn] ∧ H x = some (.ins C dx []) ∧ H pt = some (.tup xs) ∧ PrL H xs ps ∧ H dn = some (.dK []) ∧ ps.length ≤ 1000 ∧ WdP ps ∧
  ∀ (d : Addr) (H' : Hp), H d = none → Cnt C H' x d (noZero (addUp ps)) → (∀ b o, H b = some o → b ≠ x → H' b = some o) → Q .non H'
section
variable {P : Program} {w : World} {K : PySem.W.Frag} {mg : Str → Option Value} {base : Heap}
theorem init_body {C f : Addr} {cdv : Value} {A : Around} {outer : List Env} {s : Shared} {H : Hp} {vs : List V} {Q : VK} {E : XK} (g : Bi mg) (cl : Cls K C) (nH : NoAttr K C "held")
    (hr : Room 0 (A.deeper (PyProof.Rows.envOfC "Counts.__init__" (defScope s_Counts_init) s.heap.objs.size f cdv))) (h : spInitB C vs H Q E) :
    ∃ t, PSs (cxOf CX0 P w K mg base ["self", "pairs", "numbers", "word", "held", "number"] "Counts.__init__" (defScope s_Counts_init) f cdv A outer s H E).nox (defBody s_Counts_init) t ∧ t { nx := fun _ H' => Q .non H', rt := Q } (L2.start ["self", "pairs", "numbers", "word", "held", "number"] vs) H := by
  obtain ⟨x, pt, dn, dx, xs, ps, rfl, hx, hpt, hP, hdn, hl, hW, k⟩ := h
  have hu := hu_of hr
  refine ⟨_, (pss_cons (ps_lock (ps_for PassesOwn.never rfl (pi_keys (pv 2)) (pg_name (i := 3) sc_Counts_init.nd rfl (Or.inl rfl)) pss_never))
      (pss_cons (ps_set (i := 4) sc_Counts_init.nd rfl (Or.inl rfl) pe_dnewK)
      (pss_cons (ps_for PassesOwn.never rfl (pi_list (pe_op op_cat (pe_callTy call_list_of (by rfl) g.list (by decide +kernel) (pa_cons (pv 1) pa_nil)) (LiI.pe_listItems rfl (pv 2) (by rfl) g.list (by decide +kernel)))) (pg_tup rfl (pgs_cons (pg_name (i := 3) sc_Counts_init.nd rfl (Or.inl rfl)) (pgs_cons (pg_name (i := 5) sc_Counts_init.nd rfl (Or.inl rfl)) pgs_nil))) (pss_one (ps_dput hu (pv 4) (pv 3) (pe_op op_add (pe_dget2 hu (pv 4) (pv 3) pe_int ⟨rfl, rfl, rfl, rfl⟩) (pv 5)) rfl)))
      (pss_one (ps_fld (pv 0) (pe_lock (pe_dc (own := [("word", 3), ("number", 5)]) (g := gTup K 2 (gCons (gName 3) (gCons (gName 5) gNil))) (by rfl) sc_Counts_init.nd (pi_items (pv 4)) (blkOk_by (own := [("word", 3), ("number", 5)]) (N := ["self", "pairs", "numbers", "word", "held", "number"]) (sc := defScope s_Counts_init) (by decide +kernel)) (fun _ _ _ _ _ => (pg_tup rfl (pgs_cons (pg_name (i := 3) sc_Counts_init.nd rfl (Or.inl rfl)) (pgs_cons (pg_name (i := 5) sc_Counts_init.nd rfl (Or.inl rfl)) pgs_nil)))) (fun _ _ _ _ _ => (pts_one (pt_cmpR op_ne (pv 5) pe_int (nomark _)))) (fun _ _ _ _ _ => (pv 3)) (fun _ _ _ _ _ => (pv 5)))) rfl))))), ?_⟩
  have nxd : x ≠ dn := ne_of hx hdn (by intro z; cases z)
  have npd : pt ≠ dn := ne_of hpt hdn (by intro z; cases z)
  have nxp : x ≠ pt := ne_of hx hpt (by intro z; cases z)
  -- for word in numbers: nothing
  refine ⟨dn, _, hdn, trivial, fun od => ?_⟩
  refine ⟨_, rfl, dn, od, rfl, .inl ⟨[], upd_same, ?_⟩⟩
  refine for_it walk_keys (fun i σ' H' => i = 0 ∧ H' = upd H dn (.frz od (.dK [])) ∧ σ' = [some (.ref x), some (.ref pt), some (.ref dn), none, none, none]) ⟨rfl, rfl, rfl⟩ (fun i σ' H' _ h => by rw [h.2.1]; exact upd_same) (fun i x σ' H' H2 hi => absurd hi (Nat.not_lt_zero _)) ?_
  rintro σ' H' ⟨_, rfl, rfl⟩
  refine ⟨upd_same, ?_⟩
  have eH : upd (upd H dn (.frz od (.dK []))) dn (.dK []) = H := by
    funext b
    by_cases e : b = dn
    · rw [e, upd_same, hdn]
    · rw [upd_ne e, upd_ne e]
  rw [eH]
  -- held = {}
  intro e he
  have s1 : Same H (upd H e (.dK [])) := Same.new he
  -- list(pairs) + list(numbers.items())
  refine ⟨_, rfl, pt, _, rfl, .inr (SqT.of (s1 _ _ hpt)), fun l1 hl1 => ?_⟩
  have s2 := s1.trans (Same.new (o := .lst xs) hl1)
  refine ⟨_, rfl, dn, [], rfl, s2 _ _ hdn, fun H3 p3 ts sm hp3 hts hnp hlst hpr => ?_⟩
  cases hpr
  have nel : e ≠ l1 := ne_of_none upd_same hl1
  refine ⟨l1, p3, xs, [], rfl, rfl, sm _ _ upd_same, hlst, ?_, fun l hl4 => ?_⟩
  · rw [hP.length]
    exact Nat.le_trans hl (by decide)
  rw [List.append_nil]
  have s3 : Same H H3 := s2.trans sm
  have s4 : Same H (upd H3 l (.lst xs)) := s3.trans (Same.new hl4)
  have he3 : H3 e = some (.dK []) := sm _ _ (by rw [upd_ne nel]; exact upd_same)
  have nel4 : e ≠ l := ne_of_none he3 hl4
  have hlx : H l = none := s3.free hl4
  refine ⟨l, rfl, ⟨_, SqL.of upd_same⟩, for_list (K := K) (a := l) (xs := xs) (fun i σ' H' => ∃ x3 x5 : Option V, σ' = [some (.ref x), some (.ref pt), some (.ref dn), x3, some (.ref e), x5] ∧ Same H H' ∧ H' l = some (.lst xs) ∧ H' e = some (.dK (tv (addUp (ps.take i)))))
    ⟨_, _, rfl, s4, upd_same, by rw [upd_ne nel4]; exact he3⟩ (fun i σ' H' _ ⟨_, _, _, _, h, _⟩ => SqL.of h) ?_ ?_⟩
  · rintro i y σ' H' hy ⟨x3, x5, rfl, s', hl', he'⟩
    have hi : i < ps.length := by
      have := (List.getElem?_eq_some_iff.mp hy).1
      rw [hP.length] at this
      exact this
    obtain ⟨t, et, ht⟩ := hP.at (List.getElem?_eq_getElem hi)
    rw [et] at hy
    obtain rfl := Option.some.inj hy
    refine ⟨t, _, rfl, SqT.of (s' _ _ ht), rfl, _, _, rfl, _, _, rfl, rfl, ?_⟩
    refine ⟨_, rfl, e, rfl, .inl ⟨_, .inl he'⟩, _, rfl, _, DGet.k (k := Sum.inr ps[i].1) he', _, rfl, val (addUp (ps.take i)) ps[i].1, ps[i].2, (by rw [tv_val]; exact val_getD _ _), rfl, _, rfl, _, rfl, e, _, rfl, DPut.k (k := Sum.inr ps[i].1) he' ?_, ?_⟩
    · rw [tv_len]
      have h1 := addUp_len (ps.take i)
      rw [List.length_take] at h1
      exact Nat.lt_of_le_of_lt (show (addUp (ps.take i)).length ≤ 1000 by omega) (by decide)
    · refine ⟨_, _, rfl, fun b o q => by rw [upd_ne (ne_of_none q he)]; exact s' b o q, by rw [upd_ne (ne_of hl' he' (by intro z; cases z))]; exact hl', ?_⟩
      rw [upd_same, tv_put, List.take_succ, List.getElem?_eq_getElem hi]
      show some (HO.dK (tv (put (addUp (ps.take i)) ps[i].1 (val (addUp (ps.take i)) ps[i].1 + ps[i].2)))) = some (HO.dK (tv (addUp (ps.take i ++ [ps[i]]))))
      rw [addUp_snoc]
  · rintro σ' H5 ⟨x3, x5, rfl, s5, hl5, he5⟩
    rw [hP.length, List.take_length] at he5
    generalize et : addUp ps = t at he5
    have ndt : (keys t).Nodup := by rw [← et]; exact addUp_nd ps
    have lent : t.length ≤ 1000 := by rw [← et]; exact Nat.le_trans (addUp_len ps) hl
    -- self.held = {..}
    refine ⟨e, _, he5, trivial, fun oe => ?_⟩
    refine ⟨_, rfl, e, oe, _, rfl, upd_same, fun D hD => ?_⟩
    have nDe : D ≠ e := (ne_of_none upd_same hD).symm
    have hDH : H5 D = none := by rw [upd_ne nDe] at hD; exact hD
    have xe : x ≠ e := ne_of_none hx he
    refine dc_it walk_items (fun i H' => (∀ b o, H5 b = some o → b ≠ e → H' b = some o) ∧ H' e = some (.frz oe (.dK (tv t))) ∧ H' D = some (.dK (tv (noZero (t.take i))))) ⟨fun b o q n => by rw [upd_ne (ne_of_none q hDH), upd_ne n]; exact q, by rw [upd_ne nDe.symm]; exact upd_same, upd_same⟩
      (fun i H' _ h => h.2.1) ?_ ?_
    · rintro i v H' H2 hi ⟨k1, k2, k3⟩ ⟨T, a, b, rfl, hT, rfl, ha, hb⟩
      rw [tv_len] at hi
      have hi2 : (tv t)[i]? = some (Sum.inr t[i].1, V.int t[i].2) := by
        unfold tv
        rw [List.getElem?_map, List.getElem?_eq_getElem hi]
        rfl
      dsimp only at ha hb
      rw [hi2] at ha hb
      obtain rfl : V.str t[i].1 = a := Option.some.inj ha
      obtain rfl : V.int t[i].2 = b := Option.some.inj hb
      have sT : Same H' (upd H' T (.tup [V.str t[i].1, V.int t[i].2])) := Same.new hT
      refine ⟨T, _, rfl, SqT.of upd_same, rfl, _, _, rfl, _, _, rfl, rfl, rfl, _, rfl, rfl, _, rfl, ?_⟩
      have nz := noZero_take ndt (List.getElem?_eq_getElem hi)
      by_cases z : t[i].2 = 0
      · rw [decide_eq_true (show V.int t[i].2 = V.int 0 by rw [z])]
        rw [if_neg (by simpa using z)] at nz
        refine iteF ?_
        refine ⟨fun c o q n => sT _ _ (k1 c o q n), sT _ _ k2, ?_⟩
        rw [nz]
        exact sT _ _ k3
      · rw [decide_eq_false (show ¬ V.int t[i].2 = V.int 0 from fun q => z (V.int.inj q))]
        rw [if_pos z] at nz
        refine iteT ?_
        refine ⟨_, rfl, _, rfl, _, Sum.inr t[i].1, rfl, sT _ _ k3, ?_, ?_, ?_, ?_⟩
        · rw [tv_len]
          have h1 : (noZero (t.take i)).length ≤ (t.take i).length := List.length_filter_le _ _
          rw [List.length_take] at h1
          exact Nat.lt_of_le_of_lt (show (noZero (t.take i)).length ≤ 1000 by omega) (by decide)
        · intro c o q n
          rw [upd_ne (ne_of_none q hDH)]
          exact sT _ _ (k1 c o q n)
        · rw [upd_ne nDe.symm]
          exact sT _ _ k2
        · rw [upd_same, tv_put, nz]
    · rintro H' ⟨k1, k2, k3⟩
      rw [tv_len, List.take_length] at k3
      refine ⟨k2, _, rfl, x, C, dx, [], rfl, ?_, cl, nH, (by show 0 < 1000; decide), ?_⟩
      · rw [upd_ne xe]
        exact k1 _ _ (s5 _ _ hx) xe
      · have nDx : D ≠ x := (ne_of_none (s5 _ _ hx) hDH).symm
        refine k D _ (s5.free hDH) ⟨⟨dx, upd_same⟩, ?_, Held.of (by rw [et]; exact ndt), hW.held⟩ fun b o q n => ?_
        · rw [upd_ne nDx, upd_ne nDe, et]
          exact k3
        · have be : b ≠ e := ne_of_none q he
          rw [upd_ne n, upd_ne be]
          exact k1 _ _ (s5 _ _ q) be
end
end Cs

set_option Elab.async false
set_option linter.all false
set_option maxRecDepth 100000
set_option maxHeartbeats 4000000
/-! Counts: its methods, by what they hold. -/
namespace Cs
open PySem L2
theorem fnR_of {P : Program} {w : World} {K : PySem.W.Frag} {mg : Str → Option Value} {base : Heap} {CX : CXT} {k : Nat} {f : Addr} {fd : FuncData} {ps : List Str} {sp : Sp} (F : FnOk P w K mg base CX k f fd ps sp) (hb : Binds K fd ps []) : FnR P w K mg base CX k f sp := by
  intro A outer s H us vs Q E hr e0 r h
  have hl : us.length = ps.length := by rw [← r.length]; exact F.len _ _ _ _ h
  have kin : K.In s.heap := e0.mod.kin.keeps fun b o e => (e0.bs b o e).1
  have hb' := hb s us kin (by rw [List.append_nil]; exact hl)
  rw [List.append_nil] at hb'
  exact F.run A outer s H ⟨us, []⟩ us vs Q E hr e0 hb' r h
/-- __init__ called with pairs -/
def spInit (C : Addr) : Sp := fun vs H Q _ => ∃ (x dx : Addr) (xs : List V) (ps : List (Str × Int)), vs = .ref x :: xs ∧ H x = some (.ins C dx []) ∧ PrL H xs ps ∧ ps.length ≤ 1000 ∧ WdP ps ∧
  ∀ (d : Addr) (H' : Hp), H d = none → Cnt C H' x d (noZero (addUp ps)) → (∀ b o, H b = some o → b ≠ x → H' b = some o) → Q .non H'
/-- the class as the top has made it -/
structure CT (P : Program) (w : World) (K : PySem.W.Frag) (mg : Str → Option Value) (base : Heap) (C fI : Addr) : Prop where
  cl : Cls K C
  nH : NoAttr K C "held"
  mgC : mg "Counts" = some (.ref C)
  mke : Mk K C fI
  ini : FnR P w K mg base CX0 1 fI (spInit C)
/-- a method -/
structure MDef (P : Program) (w : World) (K : PySem.W.Frag) (mg : Str → Option Value) (base : Heap) (CX : CXT) (k : Nat) (C : Addr) (m : Str) (ps : List Str) (sp : Sp) (f : Addr) (fd : FuncData) : Prop where
  me : Meth K C m f
  ok : FnOk P w K mg base CX k f fd ps sp
  b : Binds K fd ps []
theorem flds_held (d : Addr) : ([("held", .ref d)] : List (Str × V)).lookup ("held" : Str) = some (.ref d) := by
  rw [List.lookup_cons, beq_self_eq_true]
theorem Cnt.same {C : Addr} {H H' : Hp} {p d : Addr} {t : Tab} (s : Same H H') (h : Cnt C H p d t) : Cnt C H' p d t := by
  obtain ⟨⟨dx, a⟩, b, c, e⟩ := h
  exact ⟨⟨dx, s _ _ a⟩, s _ _ b, c, e⟩
/-- what a method hands out that gives new counts -/
def NewC (C : Addr) (H : Hp) (Q : VK) (F : Str → Int) (n : Nat) : Prop := ∀ (r e : Addr) (H' : Hp) (u : Tab), H r = none → H e = none → Same H H' → Cnt C H' r e u → (∀ z, val u z = F z) → u.length ≤ n → Q (.ref r) H'
def spWords (C : Addr) : Sp := fun vs H Q _ => ∃ (p d : Addr) (t : Tab), vs = [.ref p] ∧ Cnt C H p d t ∧ t.length ≤ 1000 ∧
  ∀ (q : Addr) (H' : Hp) (ws : List Str), H q = none → Same H H' → H' q = some (.lst (ws.map V.str)) → Asc ws → (∀ z, z ∈ ws ↔ z ∈ keys t) → ws.length ≤ t.length → Q (.ref q) H'
def spPairsM (C : Addr) : Sp := fun vs H Q _ => ∃ (p d : Addr) (t : Tab), vs = [.ref p] ∧ Cnt C H p d t ∧ t.length ≤ 1000 ∧
  ∀ (q : Addr) (H' : Hp) (xs : List V) (l : Tab), H q = none → Same H H' → H' q = some (.lst xs) → PrL H' xs l → Told (val t) l → WdP l → l.length ≤ t.length → Q (.ref q) H'
def spCopy (C : Addr) : Sp := fun vs H Q _ => ∃ (p d : Addr) (t : Tab), vs = [.ref p] ∧ Cnt C H p d t ∧ t.length ≤ 1000 ∧ NewC C H Q (val t) t.length
theorem noZero_len (t : Tab) : (noZero t).length ≤ t.length := List.length_filter_le _ _
theorem sumOf_told {f : Str → Int} {l : Tab} (h : Told f l) (z : Str) : sumOf l z = f z := by
  have nd : (keys l).Nodup := h.asc.nodup
  rw [← addUp_val, ]
  have key : ∀ (m : Tab), (keys m).Nodup → ∀ z, sumOf m z = val m z := by
    intro m
    induction m with
    | nil => intro _ z; rfl
    | cons q m ih =>
      intro nd z
      obtain ⟨n1, n2⟩ := List.nodup_cons.mp (show (q.1 :: keys m).Nodup from nd)
      have hz := ih n2 z
      unfold sumOf at hz ⊢
      unfold val look
      rw [List.filter_cons, List.find?_cons]
      by_cases e : q.1 = z
      · rw [if_pos (decide_eq_true e), decide_eq_true e, List.map_cons, List.sum_cons, hz]
        subst e
        unfold val
        rw [look_none n1]
        simp
      · rw [if_neg (by simpa using e), decide_eq_false e, hz]
        rfl
  rw [addUp_val, key l nd]
  unfold val
  by_cases m : z ∈ keys l
  · obtain ⟨n, a, b⟩ := look_some m
    rw [a]
    exact ((h.mem z n).mp b).1
  · rw [look_none m]
    have := mt (h.keys_iff z).mpr m
    have e : f z = 0 := Classical.byContradiction this
    rw [e]
    rfl
section
variable {P : Program} {w : World} {K : PySem.W.Frag} {mg : Str → Option Value} {base : Heap}
theorem ok_init {C f : Addr} {oc od kV doc pm an cdv ct osl} (g : Bi mg) (cl : Cls K C) (nH : NoAttr K C "held")
    (lk : K.lookup f = some ⟨oc, od, .func (PySem.W.fnOf "__init__" "Counts.__init__" (defArgs s_Counts_init) (defBody s_Counts_init) (defScope s_Counts_init) .none kV doc pm an cdv ct), osl⟩) (hcd : PySem.W.codeIn K cdv "Counts.__init__" = true) :
    FnR P w K mg base CX0 1 f (spInit C) := by
  have G := StX.fn_starkw (P := P) (w := w) (mg := mg) (base := base) (CX := CX0) (k := 0) (ps := ["self"]) (pv := "pairs") (pd := "numbers") (sp := spInitB C) lk hcd sc_Counts_init StX.cxUp_none
    (fun us rest hl => match us, rest, hl with | [a], [], _ => rfl | [a], r :: rs, _ => rfl)
    (fun A outer s H vs Q E hr h => by
      obtain ⟨t, a, b⟩ := init_body (P := P) (w := w) (mg := mg) (base := base) (outer := outer) (s := s) g cl nH hr h
      exact ⟨t, a.nox, b⟩)
  refine G.imp fun vs H Q E h => ?_
  obtain ⟨x, dx, xs, ps, rfl, hx, hP, hl, hW, k⟩ := h
  refine ⟨[.ref x], xs, rfl, rfl, by rw [hP.length]; exact Nat.le_trans hl (by decide), fun p d hp hd hne => ?_⟩
  have s1 : Same H (upd H p (.tup xs)) := Same.new hp
  have hd1 : (upd H p (.tup xs)) d = none := by rw [upd_ne hne]; exact hd
  have s2 : Same H (upd (upd H p (.tup xs)) d (.dK [])) := s1.trans (Same.new hd1)
  refine ⟨x, p, d, dx, xs, ps, rfl, s2 _ _ hx, (by rw [upd_ne hne.symm]; exact upd_same), hP.mono (fun t a b e => s2 _ _ e), upd_same, hl, hW, fun e H' he hc kp => ?_⟩
  exact k e H' (s2.free he) hc fun b o q n => kp b o (s2 _ _ q) n
theorem ok_words {C f fDi : Addr} {fd fdDi : FuncData} {fI : Addr} (F : Fun K "words" "Counts.words" s_Counts_words f fd) (g : Bi mg) (T : CT P w K mg base C fI) (FDi : Def P w K mg base CX0 1 "distinct" ["words"] (spDistinct K) fDi fdDi) : FnOk P w K mg base CX0 2 f fd ["self"] (spWords C) := by
  obtain ⟨GDi, mDi, _, bDi⟩ := id FDi
  refine F.ok sc_Counts_words (fun vs H Q E h => ?_) (fun cdv A outer s H vs Q E hr h => ?_)
  · obtain ⟨_, _, _, rfl, _⟩ := h
    rfl
  · obtain ⟨p, d, t, rfl, hc, hl, k⟩ := h
    have hrDi : Room 1 _ := hr.mono (by decide)
    obtain ⟨⟨dx, hp⟩, hd, hh, hw⟩ := id hc
    refine ⟨_, (pss_one (ps_ret (pe_call GDi hrDi rfl mDi FDi.kp bDi .nil pass0 (pa_cons (pe_callTy (call_listD rfl) (by rfl) g.list (by decide +kernel) (pa_cons (pe_fld (pv 0) rfl) pa_nil)) pa_nil)))), ?_⟩
    refine ⟨_, rfl, p, C, dx, _, _, rfl, hp, T.cl, T.nH, flds_held d, d, _, rfl, .inl hd, fun q hq => ?_⟩
    have e : (tv t).map (fun kv => kV kv.1) = (keys t).map V.str := by
      unfold tv keys
      rw [List.map_map, List.map_map]
      rfl
    rw [e]
    have s1 : Same H (upd H q (.lst ((keys t).map V.str))) := Same.new hq
    refine ⟨q, keys t, rfl, SqL.of upd_same, by unfold keys; rw [List.length_map]; exact hl, fun r H' ws hr' s2 h2 ha hm hle => ?_⟩
    exact k r H' ws (s1.free hr') (s1.trans s2) h2 ha hm (by unfold keys at hle; rw [List.length_map] at hle; exact hle)
theorem ok_pairsM {C f fWo : Addr} {fd fdWo : FuncData} {fI : Addr} (F : Fun K "pairs" "Counts.pairs" s_Counts_pairs f fd) (g : Bi mg) (T : CT P w K mg base C fI) (MWo : MDef P w K mg base CX0 2 C "words" ["self"] (spWords C) fWo fdWo) : FnOk P w K mg base CX0 3 f fd ["self"] (spPairsM C) := by
  refine F.ok sc_Counts_pairs (fun vs H Q E h => ?_) (fun cdv A outer s H vs Q E hr h => ?_)
  · obtain ⟨_, _, _, rfl, _⟩ := h
    rfl
  · obtain ⟨p, d, t, rfl, hc, hl, k⟩ := h
    have hrWo : Room 2 _ := hr.mono (by decide)
    have hu := hu_of hr
    obtain ⟨⟨dx, hp⟩, hd, hh, hw⟩ := id hc
    refine ⟨_, (pss_one (ps_ret (pe_lc (own := [("word", 1)]) (g := gName 1) (te := (tTup (tCons _ (tCons (tDGet (tFld K _ "held") _) tNil))))  (by rfl) sc_Counts_pairs.nd (pi_list (pe_meth0 (pv 0) T.cl MWo.me MWo.ok hrWo MWo.b .nil pass0)) (blkOk_by (own := [("word", 1)]) (N := ["self", "word"]) (sc := defScope s_Counts_pairs) (by decide +kernel)) (fun _ _ _ _ _ => (pg_name (i := 1) sc_Counts_pairs.nd rfl (Or.inl rfl))) (fun _ _ _ _ _ => pts_nil) (fun _ _ _ _ _ => (pe_tup (pa_cons (pv 1) (pa_cons (pe_dget hu (pe_fld (pv 0) rfl) (pv 1) (fun _ _ => rfl)) pa_nil))))))), ?_⟩
    refine ⟨_, rfl, p, dx, _, rfl, hp, rfl, p, d, t, rfl, hc, hl, fun q H1 ws hq s1 h1 ha hm hle => ⟨q, rfl, ⟨_, SqL.of h1⟩, fun D hD => ?_⟩⟩
    refine lc_it (walk_list (xs := ws.map V.str)) (fun i H' => Same H1 H' ∧ ∃ xs, H' D = some (.lst xs) ∧ PrL H' xs ((ws.take i).map fun z => (z, val t z))) ⟨Same.new hD, [], upd_same, .nil⟩ (fun i H' _ h => SqL.of (h.1 _ _ h1)) ?_ ?_
    · rintro i x H' H2 hi ⟨s', xs, hD', hP'⟩ ⟨rfl, hx⟩
      rw [List.length_map] at hi
      have ex : x = V.str ws[i] := by
        rw [List.getElem?_map, List.getElem?_eq_getElem hi] at hx
        exact (Option.some.inj hx).symm
      subst ex
      obtain ⟨n, en, _⟩ := look_some ((hm ws[i]).mp (List.getElem_mem hi))
      have ev : val t ws[i] = n := by unfold val; rw [en]; rfl
      have hd' := s' _ _ (s1 _ _ hd)
      have hxl : xs.length = i := by
        rw [hP'.length, List.length_map, List.length_take]
        omega
      refine ⟨rfl, yes_it ?_⟩
      refine ⟨_, rfl, _, rfl, p, C, dx, _, _, rfl, s' _ _ (s1 _ _ hp), T.cl, T.nH, flds_held d, _, rfl, d, .int n, rfl, ?_, by show 2 ≤ sizeLine; decide, fun T2 hT2 => ?_⟩
      · have := DGet.k (k := Sum.inr ws[i]) hd'
        rw [tv_val, en] at this
        exact this
      · have nTD : D ≠ T2 := ne_of_none hD' hT2
        have sT : Same H2 (upd H2 T2 (.tup [.str ws[i], .int n])) := Same.new hT2
        refine ⟨xs, by rw [upd_ne nTD]; exact hD', by rw [hxl]; exact Nat.lt_of_le_of_lt (show i ≤ 1000 by omega) (by decide), fun b o q => ?_, xs ++ [.ref T2], upd_same, ?_⟩
        · rw [upd_ne (ne_of_none q hD)]
          exact sT _ _ (s' _ _ q)
        · rw [List.take_succ, List.getElem?_eq_getElem hi, List.map_append]
          show PrL _ (xs ++ [.ref T2]) (_ ++ [(ws[i], val t ws[i])])
          rw [ev]
          refine PrL.snoc (hP'.mono fun c a b e => ?_) (by rw [upd_ne nTD.symm]; exact upd_same)
          have cD : c ≠ D := by
            rintro rfl
            rw [hD'] at e
            cases e
          rw [upd_ne cD]
          exact sT _ _ e
    · rintro H' ⟨s', xs, hD', hP'⟩
      rw [List.length_map, List.take_length] at hP'
      exact k D H' xs _ (s1.free hD) (s1.trans s') hD' hP' (hh.told ha hm) (fun q m => by
        obtain ⟨z, hz, e⟩ := List.mem_map.mp m
        rw [← e]
        exact hw z ((hm z).mp hz)) (by rw [List.length_map]; exact hle)
end
end Cs

set_option Elab.async false
set_option linter.all false
set_option maxRecDepth 100000
set_option maxHeartbeats 4000000
/-! Counts: of, only, total, len, the store of one word. -/
namespace Cs
open PySem L2
def spOf (K : PySem.W.Frag) (C : Addr) : Sp := fun vs H Q _ => ∃ (a : Addr) (xs : List V) (ps : List (Str × Int)), vs = [.ref C, .ref a] ∧ H a = some (.lst xs) ∧ PrL H xs ps ∧ GoodPs ps ∧ ps.length ≤ 1000 ∧ NewC C H Q (sumOf ps) ps.length
def spTotal (C : Addr) : Sp := fun vs H Q _ => ∃ (p d : Addr) (t : Tab), vs = [.ref p] ∧ Cnt C H p d t ∧ t.length ≤ 1000 ∧ ∀ H', Same H H' → Q (.int (t.map (·.2)).sum) H'
def spLen (C : Addr) : Sp := fun vs H Q _ => ∃ (p d : Addr) (t : Tab), vs = [.ref p] ∧ Cnt C H p d t ∧ Q (.int t.length) H
def spSet (C : Addr) : Sp := fun vs H Q _ => ∃ (p d : Addr) (t : Tab) (z : Str) (n : Int), vs = [.ref p, .str z, .int n] ∧ Word z ∧ Small n ∧ Cnt C H p d t ∧ t.length ≤ 1000 ∧
  ∀ (u : Tab) (H' : Hp), Cnt C H' p d u → (∀ y, val u y = if y = z then n else val t y) → u.length ≤ t.length + 1 → (∀ b o, H b = some o → b ≠ d → H' b = some o) → Q .non H'
def spOnlyB (C : Addr) : Sp := fun vs H Q _ => ∃ (p d wt : Addr) (t : Tab) (zs : List Str), vs = [.ref p, .ref wt] ∧ H wt = some (.tup (zs.map V.str)) ∧ Cnt C H p d t ∧ t.length ≤ 1000 ∧ NewC C H Q (fun z => if z ∈ zs then val t z else 0) t.length
def spOnly (C : Addr) : Sp := fun vs H Q _ => ∃ (p d : Addr) (t : Tab) (zs : List Str), vs = .ref p :: zs.map V.str ∧ zs.length ≤ 1000 ∧ Cnt C H p d t ∧ t.length ≤ 1000 ∧ NewC C H Q (fun z => if z ∈ zs then val t z else 0) t.length
theorem inV_str (z : Str) (zs : List Str) : inV (.str z) (zs.map V.str) = decide (z ∈ zs) := by
  unfold inV
  rw [List.any_map, Bool.eq_iff_iff, List.any_eq_true, decide_eq_true_eq]
  constructor
  · rintro ⟨y, m, e⟩
    have e : (y == z) = true := e
    rw [← eq_of_beq e]
    exact m
  · intro m
    exact ⟨z, m, beq_self_eq_true z⟩
theorem flat_strs (zs : List Str) : (zs.map V.str).all flatV = true := by
  rw [List.all_map, List.all_eq_true]
  intro z _
  rfl
theorem sumOf_filter (l : Tab) (zs : List Str) (z : Str) : sumOf (l.filter fun q => decide (q.1 ∈ zs)) z = if z ∈ zs then sumOf l z else 0 := by
  unfold sumOf
  rw [List.filter_filter]
  by_cases h : z ∈ zs
  · rw [if_pos h]
    congr 2
    apply List.filter_congr
    intro q _
    by_cases e : q.1 = z
    · simp [e, h]
    · simp [e]
  · rw [if_neg h, List.filter_eq_nil_iff.mpr]
    · rfl
    · intro q _ k
      rw [Bool.and_eq_true, decide_eq_true_eq, decide_eq_true_eq] at k
      exact h (k.1 ▸ k.2)
theorem held_put {t : Tab} (h : Held t) {z : Str} {n : Int} (hn : n ≠ 0) : Held (put t z n) := ⟨nd_put h.nd, fun q m => by
  rcases mem_put (y := q.1) (m := q.2) m with ⟨_, e⟩ | ⟨_, e⟩
  · rw [e]
    exact hn
  · exact h.nz _ e⟩
theorem held_drop {t : Tab} (h : Held t) {z : Str} : Held (drop t z) := ⟨nd_drop h.nd, fun q m => h.nz q (List.mem_filter.mp m).1⟩
section
variable {P : Program} {w : World} {K : PySem.W.Frag} {mg : Str → Option Value} {base : Heap}
theorem made {C : Addr} {H : Hp} {x dx : Addr} (hx : H x = none) (hd : H dx = none) : Same H (upd (upd H dx (.own x)) x (.ins C dx [])) := fun b o e => by
  rw [upd_ne (ne_of_none e hx), upd_ne (ne_of_none e hd)]
  exact e
/-- Counts(*pairs) at hand: the pairs stand as a list or tuple -/
theorem mk_pairs {C : Addr} {H1 : Hp} {xs : List V} {l : Tab} {Q : VK} {n : Nat} {G : Str → Int} (hP : PrL H1 xs l) (hw : WdP l) (hl : l.length ≤ 1000) (hn : l.length ≤ n) (hG : ∀ z, sumOf l z = G z) (k : NewC C H1 Q G n) {E : XK} :
    ∀ x dx, H1 x = none → H1 dx = none → dx ≠ x → spInit C (V.ref x :: xs) (upd (upd H1 dx (.own x)) x (.ins C dx [])) (fun v H2 => v = .non ∧ Q (.ref x) H2) E := by
  intro x dx hx hdx ne
  have s2 := made (C := C) hx hdx
  refine ⟨x, dx, xs, l, rfl, upd_same, hP.mono (fun c a b e => s2 _ _ e), hl, hw, fun e H' he hC kp => ⟨rfl, ?_⟩⟩
  have s3 : Same H1 H' := fun b o e => kp b o (s2 _ _ e) (ne_of_none e hx)
  refine k x e H' _ hx (s2.free he) s3 hC (fun z => ?_) (Nat.le_trans (noZero_len _) (Nat.le_trans (addUp_len l) hn))
  rw [noZero_val (addUp_nd l), addUp_val, hG]
theorem NewC.later {C : Addr} {H H1 : Hp} {Q : VK} {G : Str → Int} {n : Nat} (s : Same H H1) (k : NewC C H Q G n) : NewC C H1 Q G n := fun r e H' u hr he s' hc hv hl => k r e H' u (s.free hr) (s.free he) (s.trans s') hc hv hl
theorem ok_of {C f fIp : Addr} {fd fdIp : FuncData} {fI : Addr} (F : Fun K "of" "Counts.of" s_Counts_of f fd) (g : Bi mg) (T : CT P w K mg base C fI) (FIp : Def P w K mg base CX0 3 "is_pair" ["thing"] (spIsPair K) fIp fdIp) : FnOk P w K mg base CX0 4 f fd ["cls", "pairs"] (spOf K C) := by
  obtain ⟨GIp, mIp, _, bIp⟩ := id FIp
  refine F.ok sc_Counts_of (fun vs H Q E h => ?_) (fun cdv A outer s H vs Q E hr h => ?_)
  · obtain ⟨_, _, _, rfl, _⟩ := h
    rfl
  · obtain ⟨a, xs, ps, rfl, ha, hP, hG, hl, k⟩ := h
    have hrIp : Room 3 _ := hr.mono (by decide)
    have hrI : Room 2 _ := hr.mono (by decide)
    refine ⟨_, (pss_cons (ps_if (pt_not (pt_val (pe_callB call_isiT (by rfl) g.isinstance (by decide +kernel) (pa_cons (pv 1) (pa_cons (pe_tup (pa_cons (pe_bltn (v := .ty "list") (by rfl) g.list (by decide +kernel) rfl) (pa_cons (pe_bltn (v := .ty "tuple") (by rfl) g.tuple (by decide +kernel) rfl) pa_nil))) pa_nil))))) (pss_one ps_never) pss_nil)
      (pss_cons (ps_for PassesOwn.never rfl (pi_enum (by rfl) g.enumerate (pa_cons (pv 1) pa_nil)) (pg_tup rfl (pgs_cons (pg_name (i := 2) sc_Counts_of.nd rfl (Or.inl rfl)) (pgs_cons (pg_name (i := 3) sc_Counts_of.nd rfl (Or.inl rfl)) pgs_nil))) (pss_one (ps_if (pt_not (pt_val (pe_call GIp hrIp rfl mIp FIp.kp bIp .nil pass0 (pa_cons (pv 3) pa_nil)))) (pss_one ps_never) pss_nil)))
      (pss_one (ps_ret (pe_mkSL (i := 0) T.mke T.ini hrI rfl (Or.inl rfl) pass0 (pv 1)))))), ?_⟩
    refine ⟨_, rfl, by show 2 ≤ sizeLine; decide, fun tp htp => ?_⟩
    have s1 : Same H (upd H tp (.tup [.ty "list", .ty "tuple"])) := Same.new htp
    refine ⟨_, tp, _, _, _, true, rfl, upd_same, .cons (.ty "list") (.cons (.ty "tuple") .nil), .base (.lst (s1 _ _ ha)), kitAny_cons (b := true) (kit_ty (b := "list") (by decide +kernel)) (fun h => by cases h) (fun _ => rfl), _, rfl, iteF ?_⟩
    refine ⟨_, rfl, a, xs, rfl, SqL.of (s1 _ _ ha), ?_⟩
    refine for_it (walk_enum (xs := xs)) (fun i σ' H' => ∃ x2 x3 : Option V, σ' = [some (.ref C), some (.ref a), x2, x3] ∧ Same H H') ⟨_, _, rfl, s1⟩ (fun i σ' H' _ ⟨_, _, _, h⟩ => SqL.of (h _ _ ha)) ?_ ?_
    · rintro i v σ' H' H2 hi ⟨x2, x3, rfl, s'⟩ ⟨T2, x, y, rfl, hT2, rfl, ex, ey⟩
      obtain rfl : V.int (i : Nat) = x := Option.some.inj ex
      have hi2 : i < ps.length := by rw [← hP.length]; exact hi
      obtain ⟨t, et, ht⟩ := hP.at (List.getElem?_eq_getElem hi2)
      dsimp only at ey
      rw [et] at ey
      obtain rfl := Option.some.inj ey
      have sT : Same H' (upd H' T2 (.tup [.int (i : Nat), .ref t])) := Same.new hT2
      refine ⟨T2, _, rfl, SqT.of upd_same, rfl, _, _, rfl, _, _, rfl, rfl, ?_⟩
      refine ⟨_, rfl, t, _, _, rfl, sT _ _ (s' _ _ ht), (hG _ (List.getElem_mem hi2)).1, (hG _ (List.getElem_mem hi2)).2, fun H3 s3 => ⟨_, rfl, iteF ?_⟩⟩
      exact ⟨_, _, rfl, (s'.trans sT).trans s3⟩
    · rintro σ' H' ⟨x2, x3, rfl, s'⟩
      exact ⟨rfl, _, rfl, a, xs, rfl, .inr (SqL.of (s' _ _ ha)), mk_pairs (hP.mono fun c a b e => s' _ _ e) (fun q m => (hG q m).1) hl (Nat.le_refl _) (fun z => rfl) (k.later s')⟩
theorem ok_total {C f : Addr} {fd : FuncData} {fI : Addr} (F : Fun K "total" "Counts.total" s_Counts_total f fd) (g : Bi mg) (T : CT P w K mg base C fI) : FnOk P w K mg base CX0 1 f fd ["self"] (spTotal C) := by
  refine F.ok sc_Counts_total (fun vs H Q E h => ?_) (fun cdv A outer s H vs Q E hr h => ?_)
  · obtain ⟨_, _, _, rfl, _⟩ := h
    rfl
  · obtain ⟨p, d, t, rfl, hc, hl, k⟩ := h
    obtain ⟨⟨dx, hp⟩, hd, hh, hw⟩ := id hc
    refine ⟨_, (pss_one (ps_ret (pe_callB (cr_sum rfl) (by rfl) g.sum (by decide +kernel) (pa_cons (pe_lock (pe_lc (own := [("number", 1)]) (g := gName 1)  (by rfl) sc_Counts_total.nd (pi_values (pe_fld (pv 0) rfl)) (blkOk_by (own := [("number", 1)]) (N := ["self", "number"]) (sc := defScope s_Counts_total) (by decide +kernel)) (fun _ _ _ _ _ => (pg_name (i := 1) sc_Counts_total.nd rfl (Or.inl rfl))) (fun _ _ _ _ _ => pts_nil) (fun _ _ _ _ _ => (pe_callTy call_int1 (by rfl) g.int (by decide +kernel) (pa_cons (pv 1) pa_nil))))) pa_nil)))), ?_⟩
    have npd : p ≠ d := ne_of hp hd (by intro z; cases z)
    refine ⟨d, _, hd, trivial, fun od => ?_⟩
    refine ⟨_, rfl, p, C, dx, _, _, rfl, (by rw [upd_ne npd]; exact hp), T.cl, T.nH, flds_held d, d, od, _, rfl, upd_same, fun D hD => ?_⟩
    have nDd : D ≠ d := (ne_of_none upd_same hD).symm
    have hDH : H D = none := by rw [upd_ne nDd] at hD; exact hD
    refine lc_it walk_values (fun i H' => (∀ b o, H b = some o → b ≠ d → H' b = some o) ∧ H' d = some (.frz od (.dK (tv t))) ∧ H' D = some (.lst ((t.take i).map fun q => V.int q.2))) ⟨fun b o e n => by rw [upd_ne (ne_of_none e hDH), upd_ne n]; exact e, by rw [upd_ne nDd.symm]; exact upd_same, upd_same⟩ (fun i H' _ h => h.2.1) ?_ ?_
    · rintro i v H' H2 hi ⟨k1, k2, k3⟩ ⟨rfl, kk, hv⟩
      rw [tv_len] at hi
      have hi2 : (tv t)[i]? = some (Sum.inr t[i].1, V.int t[i].2) := by
        unfold tv
        rw [List.getElem?_map, List.getElem?_eq_getElem hi]
        rfl
      rw [hi2] at hv
      obtain rfl : V.int t[i].2 = v := congrArg Prod.snd (Option.some.inj hv)
      refine ⟨rfl, yes_it ?_⟩
      refine ⟨_, rfl, Or.inl ⟨_, rfl, _, k3, ?_, fun b o e n => ?_, ?_, ?_⟩⟩
      · rw [List.length_map, List.length_take]
        exact Nat.lt_of_le_of_lt (show min i t.length ≤ 1000 by omega) (by decide)
      · rw [upd_ne (ne_of_none e hDH)]
        exact k1 b o e n
      · rw [upd_ne nDd.symm]
        exact k2
      · rw [upd_same, List.take_succ, List.getElem?_eq_getElem hi, List.map_append]
        rfl
    · rintro H' ⟨k1, k2, k3⟩
      rw [tv_len, List.take_length] at k3
      refine ⟨k2, D, t.map (·.2), rfl, SqL.of ?_, k _ fun b o e => ?_⟩
      · rw [upd_ne nDd, k3, List.map_map]
        rfl
      · by_cases n : b = d
        · subst n
          rw [upd_same, ← e, hd]
        · rw [upd_ne n]
          exact k1 b o e n
theorem ok_len {C f : Addr} {fd : FuncData} {fI : Addr} (F : Fun K "__len__" "Counts.__len__" s_Counts_len f fd) (g : Bi mg) (T : CT P w K mg base C fI) : FnOk P w K mg base CX0 1 f fd ["self"] (spLen C) := by
  refine F.ok sc_Counts_len (fun vs H Q E h => ?_) (fun cdv A outer s H vs Q E hr h => ?_)
  · obtain ⟨_, _, _, rfl, _⟩ := h
    rfl
  · obtain ⟨p, d, t, rfl, hc, k⟩ := h
    obtain ⟨⟨dx, hp⟩, hd, hh, hw⟩ := id hc
    refine ⟨_, (pss_one (ps_ret (pe_callB call_lenD (by rfl) g.len PySem.boot_len (pa_cons (pe_fld (pv 0) rfl) pa_nil)))), ?_⟩
    refine ⟨_, rfl, p, C, dx, _, _, rfl, hp, T.cl, T.nH, flds_held d, d, _, rfl, hd, ?_⟩
    rw [tv_len]
    exact k
theorem ok_set {C f fIw fIs : Addr} {fd fdIw fdIs : FuncData} {fI : Addr} (F : Fun K "__setitem__" "Counts.__setitem__" s_Counts_setitem f fd) (g : Bi mg) (T : CT P w K mg base C fI) (FIw : Def P w K mg base CX0 1 "is_word" ["thing"] (spIsWord K) fIw fdIw) (FIs : Def P w K mg base CX0 2 "is_small" ["thing"] (spIsSmall K) fIs fdIs) :
    FnOk P w K mg base CX0 3 f fd ["self", "word", "number"] (spSet C) := by
  obtain ⟨GIw, mIw, _, bIw⟩ := id FIw
  obtain ⟨GIs, mIs, _, bIs⟩ := id FIs
  refine F.ok sc_Counts_setitem (fun vs H Q E h => ?_) (fun cdv A outer s H vs Q E hr h => ?_)
  · obtain ⟨_, _, _, _, _, rfl, _⟩ := h
    rfl
  · obtain ⟨p, d, t, z, n, rfl, hz, hn, hc, hl, k⟩ := h
    have hrIw : Room 1 _ := hr.mono (by decide)
    have hrIs : Room 2 _ := hr.mono (by decide)
    have hu := hu_of hr
    refine ⟨_, (pss_cons (ps_if (pt_not (pt_val (pe_call GIw hrIw rfl mIw FIw.kp bIw .nil pass0 (pa_cons (pv 1) pa_nil)))) (pss_one ps_never) pss_nil)
      (pss_cons (ps_if (pt_not (pt_val (pe_call GIs hrIs rfl mIs FIs.kp bIs .nil pass0 (pa_cons (pv 2) pa_nil)))) (pss_one ps_never) pss_nil)
      (pss_one (ps_if (pt_cmpR op_ne (pv 2) pe_int (nomark _)) (pss_one (ps_dput hu (pe_fld (pv 0) rfl) (pv 1) (pv 2) rfl)) (pss_one (ps_if (pt_cmp (pc_din hu (pv 1) (pe_fld (pv 0) rfl))) (pss_one (ps_ddel (pe_fld (pv 0) rfl) (pv 1))) pss_nil)))))), ?_⟩
    refine ⟨_, rfl, .inl ⟨z, rfl, Nat.le_trans hz.2.1 (by decide), fun H1 s1 => ?_⟩⟩
    rw [wordB_of hz]
    refine ⟨_, rfl, iteF ?_⟩
    refine ⟨_, rfl, .inl ⟨n, rfl, ?_⟩⟩
    rw [decide_eq_true hn.1, decide_eq_true hn.2]
    refine ⟨_, rfl, iteF ?_⟩
    obtain ⟨⟨dx, hp⟩, hd, hh, hw⟩ := id (hc.same s1)
    have npd : p ≠ d := ne_of hp hd (by intro z; cases z)
    refine ⟨_, rfl, rfl, _, rfl, ?_⟩
    by_cases e : n = 0
    · rw [decide_eq_true (show V.int n = V.int 0 by rw [e])]
      refine iteF ?_
      refine ⟨_, rfl, _, rfl, p, C, dx, _, _, rfl, hp, T.cl, T.nH, flds_held d, d, _, rfl, DGet.k (k := Sum.inr z) hd, _, rfl, ?_⟩
      rw [tv_val]
      cases q : look t z with
      | none =>
        refine iteF ?_
        refine k t H1 (hc.same s1) (fun y => ?_) (Nat.le_succ _) fun b o e _ => s1 b o e
        by_cases ey : y = z
        · rw [if_pos ey, ey, e]
          unfold val
          rw [q]
          rfl
        · rw [if_neg ey]
      | some v =>
        refine iteT ?_
        refine ⟨_, rfl, p, C, dx, _, _, rfl, hp, T.cl, T.nH, flds_held d, _, rfl, d, _, Sum.inr z, rfl, hd, rfl, (by rw [tv_val, q]; rfl), ?_⟩
        rw [tv_drop]
        refine k (drop t z) _ ⟨⟨dx, by rw [upd_ne npd]; exact hp⟩, upd_same, held_drop hh, fun y m => hw y (by rw [keys_drop] at m; exact (List.mem_filter.mp m).1)⟩ (fun y => by rw [val_drop hh.nd, e]) (Nat.le_trans (List.length_filter_le _ _) (Nat.le_succ _)) fun b o e n => ?_
        rw [upd_ne n]
        exact s1 b o e
    · rw [decide_eq_false (show ¬ V.int n = V.int 0 from fun q => e (V.int.inj q))]
      refine iteT ?_
      refine ⟨_, rfl, _, rfl, p, C, dx, _, _, rfl, hp, T.cl, T.nH, flds_held d, _, rfl, d, _, rfl, DPut.k (k := Sum.inr z) hd (by rw [tv_len]; exact Nat.lt_of_le_of_lt hl (by decide)), ?_⟩
      rw [tv_put]
      refine k (put t z n) _ ⟨⟨dx, by rw [upd_ne npd]; exact hp⟩, upd_same, held_put hh e, fun y m => (mem_keys_put.mp m).elim (hw y) (fun q => q ▸ hz)⟩ (fun y => val_put hh.nd) (len_put _ _ _) fun b o e n => ?_
      rw [upd_ne n]
      exact s1 b o e
end
end Cs

set_option Elab.async false
set_option linter.all false
set_option maxRecDepth 100000
set_option maxHeartbeats 4000000
/-! Counts: reading a word, sums, differences, multiples, smaller and greater integers. -/
namespace Cs
open PySem L2
structure Bj (mg : Str → Option Value) : Prop extends Bi mg where
  min : mg "min" = none
  max : mg "max" = none
/-- what isinstance asks of an instance's class -/
structure CI (K : PySem.W.Frag) (C : Addr) : Prop where
  cl : Cls K C
  ha : PySem.W.findIn K (.ref C) "__class__" = some (some (.builtin "object.__class__"))
  hn : PySem.W.specialIn K (.builtin "object.__class__") "__get__" = some (some (.builtin "getset_descriptor.__get__"))
  htk : PySem.W.takesIn K (.builtin "object.__class__") = some true
  hm : PySem.W.mroIn K C (.type "object") = some true
theorem CI.ty {K : PySem.W.Frag} {C : Addr} {H : Hp} {p dx : Addr} {fs : List (Str × V)} (c : CI K C) (h : H p = some (.ins C dx fs)) : TyX K H (.ref p) (.ref C) := .base (.ins h c.cl c.ha c.hn c.htk c.hm)
theorem kit_self {K : PySem.W.Frag} {C : Addr} : PySem.W.kitOne K (.ref C) (.ref C) = some true := by
  unfold PySem.W.kitOne
  rw [if_pos (beq_self_eq_true _)]
/-- operators as their callers have them -/
structure ODef (P : Program) (w : World) (K : PySem.W.Frag) (mg : Str → Option Value) (base : Heap) (CX : CXT) (k : Nat) (C : Addr) (m : Str) (ps : List Str) (sp : Sp) (f : Addr) (fd : FuncData) : Prop where
  c : OpC K C m f
  ok : FnOk P w K mg base CX k f fd ps sp
  b : Binds K fd ps []
structure GDef (P : Program) (w : World) (K : PySem.W.Frag) (mg : Str → Option Value) (base : Heap) (CX : CXT) (k : Nat) (C : Addr) (m : Str) (ps : List Str) (sp : Sp) (f : Addr) (fd : FuncData) : Prop where
  c : Spc K C m f
  fi : PySem.W.fnIn K f = true
  ok : FnOk P w K mg base CX k f fd ps sp
  b : Binds K fd ps []
def spGet (C : Addr) : Sp := fun vs H Q _ => ∃ (p d : Addr) (t : Tab) (z : Str), vs = [.ref p, .str z] ∧ Word z ∧ Cnt C H p d t ∧ ∀ H', Same H H' → Q (.int (val t z)) H'
def spJoint (C : Addr) : Sp := fun vs H Q _ => ∃ (p d q e : Addr) (t u : Tab), vs = [.ref p, .ref q] ∧ Cnt C H p d t ∧ Cnt C H q e u ∧ t.length ≤ 400 ∧ u.length ≤ 400 ∧
  ∀ (l : Addr) (H' : Hp) (ws : List Str), H l = none → Same H H' → H' l = some (.lst (ws.map V.str)) → Asc ws → (∀ z, z ∈ ws ↔ z ∈ keys t ∨ z ∈ keys u) → ws.length ≤ t.length + u.length → Q (.ref l) H'
/-- a op b word by word -/
def spBin (C : Addr) (G : Int → Int → Int) : Sp := fun vs H Q _ => ∃ (p d q e : Addr) (t u : Tab), vs = [.ref p, .ref q] ∧ Cnt C H p d t ∧ Cnt C H q e u ∧ t.length ≤ 400 ∧ u.length ≤ 400 ∧ NewC C H Q (fun z => G (val t z) (val u z)) (t.length + u.length)
def spUn (C : Addr) (G : Int → Int) : Sp := fun vs H Q _ => ∃ (p d : Addr) (t : Tab), vs = [.ref p] ∧ Cnt C H p d t ∧ t.length ≤ 1000 ∧ NewC C H Q (fun z => G (val t z)) t.length
def spMul (C : Addr) : Sp := fun vs H Q _ => ∃ (p d : Addr) (t : Tab) (n : Int), vs = [.ref p, .int n] ∧ Cnt C H p d t ∧ t.length ≤ 1000 ∧ (∀ z, n.natAbs.log2 + (val t z).natAbs.log2 < 1000000) ∧ NewC C H Q (fun z => n * val t z) t.length
/-- [(word, ..) for word in words] -/
theorem lc_pairs {K : PySem.W.Frag} {a : Addr} {ws : List Str} {j : Nat} {te : TE} {vs : List Nat} {σ : L2.St} {H1 : Hp} {D : Addr} {Qd : Hp → Prop} {G : Str → Int} (ha : H1 a = some (.lst (ws.map V.str))) (hD : H1 D = none) (hl : ws.length ≤ 1000)
    (hw : ∀ x, wipe ((wipe σ vs).set j (some x)) vs = wipe σ vs)
    (he : ∀ z ∈ ws, ∀ H', Same H1 H' → ∀ Qe : VK, (∀ T H'', H' T = none → Same H' H'' → H'' T = some (.tup [.str z, .int (G z)]) → Qe (.ref T) H'') → te ((wipe σ vs).set j (some (.str z))) H' Qe)
    (k : ∀ H' xs, Same H1 H' → H' D = some (.lst xs) → PrL H' xs (ws.map fun z => (z, G z)) → Qd H') :
    ∃ W : Nat → Nat → Hp → Prop, (∃ m, W 0 m (upd H1 D (.lst []))) ∧ ∀ i m H, W i m H →
      ((Itl K a).stop i H ∧ Qd H) ∨ ((Itl K a).go i H ∧ ∃ Nx : Hp → Prop, (∀ H', Nx H' → ∃ m', m' < m ∧ W (i + 1) m' H') ∧ ∀ x H', (Itl K a).yld i H x H' → gName j x (wipe σ vs) H' fun σ2 H2 => wipe σ2 vs = wipe σ vs ∧ tYes σ2 H2 fun b H3 =>
        if b = true then te σ2 H3 fun y H4 => ∃ acc, H4 D = some (.lst acc) ∧ acc.length < sizeLine ∧ Nx (upd H4 D (.lst (acc ++ [y]))) else Nx H3) := by
  refine lc_it (walk_list (xs := ws.map V.str)) (fun i H' => Same H1 H' ∧ ∃ xs, H' D = some (.lst xs) ∧ PrL H' xs ((ws.take i).map fun z => (z, G z))) ⟨Same.new hD, [], upd_same, .nil⟩ (fun i H' _ h => SqL.of (h.1 _ _ ha)) ?_ ?_
  · rintro i x H' H2 hi ⟨s', xs, hD', hP'⟩ ⟨rfl, hx⟩
    rw [List.length_map] at hi
    have ex : x = V.str ws[i] := by
      rw [List.getElem?_map, List.getElem?_eq_getElem hi] at hx
      exact (Option.some.inj hx).symm
    subst ex
    have hxl : xs.length = i := by
      rw [hP'.length, List.length_map, List.length_take]
      omega
    refine ⟨hw _, yes_it ?_⟩
    refine he ws[i] (List.getElem_mem hi) H2 s' _ fun T H3 hT s3 hT3 => ?_
    have nTD : D ≠ T := ne_of_none hD' hT
    refine ⟨xs, s3 _ _ hD', by rw [hxl]; exact Nat.lt_of_le_of_lt (show i ≤ 1000 by omega) (by decide), fun b o q => ?_, xs ++ [.ref T], upd_same, ?_⟩
    · rw [upd_ne (ne_of_none q hD)]
      exact s3 _ _ (s' _ _ q)
    · rw [List.take_succ, List.getElem?_eq_getElem hi, List.map_append]
      refine PrL.snoc (hP'.mono fun c a b e => ?_) (by rw [upd_ne nTD.symm]; exact hT3)
      have cD : c ≠ D := by
        rintro rfl
        rw [hD'] at e
        cases e
      rw [upd_ne cD]
      exact s3 _ _ e
  · rintro H' ⟨s', xs, hD', hP'⟩
    rw [List.length_map, List.take_length] at hP'
    exact k H' xs s' hD' hP'
/-- a table by ascending words -/
theorem sumOf_map {ws : List Str} (h : Asc ws) (G : Str → Int) (z : Str) : sumOf (ws.map fun y => (y, G y)) z = if z ∈ ws then G z else 0 := by
  have nd := h.nodup
  clear h
  unfold sumOf
  induction ws with
  | nil => rfl
  | cons y ws ih =>
    obtain ⟨n1, n2⟩ := List.nodup_cons.mp nd
    rw [List.map_cons, List.filter_cons]
    by_cases e : y = z
    · subst e
      rw [if_pos (by simp), List.map_cons, List.sum_cons, ih n2, if_neg n1, if_pos List.mem_cons_self]
      simp
    · rw [if_neg (by simpa using e), ih n2]
      by_cases m : z ∈ ws
      · rw [if_pos m, if_pos (List.mem_cons_of_mem _ m)]
      · rw [if_neg m, if_neg]
        intro q
        rcases List.mem_cons.mp q with q | q
        · exact e q.symm
        · exact m q
theorem sumOf_append (l m : Tab) (z : Str) : sumOf (l ++ m) z = sumOf l z + sumOf m z := by
  unfold sumOf
  rw [List.filter_append, List.map_append, List.sum_append]
theorem val_out {t : Tab} {z : Str} (h : z ∉ keys t) : val t z = 0 := by
  unfold val
  rw [look_none h]
  rfl
theorem PrL.append {H : Hp} : ∀ {xs ys : List V} {l m : Tab}, PrL H xs l → PrL H ys m → PrL H (xs ++ ys) (l ++ m)
  | _, _, _, _, .nil, h => h
  | _, _, _, _, .cons r t, h => .cons r (PrL.append t h)
theorem wd_map {ws : List Str} (h : ∀ z ∈ ws, Word z) (G : Str → Int) : WdP (ws.map fun z => (z, G z)) := fun q m => by
  obtain ⟨z, hz, e⟩ := List.mem_map.mp m
  rw [← e]
  exact h z hz
section
variable {P : Program} {w : World} {K : PySem.W.Frag} {mg : Str → Option Value} {base : Heap}
theorem ok_get {C f fIw : Addr} {fd fdIw : FuncData} {fI : Addr} (F : Fun K "__getitem__" "Counts.__getitem__" s_Counts_getitem f fd) (g : Bi mg) (T : CT P w K mg base C fI) (FIw : Def P w K mg base CX0 1 "is_word" ["thing"] (spIsWord K) fIw fdIw) :
    FnOk P w K mg base CX0 2 f fd ["self", "word"] (spGet C) := by
  obtain ⟨GIw, mIw, _, bIw⟩ := id FIw
  refine F.ok sc_Counts_getitem (fun vs H Q E h => ?_) (fun cdv A outer s H vs Q E hr h => ?_)
  · obtain ⟨_, _, _, _, rfl, _⟩ := h
    rfl
  · obtain ⟨p, d, t, z, rfl, hz, hc, k⟩ := h
    have hrIw : Room 1 _ := hr.mono (by decide)
    have hu := hu_of hr
    refine ⟨_, (pss_cons (ps_if (pt_not (pt_val (pe_call GIw hrIw rfl mIw FIw.kp bIw .nil pass0 (pa_cons (pv 1) pa_nil)))) (pss_one ps_never) pss_nil)
      (pss_one (ps_ret (pe_dget2 hu (pe_fld (pv 0) rfl) (pv 1) pe_int ⟨rfl, rfl, rfl, rfl⟩)))), ?_⟩
    refine ⟨_, rfl, .inl ⟨z, rfl, Nat.le_trans hz.2.1 (by decide), fun H1 s1 => ?_⟩⟩
    rw [wordB_of hz]
    refine ⟨_, rfl, iteF ?_⟩
    obtain ⟨⟨dx, hp⟩, hd, hh, hw⟩ := id (hc.same s1)
    refine ⟨_, rfl, p, C, dx, _, _, rfl, hp, T.cl, T.nH, flds_held d, d, rfl, .inl ⟨_, .inl hd⟩, _, rfl, _, DGet.k (k := Sum.inr z) hd, ?_⟩
    rw [tv_val, val_getD]
    exact k H1 s1
theorem ok_joint {C f fDi fWo : Addr} {fd fdDi fdWo : FuncData} {fI : Addr} (F : Fun K "joint_words" "joint_words" s_joint_words f fd) (g : Bi mg) (T : CT P w K mg base C fI) (FDi : Def P w K mg base CX0 1 "distinct" ["words"] (spDistinct K) fDi fdDi)
    (MWo : MDef P w K mg base CX0 2 C "words" ["self"] (spWords C) fWo fdWo) : FnOk P w K mg base CX0 3 f fd ["one", "other"] (spJoint C) := by
  obtain ⟨GDi, mDi, _, bDi⟩ := id FDi
  refine F.ok sc_joint_words (fun vs H Q E h => ?_) (fun cdv A outer s H vs Q E hr h => ?_)
  · obtain ⟨_, _, _, _, _, _, rfl, _⟩ := h
    rfl
  · obtain ⟨p, d, q, e, t, u, rfl, hc, hc2, hl, hl2, k⟩ := h
    have hrDi : Room 1 _ := hr.mono (by decide)
    have hrWo : Room 2 _ := hr.mono (by decide)
    refine ⟨_, (pss_one (ps_ret (pe_call GDi hrDi rfl mDi FDi.kp bDi .nil pass0 (pa_cons (pe_op op_cat (pe_meth0 (pv 0) T.cl MWo.me MWo.ok hrWo MWo.b .nil pass0) (pe_meth0 (pv 1) T.cl MWo.me MWo.ok hrWo MWo.b .nil pass0)) pa_nil)))), ?_⟩
    obtain ⟨⟨dx, hp⟩, _⟩ := id hc
    refine ⟨_, rfl, p, dx, _, rfl, hp, rfl, p, d, t, rfl, hc, by omega, fun l1 H1 ws1 hl1 s1 h1 ha1 hm1 hle1 => ?_⟩
    obtain ⟨⟨dx2, hq⟩, _⟩ := id (hc2.same s1)
    refine ⟨_, rfl, q, dx2, _, rfl, hq, rfl, q, e, u, rfl, hc2.same s1, by omega, fun l2 H2 ws2 hl2' s2 h2 ha2 hm2 hle2 => ?_⟩
    refine ⟨l1, l2, _, _, rfl, rfl, s2 _ _ h1, h2, ?_, fun l3 hl3 => ?_⟩
    · rw [List.length_map, List.length_map]
      exact Nat.le_trans (show ws1.length + ws2.length ≤ 1000 by omega) (by decide)
    have s3 : Same H2 (upd H2 l3 (.lst (ws1.map V.str ++ ws2.map V.str))) := Same.new hl3
    refine ⟨l3, ws1 ++ ws2, rfl, SqL.of (by rw [upd_same, List.map_append]), by rw [List.length_append]; omega, fun l4 H4 ws hl4 s4 h4 ha hm hle => ?_⟩
    have s13 := (s1.trans s2).trans s3
    refine k l4 H4 ws (s13.free hl4) (s13.trans s4) h4 ha (fun z => ?_) ?_
    · rw [hm, List.mem_append, hm1, hm2]
    · rw [List.length_append] at hle
      omega
theorem ok_add {C f fPa : Addr} {fd fdPa : FuncData} {fI : Addr} (F : Fun K "__add__" "Counts.__add__" s_Counts_add f fd) (g : Bi mg) (T : CT P w K mg base C fI) (ci : CI K C) (MPa : MDef P w K mg base CX0 3 C "pairs" ["self"] (spPairsM C) fPa fdPa) :
    FnOk P w K mg base CX0 4 f fd ["self", "other"] (spBin C fun a b => a + b) := by
  refine F.ok sc_Counts_add (fun vs H Q E h => ?_) (fun cdv A outer s H vs Q E hr h => ?_)
  · obtain ⟨_, _, _, _, _, _, rfl, _⟩ := h
    rfl
  · obtain ⟨p, d, q, e, t, u, rfl, hc, hc2, hl, hl2, k⟩ := h
    have hrPa : Room 3 _ := hr.mono (by decide)
    have hrI : Room 2 _ := hr.mono (by decide)
    refine ⟨_, (pss_cons (ps_if (pt_not (pt_val (pe_callB call_isi (by rfl) g.isinstance (by decide +kernel) (pa_cons (pv 1) (pa_cons (pe_glob (v := .ref C) rfl T.mgC rfl) pa_nil))))) (pss_one (ps_never)) pss_nil)
      (pss_cons (ps_set (i := 2) sc_Counts_add.nd rfl (Or.inl rfl) (pe_op op_cat (pe_meth0 (pv 0) T.cl MPa.me MPa.ok hrPa MPa.b .nil pass0) (pe_meth0 (pv 1) T.cl MPa.me MPa.ok hrPa MPa.b .nil pass0)))
      (pss_one (ps_ret (pe_mkS T.mke T.ini hrI rfl T.mgC pass0 (pv 2)))))), ?_⟩
    obtain ⟨⟨dx, hp⟩, _⟩ := id hc
    obtain ⟨⟨dx2, hq⟩, _⟩ := id hc2
    refine ⟨_, rfl, _, _, _, _, true, rfl, .own C, ci.ty hq, kit_self, _, rfl, iteF ?_⟩
    refine ⟨_, rfl, p, dx, _, rfl, hp, rfl, p, d, t, rfl, hc, by omega, fun l1 H1 xs1 m1 hl1 s1 h1 hP1 ht1 hw1 hle1 => ?_⟩
    obtain ⟨⟨dx3, hq3⟩, _⟩ := id (hc2.same s1)
    refine ⟨_, rfl, q, dx3, _, rfl, hq3, rfl, q, e, u, rfl, hc2.same s1, by omega, fun l2 H2 xs2 m2 hl2' s2 h2 hP2 ht2 hw2 hle2 => ?_⟩
    have hx1 := hP1.length
    have hx2 := hP2.length
    refine ⟨l1, l2, _, _, rfl, rfl, s2 _ _ h1, h2, Nat.le_trans (show xs1.length + xs2.length ≤ 1000 by omega) (by decide), fun l3 hl3 => ?_⟩
    have s3 : Same H2 (upd H2 l3 (.lst (xs1 ++ xs2))) := Same.new hl3
    refine ⟨_, rfl, l3, _, rfl, .inr (SqL.of upd_same), ?_⟩
    have hP : PrL (upd H2 l3 (.lst (xs1 ++ xs2))) (xs1 ++ xs2) (m1 ++ m2) := PrL.append (hP1.mono fun _ _ _ e => s3 _ _ (s2 _ _ e)) (hP2.mono fun _ _ _ e => s3 _ _ e)
    refine mk_pairs hP (fun r mr => (List.mem_append.mp mr).elim (hw1 r) (hw2 r)) (by rw [List.length_append]; omega) (by rw [List.length_append]; omega) (fun z => ?_) (k.later ((s1.trans s2).trans s3))
    rw [sumOf_append, sumOf_told ht1, sumOf_told ht2]
theorem ok_neg {C f fWo : Addr} {fd fdWo : FuncData} {fI : Addr} (F : Fun K "__neg__" "Counts.__neg__" s_Counts_neg f fd) (g : Bi mg) (T : CT P w K mg base C fI) (MWo : MDef P w K mg base CX0 2 C "words" ["self"] (spWords C) fWo fdWo) :
    FnOk P w K mg base CX0 3 f fd ["self"] (spUn C fun a => -a) := by
  refine F.ok sc_Counts_neg (fun vs H Q E h => ?_) (fun cdv A outer s H vs Q E hr h => ?_)
  · obtain ⟨_, _, _, rfl, _⟩ := h
    rfl
  · obtain ⟨p, d, t, rfl, hc, hl, k⟩ := h
    have hrWo : Room 2 _ := hr.mono (by decide)
    have hrI : Room 2 _ := hr.mono (by decide)
    have hu := hu_of hr
    obtain ⟨⟨dx, hp⟩, hd, hh, hw⟩ := id hc
    refine ⟨_, (pss_cons (ps_setLc (i := 1) (own := [("word", 2)]) (g := gName 2) (te := (tTup (tCons _ (tCons (tUn _ (tDGet (tFld K _ "held") _)) tNil))))  (by rfl) sc_Counts_neg.nd rfl rfl (sw_true rfl rfl rfl (by decide +kernel)) (pi_list (pe_meth0 (pv 0) T.cl MWo.me MWo.ok hrWo MWo.b .nil pass0)) (blkOk_by (own := [("word", 2)]) (N := ["self", "pairs", "word"]) (sc := defScope s_Counts_neg) (by decide +kernel)) (fun _ _ _ _ _ => (pg_name (i := 2) sc_Counts_neg.nd rfl (Or.inl rfl))) (fun _ _ _ _ _ => pts_nil) (fun _ _ _ _ _ => (pe_tup (pa_cons (pv 2) (pa_cons (pe_un un_neg (pe_dget hu (pe_fld (pv 0) rfl) (pv 2) (fun _ _ => rfl))) pa_nil)))))
      (pss_one (ps_ret (pe_mkS T.mke T.ini hrI rfl T.mgC pass0 (pv 1))))), ?_⟩
    refine ⟨_, rfl, p, dx, _, rfl, hp, rfl, p, d, t, rfl, hc, hl, fun q H1 ws hq s1 h1 ha hm hle => ⟨q, rfl, ⟨_, SqL.of h1⟩, fun D hD => ?_⟩⟩
    refine lc_pairs (G := fun z => -val t z) h1 hD (by omega) (fun _ => rfl) (fun z hz H' s' Qe q => ?_) fun H' xs s' hD' hP' => ?_
    · obtain ⟨n, en, _⟩ := look_some ((hm z).mp hz)
      have ev : val t z = n := by unfold val; rw [en]; rfl
      have hg : DGet H' d (V.str z) (some (V.int n)) := by
        have := DGet.k (k := Sum.inr z) (s' _ _ (s1 _ _ hd))
        rw [tv_val, en] at this
        exact this
      refine ⟨_, rfl, _, rfl, p, C, dx, _, _, rfl, s' _ _ (s1 _ _ hp), T.cl, T.nH, flds_held d, _, rfl, d, .int n, rfl, hg, _, rfl, by show 2 ≤ sizeLine; decide, fun T2 hT2 => q T2 _ hT2 (Same.new hT2) ?_⟩
      rw [upd_same, ev]
    · refine ⟨_, rfl, D, xs, rfl, .inr (SqL.of hD'), mk_pairs hP' (wd_map (fun z hz => hw z ((hm z).mp hz)) _) (by rw [List.length_map]; omega) (by rw [List.length_map]; exact hle) (fun z => ?_) (k.later (s1.trans s'))⟩
      rw [sumOf_map ha]
      by_cases c : z ∈ ws
      · rw [if_pos c]
      · rw [if_neg c, val_out (mt (hm z).mpr c)]
        rfl
theorem ok_abs {C f fWo : Addr} {fd fdWo : FuncData} {fI : Addr} (F : Fun K "__abs__" "Counts.__abs__" s_Counts_abs f fd) (g : Bi mg) (T : CT P w K mg base C fI) (MWo : MDef P w K mg base CX0 2 C "words" ["self"] (spWords C) fWo fdWo) :
    FnOk P w K mg base CX0 3 f fd ["self"] (spUn C fun a => if a < 0 then -a else a) := by
  refine F.ok sc_Counts_abs (fun vs H Q E h => ?_) (fun cdv A outer s H vs Q E hr h => ?_)
  · obtain ⟨_, _, _, rfl, _⟩ := h
    rfl
  · obtain ⟨p, d, t, rfl, hc, hl, k⟩ := h
    have hrWo : Room 2 _ := hr.mono (by decide)
    have hrI : Room 2 _ := hr.mono (by decide)
    have hu := hu_of hr
    obtain ⟨⟨dx, hp⟩, hd, hh, hw⟩ := id hc
    refine ⟨_, (pss_cons (ps_setLc (i := 1) (own := [("word", 2)]) (g := gName 2) (te := (tTup (tCons _ (tCons (tCB _ (tCons (tDGet (tFld K _ "held") _) tNil)) tNil))))  (by rfl) sc_Counts_abs.nd rfl rfl (sw_true rfl rfl rfl (by decide +kernel)) (pi_list (pe_meth0 (pv 0) T.cl MWo.me MWo.ok hrWo MWo.b .nil pass0)) (blkOk_by (own := [("word", 2)]) (N := ["self", "pairs", "word"]) (sc := defScope s_Counts_abs) (by decide +kernel)) (fun _ _ _ _ _ => (pg_name (i := 2) sc_Counts_abs.nd rfl (Or.inl rfl))) (fun _ _ _ _ _ => pts_nil) (fun _ _ _ _ _ => (pe_tup (pa_cons (pv 2) (pa_cons (pe_callB call_abs (by rfl) g.abs (by decide +kernel) (pa_cons (pe_dget hu (pe_fld (pv 0) rfl) (pv 2) (fun _ _ => rfl)) pa_nil)) pa_nil)))))
      (pss_one (ps_ret (pe_mkS T.mke T.ini hrI rfl T.mgC pass0 (pv 1))))), ?_⟩
    refine ⟨_, rfl, p, dx, _, rfl, hp, rfl, p, d, t, rfl, hc, hl, fun q H1 ws hq s1 h1 ha hm hle => ⟨q, rfl, ⟨_, SqL.of h1⟩, fun D hD => ?_⟩⟩
    refine lc_pairs (G := fun z => if val t z < 0 then -val t z else val t z) h1 hD (by omega) (fun _ => rfl) (fun z hz H' s' Qe q => ?_) fun H' xs s' hD' hP' => ?_
    · obtain ⟨n, en, _⟩ := look_some ((hm z).mp hz)
      have ev : val t z = n := by unfold val; rw [en]; rfl
      have hg : DGet H' d (V.str z) (some (V.int n)) := by
        have := DGet.k (k := Sum.inr z) (s' _ _ (s1 _ _ hd))
        rw [tv_val, en] at this
        exact this
      refine ⟨_, rfl, _, rfl, p, C, dx, _, _, rfl, s' _ _ (s1 _ _ hp), T.cl, T.nH, flds_held d, _, rfl, d, .int n, rfl, hg, _, rfl, by show 2 ≤ sizeLine; decide, fun T2 hT2 => q T2 _ hT2 (Same.new hT2) ?_⟩
      rw [upd_same, ev]
    · refine ⟨_, rfl, D, xs, rfl, .inr (SqL.of hD'), mk_pairs hP' (wd_map (fun z hz => hw z ((hm z).mp hz)) _) (by rw [List.length_map]; omega) (by rw [List.length_map]; exact hle) (fun z => ?_) (k.later (s1.trans s'))⟩
      rw [sumOf_map ha]
      by_cases c : z ∈ ws
      · rw [if_pos c]
      · rw [if_neg c, val_out (mt (hm z).mpr c)]
        rfl
theorem ok_mul {C f fWo : Addr} {fd fdWo : FuncData} {fI : Addr} (F : Fun K "__mul__" "Counts.__mul__" s_Counts_mul f fd) (g : Bi mg) (T : CT P w K mg base C fI) (MWo : MDef P w K mg base CX0 2 C "words" ["self"] (spWords C) fWo fdWo) :
    FnOk P w K mg base CX0 3 f fd ["self", "times"] (spMul C) := by
  refine F.ok sc_Counts_mul (fun vs H Q E h => ?_) (fun cdv A outer s H vs Q E hr h => ?_)
  · obtain ⟨_, _, _, _, rfl, _⟩ := h
    rfl
  · obtain ⟨p, d, t, m, rfl, hc, hl, hb, k⟩ := h
    have hrWo : Room 2 _ := hr.mono (by decide)
    have hrI : Room 2 _ := hr.mono (by decide)
    have hu := hu_of hr
    obtain ⟨⟨dx, hp⟩, hd, hh, hw⟩ := id hc
    refine ⟨_, (pss_cons (ps_if (pt_not (pt_val (pe_callB call_isi (by rfl) g.isinstance (by decide +kernel) (pa_cons (pv 1) (pa_cons (pe_bltn (v := .ty "int") (by rfl) g.int (by decide +kernel) rfl) pa_nil))))) (pss_one (ps_never)) pss_nil)
      (pss_cons (ps_setLc (i := 2) (own := [("word", 3)]) (g := gName 3) (te := (tTup (tCons _ (tCons (tOp _ _ (tDGet (tFld K _ "held") _)) tNil))))  (by rfl) sc_Counts_mul.nd rfl rfl (sw_true rfl rfl rfl (by decide +kernel)) (pi_list (pe_meth0 (pv 0) T.cl MWo.me MWo.ok hrWo MWo.b .nil pass0)) (blkOk_by (own := [("word", 3)]) (N := ["self", "times", "pairs", "word"]) (sc := defScope s_Counts_mul) (by decide +kernel)) (fun _ _ _ _ _ => (pg_name (i := 3) sc_Counts_mul.nd rfl (Or.inl rfl))) (fun _ _ _ _ _ => pts_nil) (fun _ _ _ _ _ => (pe_tup (pa_cons (pv 3) (pa_cons (pe_op op_mulW (pv 1) (pe_dget hu (pe_fld (pv 0) rfl) (pv 3) (fun _ _ => rfl))) pa_nil)))))
      (pss_one (ps_ret (pe_mkS T.mke T.ini hrI rfl T.mgC pass0 (pv 2)))))), ?_⟩
    refine ⟨_, rfl, _, _, _, _, true, rfl, .ty "int", .base (.int m), kit_ty (by decide +kernel), _, rfl, iteF ?_⟩
    refine ⟨_, rfl, p, dx, _, rfl, hp, rfl, p, d, t, rfl, hc, hl, fun q H1 ws hq s1 h1 ha hm hle => ⟨q, rfl, ⟨_, SqL.of h1⟩, fun D hD => ?_⟩⟩
    refine lc_pairs (G := fun z => m * val t z) h1 hD (by omega) (fun _ => rfl) (fun z hz H' s' Qe q => ?_) fun H' xs s' hD' hP' => ?_
    · obtain ⟨n, en, _⟩ := look_some ((hm z).mp hz)
      have ev : val t z = n := by unfold val; rw [en]; rfl
      have hg : DGet H' d (V.str z) (some (V.int n)) := by
        have := DGet.k (k := Sum.inr z) (s' _ _ (s1 _ _ hd))
        rw [tv_val, en] at this
        exact this
      have hbz := hb z
      rw [ev] at hbz
      refine ⟨_, rfl, _, rfl, _, rfl, p, C, dx, _, _, rfl, s' _ _ (s1 _ _ hp), T.cl, T.nH, flds_held d, _, rfl, d, .int n, rfl, hg, _, _, rfl, rfl, hbz, by show 2 ≤ sizeLine; decide, fun T2 hT2 => q T2 _ hT2 (Same.new hT2) ?_⟩
      rw [upd_same, ev]
    · refine ⟨_, rfl, D, xs, rfl, .inr (SqL.of hD'), mk_pairs hP' (wd_map (fun z hz => hw z ((hm z).mp hz)) _) (by rw [List.length_map]; omega) (by rw [List.length_map]; exact hle) (fun z => ?_) (k.later (s1.trans s'))⟩
      rw [sumOf_map ha]
      by_cases c : z ∈ ws
      · rw [if_pos c]
      · rw [if_neg c, val_out (mt (hm z).mpr c), Int.mul_zero]
end
end Cs

set_option Elab.async false
set_option linter.all false
set_option maxRecDepth 100000
set_option maxHeartbeats 4000000
/-! The laws' common helpers: the model, what is told of it, whether counts are equal to it. -/
namespace Cs
open PySem L2
/-- a model at m: a dict of words and integers -/
structure Mdl (H : Hp) (m : Addr) (u : Tab) : Prop where
  dc : H m = some (.dK (tv u))
  nd : (keys u).Nodup
  wd : ∀ z ∈ keys u, Word z
theorem Mdl.same {H H' : Hp} {m : Addr} {u : Tab} (s : Same H H') (h : Mdl H m u) : Mdl H' m u := ⟨s _ _ h.dc, h.nd, h.wd⟩
def spModel : Sp := fun vs H Q _ => ∃ (a : Addr) (xs : List V) (ps : List (Str × Int)), vs = [.ref a] ∧ H a = some (.lst xs) ∧ PrL H xs ps ∧ WdP ps ∧ ps.length ≤ 1000 ∧
  ∀ (m : Addr) (H' : Hp), H m = none → Same H H' → Mdl H' m (addUp ps) → Q (.ref m) H'
def spTold : Sp := fun vs H Q _ => ∃ (m : Addr) (u : Tab), vs = [.ref m] ∧ Mdl H m u ∧ u.length < 64 ∧
  ∀ (q : Addr) (H' : Hp) (xs : List V) (l : Tab), H q = none → Same H H' → H' q = some (.lst xs) → PrL H' xs l → Told (val u) l → WdP l → l.length ≤ u.length → Q (.ref q) H'
def spEqual (C : Addr) : Sp := fun vs H Q _ => ∃ (p d m : Addr) (t u : Tab), vs = [.ref p, .ref m] ∧ Cnt C H p d t ∧ t.length ≤ 1000 ∧ Mdl H m u ∧ u.length < 64 ∧ (∀ z, val t z = val u z) ∧ ∀ H', Same H H' → Q (.bl true) H'
/-- pairs as data -/
def pd (l : Tab) : PyData := .list (l.map fun q => .tuple [.str q.1, .int q.2])
theorem word_ok {z : Str} (h : Word z) : PyData.strOk z = true := by
  unfold PyData.strOk
  rw [← Array.all_toList, List.all_eq_true]
  intro c hc
  have h1 := h.2.2 c hc
  have h2 : ∀ c ∈ LET.cps.toList, c < 0x110000 := by decide +kernel
  exact decide_eq_true (h2 c h1)
theorem pd_can : ∀ {l : Tab}, WdP l → PyData.canLayAll0 (l.map fun q => .tuple [.str q.1, .int q.2]) = true
  | [], _ => rfl
  | q :: l, h => by
    rw [List.map_cons, PyData.canLayAll0, pd_can fun r m => h r (List.mem_cons_of_mem _ m)]
    have := word_ok (h q List.mem_cons_self)
    simp [PyData.canLay0, PyData.canLayAll0, this]
theorem pd_depth : ∀ l : Tab, PyData.depthAll (l.map fun q => .tuple [.str q.1, .int q.2]) ≤ 1
  | [] => Nat.zero_le _
  | q :: l => by
    rw [List.map_cons, PyData.depthAll]
    have := pd_depth l
    simp only [PyData.depth, PyData.depthAll]
    omega
theorem pd_shaped {l : Tab} (h : WdP l) : SeqAt.shaped (pd l) = true := by
  unfold SeqAt.shaped pd
  rw [Bool.and_eq_true]
  refine ⟨by rw [PyData.canLay0]; exact pd_can h, decide_eq_true ?_⟩
  rw [PyData.depth]
  have := pd_depth l
  omega
theorem pd_refl {l : Tab} (h : WdP l) : PyData.eqv (pd l) (pd l) = true := SeqAt.eqv_refl _ (SeqAt.canLay_of_shaped (pd_shaped h))
theorem PrL.dp {K : PySem.W.Frag} {H : Hp} : ∀ {xs : List V} {l : Tab}, PrL H xs l → DpAll K H xs (l.map fun q => .tuple [.str q.1, .int q.2])
  | _, _, .nil => .nil
  | _, _, .cons ⟨t, e, ht⟩ r => .cons (by rw [e]; exact .tup (SqT.of ht) (.cons (.str _) (.cons (.int _) .nil))) (PrL.dp r)
section
variable {P : Program} {w : World} {K : PySem.W.Frag} {mg : Str → Option Value} {base : Heap}
end
end Cs

set_option Elab.async false
set_option linter.all false
set_option maxRecDepth 100000
set_option maxHeartbeats 4000000
/-! Counts: differences, smaller and greater integers, distances, multiples from the left, changes in place. -/
namespace Cs
open PySem L2
structure TDef (P : Program) (w : World) (K : PySem.W.Frag) (mg : Str → Option Value) (base : Heap) (CX : CXT) (k : Nat) (C : Addr) (nm : String) (ps : List Str) (sp : Sp) (f h : Addr) (fd : FuncData) : Prop where
  c : OpT K C nm f h
  i1 : PySem.W.findIn K (.type "int") (PySem.dunder nm) = some (some (.builtin "int.__mul__"))
  i2 : PySem.W.findIn K (.type "int") (dunderR nm) = some (some (.builtin "int.__rmul__"))
  ok : FnOk P w K mg base CX k f fd ps sp
  b : Binds K fd ps []
/-- a op= b: the object itself is changed; its dict is a new one -/
def spIn (C : Addr) (G : Int → Int → Int) : Sp := fun vs H Q _ => ∃ (p d q e : Addr) (t u : Tab), vs = [.ref p, .ref q] ∧ Cnt C H p d t ∧ Cnt C H q e u ∧ t.length ≤ 400 ∧ u.length ≤ 400 ∧
  ∀ (d' : Addr) (H' : Hp) (v : Tab), H d' = none → Cnt C H' p d' v → (∀ z, val v z = G (val t z) (val u z)) → v.length ≤ t.length + u.length → (∀ b o, H b = some o → b ≠ p → H' b = some o) → Q (.ref p) H'
def spImul (C : Addr) : Sp := fun vs H Q _ => ∃ (p d : Addr) (t : Tab) (n : Int), vs = [.ref p, .int n] ∧ Cnt C H p d t ∧ t.length ≤ 1000 ∧ (∀ z, n.natAbs.log2 + (val t z).natAbs.log2 < 1000000) ∧
  ∀ (d' : Addr) (H' : Hp) (v : Tab), H d' = none → Cnt C H' p d' v → (∀ z, val v z = n * val t z) → v.length ≤ t.length → (∀ b o, H b = some o → b ≠ p → H' b = some o) → Q (.ref p) H'
theorem putF_held (d e : Addr) : putF "held" (V.ref e) ([("held", .ref d)] : List (Str × V)) = ([("held", .ref e)] : List (Str × V)) := by
  show (if ("held" : Str) = "held" then ([("held", V.ref e)] : List (Str × V)) else _) = ([("held", V.ref e)] : List (Str × V))
  rw [if_pos rfl]
section
variable {P : Program} {w : World} {K : PySem.W.Frag} {mg : Str → Option Value} {base : Heap}
theorem ok_sub {C f fGe fJw : Addr} {fd fdGe fdJw : FuncData} {fI : Addr} (F : Fun K "__sub__" "Counts.__sub__" s_Counts_sub f fd) (g : Bj mg) (T : CT P w K mg base C fI) (ci : CI K C) (SGe : GDef P w K mg base CX0 2 C "__getitem__" ["self", "word"] (spGet C) fGe fdGe)
    (FJw : Def P w K mg base CX0 3 "joint_words" ["one", "other"] (spJoint C) fJw fdJw) : FnOk P w K mg base CX0 4 f fd ["self", "other"] (spBin C fun a b => a - b) := by
  obtain ⟨GJw, mJw, _, bJw⟩ := id FJw
  refine F.ok sc_Counts_sub (fun vs H Q E h => ?_) (fun cdv A outer s H vs Q E hr h => ?_)
  · obtain ⟨_, _, _, _, _, _, rfl, _⟩ := h
    rfl
  · obtain ⟨p, d, q, e, t, u, rfl, hc, hc2, hl, hl2, k⟩ := h
    have hrJw : Room 3 _ := hr.mono (by decide)
    have hrGe : Room 3 _ := hr.mono (by decide)
    have hrI : Room 2 _ := hr.mono (by decide)
    refine ⟨_, (pss_cons (ps_if (pt_not (pt_val (pe_callB call_isi (by rfl) g.isinstance (by decide +kernel) (pa_cons (pv 1) (pa_cons (pe_glob (v := .ref C) rfl T.mgC rfl) pa_nil))))) (pss_one (ps_never)) pss_nil)
      (pss_cons (ps_setLc (i := 2) (own := [("word", 3)]) (g := gName 3)  (by rfl) sc_Counts_sub.nd rfl rfl (sw_true rfl rfl rfl (by decide +kernel)) (pi_list (pe_call GJw hrJw rfl mJw FJw.kp bJw .nil pass0 (pa_cons (pv 0) (pa_cons (pv 1) pa_nil)))) (blkOk_by (own := [("word", 3)]) (N := ["self", "other", "pairs", "word"]) (sc := defScope s_Counts_sub) (by decide +kernel)) (fun _ _ _ _ _ => (pg_name (i := 3) sc_Counts_sub.nd rfl (Or.inl rfl))) (fun _ _ _ _ _ => pts_nil) (fun _ _ _ _ _ => (pe_tup (pa_cons (pv 3) (pa_cons (pe_op op_sub (pe_ixO SGe.c SGe.fi SGe.ok hrGe SGe.b pass0 (pv 0) (pv 3)) (pe_ixO SGe.c SGe.fi SGe.ok hrGe SGe.b pass0 (pv 1) (pv 3))) pa_nil)))))
      (pss_one (ps_ret (pe_mkS T.mke T.ini hrI rfl T.mgC pass0 (pv 2)))))), ?_⟩
    obtain ⟨⟨dx, hp⟩, _⟩ := id hc
    obtain ⟨⟨dx2, hq⟩, _⟩ := id hc2
    refine ⟨_, rfl, _, _, _, _, true, rfl, .own C, ci.ty hq, kit_self, _, rfl, iteF ?_⟩
    refine ⟨_, rfl, _, rfl, p, d, q, e, t, u, rfl, hc, hc2, hl, hl2, fun l H1 ws hl' s1 h1 ha hm hle => ⟨l, rfl, ⟨_, SqL.of h1⟩, fun D hD => ?_⟩⟩
    have hww : ∀ z ∈ ws, Word z := fun z hz => ((hm z).mp hz).elim (hc.wd z) (hc2.wd z)
    refine lc_pairs (G := fun z => val t z - val u z) h1 hD (by omega) (fun _ => rfl) (fun z hz H' s' Qe qk => ?_) fun H' xs s' hD' hP' => ?_
    · have hcA := (hc.same s1).same s'
      obtain ⟨⟨dxA, hpA⟩, _⟩ := id hcA
      refine ⟨_, rfl, _, rfl, _, rfl, p, dxA, _, rfl, hpA, p, d, t, z, rfl, hww z hz, hcA, fun H2 s2 => ?_⟩
      have hcB := ((hc2.same s1).same s').same s2
      obtain ⟨⟨dxB, hqB⟩, _⟩ := id hcB
      refine ⟨_, rfl, _, rfl, q, dxB, _, rfl, hqB, q, e, u, z, rfl, hww z hz, hcB, fun H3 s3 => ⟨_, _, rfl, rfl, ?_⟩⟩
      
      exact ⟨by show 2 ≤ sizeLine; decide, fun T2 hT2 => qk T2 _ ((s2.trans s3).free hT2) ((s2.trans s3).trans (Same.new hT2)) upd_same⟩
    · refine ⟨_, rfl, D, xs, rfl, .inr (SqL.of hD'), mk_pairs hP' (wd_map hww _) (by rw [List.length_map]; omega) (by rw [List.length_map]; exact hle) (fun z => ?_) (k.later (s1.trans s'))⟩
      rw [sumOf_map ha]
      by_cases c : z ∈ ws
      · rw [if_pos c]
      · have c1 : ¬ (z ∈ keys t ∨ z ∈ keys u) := mt (hm z).mpr c
        rw [if_neg c, val_out (fun m => c1 (.inl m)), val_out (fun m => c1 (.inr m))]
        rfl
theorem ok_and {C f fGe fJw : Addr} {fd fdGe fdJw : FuncData} {fI : Addr} (F : Fun K "__and__" "Counts.__and__" s_Counts_and f fd) (g : Bj mg) (T : CT P w K mg base C fI) (ci : CI K C) (SGe : GDef P w K mg base CX0 2 C "__getitem__" ["self", "word"] (spGet C) fGe fdGe)
    (FJw : Def P w K mg base CX0 3 "joint_words" ["one", "other"] (spJoint C) fJw fdJw) : FnOk P w K mg base CX0 4 f fd ["self", "other"] (spBin C fun a b => if b < a then b else a) := by
  obtain ⟨GJw, mJw, _, bJw⟩ := id FJw
  refine F.ok sc_Counts_and (fun vs H Q E h => ?_) (fun cdv A outer s H vs Q E hr h => ?_)
  · obtain ⟨_, _, _, _, _, _, rfl, _⟩ := h
    rfl
  · obtain ⟨p, d, q, e, t, u, rfl, hc, hc2, hl, hl2, k⟩ := h
    have hrJw : Room 3 _ := hr.mono (by decide)
    have hrGe : Room 3 _ := hr.mono (by decide)
    have hrI : Room 2 _ := hr.mono (by decide)
    refine ⟨_, (pss_cons (ps_if (pt_not (pt_val (pe_callB call_isi (by rfl) g.isinstance (by decide +kernel) (pa_cons (pv 1) (pa_cons (pe_glob (v := .ref C) rfl T.mgC rfl) pa_nil))))) (pss_one (ps_never)) pss_nil)
      (pss_cons (ps_setLc (i := 2) (own := [("word", 3)]) (g := gName 3)  (by rfl) sc_Counts_and.nd rfl rfl (sw_true rfl rfl rfl (by decide +kernel)) (pi_list (pe_call GJw hrJw rfl mJw FJw.kp bJw .nil pass0 (pa_cons (pv 0) (pa_cons (pv 1) pa_nil)))) (blkOk_by (own := [("word", 3)]) (N := ["self", "other", "pairs", "word"]) (sc := defScope s_Counts_and) (by decide +kernel)) (fun _ _ _ _ _ => (pg_name (i := 3) sc_Counts_and.nd rfl (Or.inl rfl))) (fun _ _ _ _ _ => pts_nil) (fun _ _ _ _ _ => (pe_tup (pa_cons (pv 3) (pa_cons (pe_callB (call_min2 rfl) (by rfl) g.min (by decide +kernel) (pa_cons (pe_callTy call_int1 (by rfl) g.int (by decide +kernel) (pa_cons (pe_ixO SGe.c SGe.fi SGe.ok hrGe SGe.b pass0 (pv 0) (pv 3)) pa_nil)) (pa_cons (pe_callTy call_int1 (by rfl) g.int (by decide +kernel) (pa_cons (pe_ixO SGe.c SGe.fi SGe.ok hrGe SGe.b pass0 (pv 1) (pv 3)) pa_nil)) pa_nil))) pa_nil)))))
      (pss_one (ps_ret (pe_mkS T.mke T.ini hrI rfl T.mgC pass0 (pv 2)))))), ?_⟩
    obtain ⟨⟨dx, hp⟩, _⟩ := id hc
    obtain ⟨⟨dx2, hq⟩, _⟩ := id hc2
    refine ⟨_, rfl, _, _, _, _, true, rfl, .own C, ci.ty hq, kit_self, _, rfl, iteF ?_⟩
    refine ⟨_, rfl, _, rfl, p, d, q, e, t, u, rfl, hc, hc2, hl, hl2, fun l H1 ws hl' s1 h1 ha hm hle => ⟨l, rfl, ⟨_, SqL.of h1⟩, fun D hD => ?_⟩⟩
    have hww : ∀ z ∈ ws, Word z := fun z hz => ((hm z).mp hz).elim (hc.wd z) (hc2.wd z)
    refine lc_pairs (G := fun z => if val u z < val t z then val u z else val t z) h1 hD (by omega) (fun _ => rfl) (fun z hz H' s' Qe qk => ?_) fun H' xs s' hD' hP' => ?_
    · have hcA := (hc.same s1).same s'
      obtain ⟨⟨dxA, hpA⟩, _⟩ := id hcA
      refine ⟨_, rfl, _, rfl, _, rfl, p, dxA, _, rfl, hpA, p, d, t, z, rfl, hww z hz, hcA, fun H2 s2 => ?_⟩
      have hcB := ((hc2.same s1).same s').same s2
      obtain ⟨⟨dxB, hqB⟩, _⟩ := id hcB
      refine Or.inl ⟨_, rfl, _, rfl, _, rfl, q, dxB, _, rfl, hqB, q, e, u, z, rfl, hww z hz, hcB, fun H3 s3 => Or.inl ⟨_, rfl, _, _, rfl, ?_⟩⟩
      
      exact ⟨by show 2 ≤ sizeLine; decide, fun T2 hT2 => qk T2 _ ((s2.trans s3).free hT2) ((s2.trans s3).trans (Same.new hT2)) upd_same⟩
    · refine ⟨_, rfl, D, xs, rfl, .inr (SqL.of hD'), mk_pairs hP' (wd_map hww _) (by rw [List.length_map]; omega) (by rw [List.length_map]; exact hle) (fun z => ?_) (k.later (s1.trans s'))⟩
      rw [sumOf_map ha]
      by_cases c : z ∈ ws
      · rw [if_pos c]
      · have c1 : ¬ (z ∈ keys t ∨ z ∈ keys u) := mt (hm z).mpr c
        rw [if_neg c, val_out (fun m => c1 (.inl m)), val_out (fun m => c1 (.inr m))]
        rfl
theorem ok_or {C f fGe fJw : Addr} {fd fdGe fdJw : FuncData} {fI : Addr} (F : Fun K "__or__" "Counts.__or__" s_Counts_or f fd) (g : Bj mg) (T : CT P w K mg base C fI) (ci : CI K C) (SGe : GDef P w K mg base CX0 2 C "__getitem__" ["self", "word"] (spGet C) fGe fdGe)
    (FJw : Def P w K mg base CX0 3 "joint_words" ["one", "other"] (spJoint C) fJw fdJw) : FnOk P w K mg base CX0 4 f fd ["self", "other"] (spBin C fun a b => if b > a then b else a) := by
  obtain ⟨GJw, mJw, _, bJw⟩ := id FJw
  refine F.ok sc_Counts_or (fun vs H Q E h => ?_) (fun cdv A outer s H vs Q E hr h => ?_)
  · obtain ⟨_, _, _, _, _, _, rfl, _⟩ := h
    rfl
  · obtain ⟨p, d, q, e, t, u, rfl, hc, hc2, hl, hl2, k⟩ := h
    have hrJw : Room 3 _ := hr.mono (by decide)
    have hrGe : Room 3 _ := hr.mono (by decide)
    have hrI : Room 2 _ := hr.mono (by decide)
    refine ⟨_, (pss_cons (ps_if (pt_not (pt_val (pe_callB call_isi (by rfl) g.isinstance (by decide +kernel) (pa_cons (pv 1) (pa_cons (pe_glob (v := .ref C) rfl T.mgC rfl) pa_nil))))) (pss_one (ps_never)) pss_nil)
      (pss_cons (ps_setLc (i := 2) (own := [("word", 3)]) (g := gName 3)  (by rfl) sc_Counts_or.nd rfl rfl (sw_true rfl rfl rfl (by decide +kernel)) (pi_list (pe_call GJw hrJw rfl mJw FJw.kp bJw .nil pass0 (pa_cons (pv 0) (pa_cons (pv 1) pa_nil)))) (blkOk_by (own := [("word", 3)]) (N := ["self", "other", "pairs", "word"]) (sc := defScope s_Counts_or) (by decide +kernel)) (fun _ _ _ _ _ => (pg_name (i := 3) sc_Counts_or.nd rfl (Or.inl rfl))) (fun _ _ _ _ _ => pts_nil) (fun _ _ _ _ _ => (pe_tup (pa_cons (pv 3) (pa_cons (pe_callB (call_max2 rfl) (by rfl) g.max (by decide +kernel) (pa_cons (pe_callTy call_int1 (by rfl) g.int (by decide +kernel) (pa_cons (pe_ixO SGe.c SGe.fi SGe.ok hrGe SGe.b pass0 (pv 0) (pv 3)) pa_nil)) (pa_cons (pe_callTy call_int1 (by rfl) g.int (by decide +kernel) (pa_cons (pe_ixO SGe.c SGe.fi SGe.ok hrGe SGe.b pass0 (pv 1) (pv 3)) pa_nil)) pa_nil))) pa_nil)))))
      (pss_one (ps_ret (pe_mkS T.mke T.ini hrI rfl T.mgC pass0 (pv 2)))))), ?_⟩
    obtain ⟨⟨dx, hp⟩, _⟩ := id hc
    obtain ⟨⟨dx2, hq⟩, _⟩ := id hc2
    refine ⟨_, rfl, _, _, _, _, true, rfl, .own C, ci.ty hq, kit_self, _, rfl, iteF ?_⟩
    refine ⟨_, rfl, _, rfl, p, d, q, e, t, u, rfl, hc, hc2, hl, hl2, fun l H1 ws hl' s1 h1 ha hm hle => ⟨l, rfl, ⟨_, SqL.of h1⟩, fun D hD => ?_⟩⟩
    have hww : ∀ z ∈ ws, Word z := fun z hz => ((hm z).mp hz).elim (hc.wd z) (hc2.wd z)
    refine lc_pairs (G := fun z => if val u z > val t z then val u z else val t z) h1 hD (by omega) (fun _ => rfl) (fun z hz H' s' Qe qk => ?_) fun H' xs s' hD' hP' => ?_
    · have hcA := (hc.same s1).same s'
      obtain ⟨⟨dxA, hpA⟩, _⟩ := id hcA
      refine ⟨_, rfl, _, rfl, _, rfl, p, dxA, _, rfl, hpA, p, d, t, z, rfl, hww z hz, hcA, fun H2 s2 => ?_⟩
      have hcB := ((hc2.same s1).same s').same s2
      obtain ⟨⟨dxB, hqB⟩, _⟩ := id hcB
      refine Or.inl ⟨_, rfl, _, rfl, _, rfl, q, dxB, _, rfl, hqB, q, e, u, z, rfl, hww z hz, hcB, fun H3 s3 => Or.inl ⟨_, rfl, _, _, rfl, ?_⟩⟩
      
      exact ⟨by show 2 ≤ sizeLine; decide, fun T2 hT2 => qk T2 _ ((s2.trans s3).free hT2) ((s2.trans s3).trans (Same.new hT2)) upd_same⟩
    · refine ⟨_, rfl, D, xs, rfl, .inr (SqL.of hD'), mk_pairs hP' (wd_map hww _) (by rw [List.length_map]; omega) (by rw [List.length_map]; exact hle) (fun z => ?_) (k.later (s1.trans s'))⟩
      rw [sumOf_map ha]
      by_cases c : z ∈ ws
      · rw [if_pos c]
      · have c1 : ¬ (z ∈ keys t ∨ z ∈ keys u) := mt (hm z).mpr c
        rw [if_neg c, val_out (fun m => c1 (.inl m)), val_out (fun m => c1 (.inr m))]
        rfl
theorem ok_xor {C f fSu fAb : Addr} {fd fdSu fdAb : FuncData} {fI : Addr} (F : Fun K "__xor__" "Counts.__xor__" s_Counts_xor f fd) (g : Bj mg) (T : CT P w K mg base C fI) (ci : CI K C) (OSu : ODef P w K mg base CX0 4 C (PySem.dunder "sub") ["self", "other"] (spBin C fun a b => a - b) fSu fdSu)
    (SAb : GDef P w K mg base CX0 3 C "__abs__" ["self"] (spUn C fun a => if a < 0 then -a else a) fAb fdAb) : FnOk P w K mg base CX0 5 f fd ["self", "other"] (spBin C fun a b => if a - b < 0 then -(a - b) else a - b) := by
  refine F.ok sc_Counts_xor (fun vs H Q E h => ?_) (fun cdv A outer s H vs Q E hr h => ?_)
  · obtain ⟨_, _, _, _, _, _, rfl, _⟩ := h
    rfl
  · obtain ⟨p, d, q, e, t, u, rfl, hc, hc2, hl, hl2, k⟩ := h
    have hrSu : Room 4 _ := hr.mono (by decide)
    have hrAb : Room 4 _ := hr.mono (by decide)
    refine ⟨_, (pss_cons (ps_if (pt_not (pt_val (pe_callB call_isi (by rfl) g.isinstance (by decide +kernel) (pa_cons (pv 1) (pa_cons (pe_glob (v := .ref C) rfl T.mgC rfl) pa_nil))))) (pss_one (ps_never)) pss_nil)
      (pss_one (ps_ret (pe_callB (call_absO SAb.c SAb.ok hrAb SAb.b pass0) (by rfl) g.abs (by decide +kernel) (pa_cons (pe_op (op_own OSu.c OSu.ok hrSu OSu.b pass0) (pv 0) (pv 1)) pa_nil))))), ?_⟩
    obtain ⟨⟨dx, hp⟩, _⟩ := id hc
    obtain ⟨⟨dx2, hq⟩, _⟩ := id hc2
    refine ⟨_, rfl, _, _, _, _, true, rfl, .own C, ci.ty hq, kit_self, _, rfl, iteF ?_⟩
    refine ⟨_, rfl, _, rfl, p, q, dx, dx2, _, _, rfl, rfl, hp, hq, p, d, q, e, t, u, rfl, hc, hc2, hl, hl2, fun r1 e1 H1 t1 hr1 he1 s1 hc1 hv1 hl1 => ?_⟩
    obtain ⟨⟨dx3, hr3⟩, _⟩ := id hc1
    refine ⟨r1, dx3, _, rfl, hr3, r1, e1, t1, rfl, hc1, by omega, fun r2 e2 H2 t2 hr2 he2 s2 hc2' hv2 hl2' => ?_⟩
    refine k r2 e2 H2 t2 (s1.free hr2) (s1.free he2) (s1.trans s2) hc2' (fun z => ?_) (by omega)
    rw [hv2]
    dsimp only
    rw [hv1]
theorem ok_rmul {C f fMu fRm : Addr} {fd fdMu : FuncData} {fI : Addr} (F : Fun K "__rmul__" "Counts.__rmul__" s_Counts_rmul f fd) (g : Bj mg) (T : CT P w K mg base C fI) (OMu : TDef P w K mg base CX0 3 C "mul" ["self", "times"] (spMul C) fMu fRm fdMu) : FnOk P w K mg base CX0 4 f fd ["self", "times"] (spMul C) := by
  refine F.ok sc_Counts_rmul (fun vs H Q E h => ?_) (fun cdv A outer s H vs Q E hr h => ?_)
  · obtain ⟨_, _, _, _, rfl, _⟩ := h
    rfl
  · obtain ⟨p, d, t, n, rfl, hc, hl, hb, k⟩ := h
    have hrMu : Room 3 _ := hr.mono (by decide)
    refine ⟨_, (pss_one (ps_ret (pe_op (op_ownI OMu.c OMu.i1 OMu.i2 OMu.ok hrMu OMu.b pass0) (pv 0) (pv 1)))), ?_⟩
    obtain ⟨⟨dx, hp⟩, _⟩ := id hc
    exact ⟨_, rfl, _, rfl, p, dx, _, n, rfl, rfl, hp, p, d, t, n, rfl, hc, hl, hb, k⟩
theorem ok_iadd {C f fOp : Addr} {fd fdOp : FuncData} {fI : Addr} (F : Fun K "__iadd__" "Counts.__iadd__" s_Counts_iadd f fd) (g : Bj mg) (T : CT P w K mg base C fI) (OAd : ODef P w K mg base CX0 4 C (PySem.dunder "add") ["self", "other"] (spBin C fun a b => a + b) fOp fdOp) : FnOk P w K mg base CX0 5 f fd ["self", "other"] (spIn C fun a b => a + b) := by
  refine F.ok sc_Counts_iadd (fun vs H Q E h => ?_) (fun cdv A outer s H vs Q E hr h => ?_)
  · obtain ⟨_, _, _, _, _, _, rfl, _⟩ := h
    rfl
  · obtain ⟨p, d, q, e, t, u, rfl, hc, hc2, hl, hl2, k⟩ := h
    have hrAd : Room 4 _ := hr.mono (by decide)
    refine ⟨_, (pss_cons (ps_set (i := 2) sc_Counts_iadd.nd rfl (Or.inl rfl) (pe_op (op_own OAd.c OAd.ok hrAd OAd.b pass0) (pv 0) (pv 1)))
      (pss_cons (ps_fld (pv 0) (pe_fld (pv 2) rfl) rfl)
      (pss_one (ps_ret (pv 0))))), ?_⟩
    obtain ⟨⟨dx, hp⟩, _⟩ := id hc
    obtain ⟨⟨dx2, hq⟩, _⟩ := id hc2
    refine ⟨_, rfl, _, rfl, p, q, dx, dx2, _, _, rfl, rfl, hp, hq, p, d, q, e, t, u, rfl, hc, hc2, hl, hl2, fun r1 e1 H1 t1 hr1 he1 s1 hc1 hv1 hl1 => ?_⟩
    obtain ⟨⟨dx3, hr3⟩, hd3, hh3, hw3⟩ := id hc1
    have npr : p ≠ r1 := ne_of_none hp hr1
    refine ⟨_, rfl, r1, C, dx3, _, _, rfl, hr3, T.cl, T.nH, flds_held e1, _, rfl, p, C, dx, _, rfl, s1 _ _ hp, T.cl, T.nH, (by show 1 < 1000; decide), ?_⟩
    rw [putF_held]
    refine ⟨_, rfl, k e1 _ t1 he1 ⟨⟨dx, upd_same⟩, by rw [upd_ne (ne_of hd3 (s1 _ _ hp) (by intro z; cases z))]; exact hd3, hh3, hw3⟩ hv1 hl1 fun b o eb nb => ?_⟩
    rw [upd_ne nb]
    exact s1 _ _ eb
theorem ok_isub {C f fOp : Addr} {fd fdOp : FuncData} {fI : Addr} (F : Fun K "__isub__" "Counts.__isub__" s_Counts_isub f fd) (g : Bj mg) (T : CT P w K mg base C fI) (OSu : ODef P w K mg base CX0 4 C (PySem.dunder "sub") ["self", "other"] (spBin C fun a b => a - b) fOp fdOp) : FnOk P w K mg base CX0 5 f fd ["self", "other"] (spIn C fun a b => a - b) := by
  refine F.ok sc_Counts_isub (fun vs H Q E h => ?_) (fun cdv A outer s H vs Q E hr h => ?_)
  · obtain ⟨_, _, _, _, _, _, rfl, _⟩ := h
    rfl
  · obtain ⟨p, d, q, e, t, u, rfl, hc, hc2, hl, hl2, k⟩ := h
    have hrSu : Room 4 _ := hr.mono (by decide)
    refine ⟨_, (pss_cons (ps_set (i := 2) sc_Counts_isub.nd rfl (Or.inl rfl) (pe_op (op_own OSu.c OSu.ok hrSu OSu.b pass0) (pv 0) (pv 1)))
      (pss_cons (ps_fld (pv 0) (pe_fld (pv 2) rfl) rfl)
      (pss_one (ps_ret (pv 0))))), ?_⟩
    obtain ⟨⟨dx, hp⟩, _⟩ := id hc
    obtain ⟨⟨dx2, hq⟩, _⟩ := id hc2
    refine ⟨_, rfl, _, rfl, p, q, dx, dx2, _, _, rfl, rfl, hp, hq, p, d, q, e, t, u, rfl, hc, hc2, hl, hl2, fun r1 e1 H1 t1 hr1 he1 s1 hc1 hv1 hl1 => ?_⟩
    obtain ⟨⟨dx3, hr3⟩, hd3, hh3, hw3⟩ := id hc1
    have npr : p ≠ r1 := ne_of_none hp hr1
    refine ⟨_, rfl, r1, C, dx3, _, _, rfl, hr3, T.cl, T.nH, flds_held e1, _, rfl, p, C, dx, _, rfl, s1 _ _ hp, T.cl, T.nH, (by show 1 < 1000; decide), ?_⟩
    rw [putF_held]
    refine ⟨_, rfl, k e1 _ t1 he1 ⟨⟨dx, upd_same⟩, by rw [upd_ne (ne_of hd3 (s1 _ _ hp) (by intro z; cases z))]; exact hd3, hh3, hw3⟩ hv1 hl1 fun b o eb nb => ?_⟩
    rw [upd_ne nb]
    exact s1 _ _ eb
theorem ok_iand {C f fOp : Addr} {fd fdOp : FuncData} {fI : Addr} (F : Fun K "__iand__" "Counts.__iand__" s_Counts_iand f fd) (g : Bj mg) (T : CT P w K mg base C fI) (OAn : ODef P w K mg base CX0 4 C (PySem.dunder "and") ["self", "other"] (spBin C fun a b => if b < a then b else a) fOp fdOp) : FnOk P w K mg base CX0 5 f fd ["self", "other"] (spIn C fun a b => if b < a then b else a) := by
  refine F.ok sc_Counts_iand (fun vs H Q E h => ?_) (fun cdv A outer s H vs Q E hr h => ?_)
  · obtain ⟨_, _, _, _, _, _, rfl, _⟩ := h
    rfl
  · obtain ⟨p, d, q, e, t, u, rfl, hc, hc2, hl, hl2, k⟩ := h
    have hrAn : Room 4 _ := hr.mono (by decide)
    refine ⟨_, (pss_cons (ps_set (i := 2) sc_Counts_iand.nd rfl (Or.inl rfl) (pe_op (op_own OAn.c OAn.ok hrAn OAn.b pass0) (pv 0) (pv 1)))
      (pss_cons (ps_fld (pv 0) (pe_fld (pv 2) rfl) rfl)
      (pss_one (ps_ret (pv 0))))), ?_⟩
    obtain ⟨⟨dx, hp⟩, _⟩ := id hc
    obtain ⟨⟨dx2, hq⟩, _⟩ := id hc2
    refine ⟨_, rfl, _, rfl, p, q, dx, dx2, _, _, rfl, rfl, hp, hq, p, d, q, e, t, u, rfl, hc, hc2, hl, hl2, fun r1 e1 H1 t1 hr1 he1 s1 hc1 hv1 hl1 => ?_⟩
    obtain ⟨⟨dx3, hr3⟩, hd3, hh3, hw3⟩ := id hc1
    have npr : p ≠ r1 := ne_of_none hp hr1
    refine ⟨_, rfl, r1, C, dx3, _, _, rfl, hr3, T.cl, T.nH, flds_held e1, _, rfl, p, C, dx, _, rfl, s1 _ _ hp, T.cl, T.nH, (by show 1 < 1000; decide), ?_⟩
    rw [putF_held]
    refine ⟨_, rfl, k e1 _ t1 he1 ⟨⟨dx, upd_same⟩, by rw [upd_ne (ne_of hd3 (s1 _ _ hp) (by intro z; cases z))]; exact hd3, hh3, hw3⟩ hv1 hl1 fun b o eb nb => ?_⟩
    rw [upd_ne nb]
    exact s1 _ _ eb
theorem ok_ior {C f fOp : Addr} {fd fdOp : FuncData} {fI : Addr} (F : Fun K "__ior__" "Counts.__ior__" s_Counts_ior f fd) (g : Bj mg) (T : CT P w K mg base C fI) (OOr : ODef P w K mg base CX0 4 C (PySem.dunder "or") ["self", "other"] (spBin C fun a b => if b > a then b else a) fOp fdOp) : FnOk P w K mg base CX0 5 f fd ["self", "other"] (spIn C fun a b => if b > a then b else a) := by
  refine F.ok sc_Counts_ior (fun vs H Q E h => ?_) (fun cdv A outer s H vs Q E hr h => ?_)
  · obtain ⟨_, _, _, _, _, _, rfl, _⟩ := h
    rfl
  · obtain ⟨p, d, q, e, t, u, rfl, hc, hc2, hl, hl2, k⟩ := h
    have hrOr : Room 4 _ := hr.mono (by decide)
    refine ⟨_, (pss_cons (ps_set (i := 2) sc_Counts_ior.nd rfl (Or.inl rfl) (pe_op (op_own OOr.c OOr.ok hrOr OOr.b pass0) (pv 0) (pv 1)))
      (pss_cons (ps_fld (pv 0) (pe_fld (pv 2) rfl) rfl)
      (pss_one (ps_ret (pv 0))))), ?_⟩
    obtain ⟨⟨dx, hp⟩, _⟩ := id hc
    obtain ⟨⟨dx2, hq⟩, _⟩ := id hc2
    refine ⟨_, rfl, _, rfl, p, q, dx, dx2, _, _, rfl, rfl, hp, hq, p, d, q, e, t, u, rfl, hc, hc2, hl, hl2, fun r1 e1 H1 t1 hr1 he1 s1 hc1 hv1 hl1 => ?_⟩
    obtain ⟨⟨dx3, hr3⟩, hd3, hh3, hw3⟩ := id hc1
    have npr : p ≠ r1 := ne_of_none hp hr1
    refine ⟨_, rfl, r1, C, dx3, _, _, rfl, hr3, T.cl, T.nH, flds_held e1, _, rfl, p, C, dx, _, rfl, s1 _ _ hp, T.cl, T.nH, (by show 1 < 1000; decide), ?_⟩
    rw [putF_held]
    refine ⟨_, rfl, k e1 _ t1 he1 ⟨⟨dx, upd_same⟩, by rw [upd_ne (ne_of hd3 (s1 _ _ hp) (by intro z; cases z))]; exact hd3, hh3, hw3⟩ hv1 hl1 fun b o eb nb => ?_⟩
    rw [upd_ne nb]
    exact s1 _ _ eb
theorem ok_imul {C f fMu fRm : Addr} {fd fdMu : FuncData} {fI : Addr} (F : Fun K "__imul__" "Counts.__imul__" s_Counts_imul f fd) (g : Bj mg) (T : CT P w K mg base C fI) (OMu : TDef P w K mg base CX0 3 C "mul" ["self", "times"] (spMul C) fMu fRm fdMu) : FnOk P w K mg base CX0 4 f fd ["self", "times"] (spImul C) := by
  refine F.ok sc_Counts_imul (fun vs H Q E h => ?_) (fun cdv A outer s H vs Q E hr h => ?_)
  · obtain ⟨_, _, _, _, rfl, _⟩ := h
    rfl
  · obtain ⟨p, d, t, n, rfl, hc, hl, hb, k⟩ := h
    have hrMu : Room 3 _ := hr.mono (by decide)
    refine ⟨_, (pss_cons (ps_set (i := 2) sc_Counts_imul.nd rfl (Or.inl rfl) (pe_op (op_ownI OMu.c OMu.i1 OMu.i2 OMu.ok hrMu OMu.b pass0) (pv 0) (pv 1)))
      (pss_cons (ps_fld (pv 0) (pe_fld (pv 2) rfl) rfl)
      (pss_one (ps_ret (pv 0))))), ?_⟩
    obtain ⟨⟨dx, hp⟩, _⟩ := id hc
    refine ⟨_, rfl, _, rfl, p, dx, _, n, rfl, rfl, hp, p, d, t, n, rfl, hc, hl, hb, fun r1 e1 H1 t1 hr1 he1 s1 hc1 hv1 hl1 => ?_⟩
    obtain ⟨⟨dx3, hr3⟩, hd3, hh3, hw3⟩ := id hc1
    refine ⟨_, rfl, r1, C, dx3, _, _, rfl, hr3, T.cl, T.nH, flds_held e1, _, rfl, p, C, dx, _, rfl, s1 _ _ hp, T.cl, T.nH, (by show 1 < 1000; decide), ?_⟩
    rw [putF_held]
    refine ⟨_, rfl, k e1 _ t1 he1 ⟨⟨dx, upd_same⟩, by rw [upd_ne (ne_of hd3 (s1 _ _ hp) (by intro z; cases z))]; exact hd3, hh3, hw3⟩ hv1 hl1 fun b o eb nb => ?_⟩
    rw [upd_ne nb]
    exact s1 _ _ eb
end
end Cs

set_option Elab.async false
set_option linter.all false
set_option maxRecDepth 100000
set_option maxHeartbeats 4000000
/-! Methods, properties and the like as their callers have them; more plain laws. -/
namespace Cs
open PySem L2
/-- an own special method, a property, a classmethod, a def with a star, as callers have them -/
structure SDef (P : Program) (w : World) (K : PySem.W.Frag) (mg : Str → Option Value) (base : Heap) (CX : CXT) (k : Nat) (C : Addr) (m : Str) (ps : List Str) (sp : Sp) (f : Addr) (fd : FuncData) : Prop where
  c : Spc K C m f
  ns : PySem.W.noSeq K C = true
  ok : FnOk P w K mg base CX k f fd ps sp
  b : Binds K fd ps []
structure PDef (P : Program) (w : World) (K : PySem.W.Frag) (mg : Str → Option Value) (base : Heap) (CX : CXT) (k : Nat) (C : Addr) (m : Str) (sp : Sp) (q f : Addr) (fd : FuncData) : Prop where
  p : PropOf K C m q f
  ok : FnOk P w K mg base CX k f fd ["self"] sp
  b : Binds K fd ["self"] []
structure KDef (P : Program) (w : World) (K : PySem.W.Frag) (mg : Str → Option Value) (base : Heap) (CX : CXT) (k : Nat) (C : Addr) (mc : Value) (m : Str) (sp : Sp) (q f : Addr) : Prop where
  r : ClX.CRead K C mc
  c : ClX.CMet K C mc m q f
  ok : FnR P w K mg base CX k f sp
structure RDef (P : Program) (w : World) (K : PySem.W.Frag) (mg : Str → Option Value) (base : Heap) (CX : CXT) (k : Nat) (C : Addr) (m : Str) (sp : Sp) (f : Addr) : Prop where
  me : Meth K C m f
  ok : FnR P w K mg base CX k f sp
theorem nodup_of_map {α β : Type} {f : α → β} {l : List α} (h : (l.map f).Nodup) : l.Nodup := by
  unfold List.Nodup at h ⊢
  rw [List.pairwise_map] at h
  exact h.imp fun n e => n (by rw [e])
theorem told_perm {t l : Tab} (h : Held t) (k : Told (val t) l) : l.Perm t := by
  have n1 : l.Nodup := by
    have := k.asc.nodup
    unfold keys at this
    exact nodup_of_map this
  have n2 : t.Nodup := by
    have := h.nd
    unfold keys at this
    exact nodup_of_map this
  rw [List.perm_ext_iff_of_nodup n1 n2]
  rintro ⟨z, n⟩
  rw [k.mem]
  constructor
  · rintro ⟨e, q⟩
    have hz : z ∈ keys t := (h.keys_iff z).mpr (e ▸ q)
    obtain ⟨n', a, b⟩ := look_some hz
    have : n = n' := by rw [e]; unfold val; rw [a]; rfl
    rw [this]
    exact b
  · intro m
    refine ⟨?_, h.nz _ m⟩
    unfold val
    rw [look_mem h.nd m]
    rfl
theorem sum_perm {l m : List Int} (h : l.Perm m) : l.sum = m.sum := by
  induction h with
  | nil => rfl
  | cons x _ ih => rw [List.sum_cons, List.sum_cons, ih]
  | swap x y l => rw [List.sum_cons, List.sum_cons, List.sum_cons, List.sum_cons]; omega
  | trans _ _ a b => exact a.trans b
theorem total_told {t l : Tab} (h : Held t) (k : Told (val t) l) : (t.map (·.2)).sum = (l.map (·.2)).sum := (sum_perm ((told_perm h k).map _)).symm
theorem Told.congr {f g : Str → Int} {l : Tab} (h : Told f l) (e : ∀ z, f z = g z) : Told g l := by
  obtain rfl : f = g := funext e
  exact h
theorem cut_last (xs : List V) (x : V) : cutV (xs ++ [x]) none (some (-1)) = xs := by
  unfold cutV
  show ((xs ++ [x]).drop 0).take ((-1 + ((xs ++ [x]).length : Int)).toNat - 0) = xs
  rw [List.length_append, List.drop_zero]
  have : (-1 + ((xs.length + [x].length : Nat) : Int)).toNat - 0 = xs.length := by
    simp only [List.length_singleton]
    omega
  rw [this]
  simp
def pds (zs : List Str) : PyData := .list (zs.map .str)
theorem pds_can : ∀ {zs : List Str}, (∀ z ∈ zs, Word z) → PyData.canLayAll0 (zs.map .str) = true
  | [], _ => rfl
  | z :: zs, h => by
    rw [List.map_cons, PyData.canLayAll0, pds_can fun y m => h y (List.mem_cons_of_mem _ m), PyData.canLay0, word_ok (h z List.mem_cons_self)]
    rfl
theorem pds_depth : ∀ zs : List Str, PyData.depthAll (zs.map .str) = 0
  | [] => rfl
  | z :: zs => by
    rw [List.map_cons, PyData.depthAll, pds_depth zs, PyData.depth]
    rfl
theorem pds_shaped {zs : List Str} (h : ∀ z ∈ zs, Word z) : SeqAt.shaped (pds zs) = true := by
  unfold SeqAt.shaped pds
  rw [Bool.and_eq_true]
  refine ⟨by rw [PyData.canLay0]; exact pds_can h, decide_eq_true ?_⟩
  rw [PyData.depth, pds_depth]
  decide
theorem pds_refl {zs : List Str} (h : ∀ z ∈ zs, Word z) : PyData.eqv (pds zs) (pds zs) = true := SeqAt.eqv_refl _ (SeqAt.canLay_of_shaped (pds_shaped h))
theorem dp_strs {K : PySem.W.Frag} {H : Hp} : ∀ zs : List Str, DpAll K H (zs.map V.str) (zs.map .str)
  | [] => .nil
  | z :: zs => .cons (.str z) (dp_strs zs)
theorem four {α : Type} {l : List α} (h : l.length = 4) : ∃ a b c d, l = [a, b, c, d] := by
  match l, h with
  | [a, b, c, d], _ => exact ⟨a, b, c, d, rfl⟩
def spLaw (K : PySem.W.Frag) : Sp := fun vs H Q _ => ∃ (a : Addr) (ns : List Int), vs = [.ref a] ∧ SqL K H a (ns.map V.int) ∧ ns.length ≤ 63 ∧ ∀ H', Q (.bl true) H'
end Cs

set_option Elab.async false
set_option linter.all false
set_option maxRecDepth 100000
set_option maxHeartbeats 4000000
/-! Plain laws for models made word by word; rows of counts and their models. -/
namespace Cs
open PySem L2
/-- the table of G at the words ws -/
def byT (G : Str → Int) (ws : List Str) : Tab := ws.foldl (fun t z => put t z (G z)) []
theorem byT_snoc (G : Str → Int) (ws : List Str) (z : Str) : byT G (ws ++ [z]) = put (byT G ws) z (G z) := by
  unfold byT
  rw [List.foldl_append]
  rfl
theorem byT_nd (G : Str → Int) : ∀ ws, (keys (byT G ws)).Nodup := snoc_rec List.nodup_nil fun l a h => by
  rw [byT_snoc]
  exact nd_put h
theorem byT_keys (G : Str → Int) (z : Str) : ∀ ws, z ∈ keys (byT G ws) ↔ z ∈ ws := snoc_rec ⟨(fun h => nomatch h), fun h => nomatch h⟩ fun l a h => by
  rw [byT_snoc, mem_keys_put, h, List.mem_append, List.mem_singleton]
theorem byT_val (G : Str → Int) (z : Str) : ∀ ws, val (byT G ws) z = if z ∈ ws then G z else 0 := snoc_rec rfl fun l a h => by
  rw [byT_snoc, val_put (byT_nd G l), h]
  by_cases e : z = a
  · subst e
    rw [if_pos rfl, if_pos (by simp)]
  · rw [if_neg e]
    by_cases m : z ∈ l
    · rw [if_pos m, if_pos (by simp [m])]
    · rw [if_neg m, if_neg (by simp [m, e])]
theorem byT_len (G : Str → Int) : ∀ ws, (byT G ws).length ≤ ws.length := snoc_rec (Nat.le_refl _) fun l a h => by
  rw [byT_snoc, List.length_append]
  have := len_put (byT G l) a (G a)
  simp only [List.length_singleton]
  omega
theorem val_outK {t : Tab} {z : Str} (h : z ∉ keys t) : val t z = 0 := by
  unfold val
  rw [look_none h]
  rfl
theorem keys_len (t : Tab) : (keys t).length = t.length := List.length_map _
theorem keys_at {t : Tab} {i : Nat} (h : i < t.length) : (keys t)[i]? = some t[i].1 := by
  unfold keys
  rw [List.getElem?_map, List.getElem?_eq_getElem h]
  rfl
/-- keys as values -/
theorem tv_keys (t : Tab) : (tv t).map (fun q => kV q.1) = (keys t).map V.str := by
  unfold tv keys
  rw [List.map_map, List.map_map]
  rfl
/-! sizes -/
def Bd (n : Int) : Prop := n.natAbs < 2 ^ 1000
theorem log_of {n : Int} (h : Bd n) : n.natAbs.log2 ≤ 1000 := by
  by_cases e : n.natAbs = 0
  · rw [e]
    decide
  · exact Nat.le_of_lt ((Nat.log2_lt e).mpr h)
theorem logs_of {n m : Int} (h : Bd n) (k : Bd m) : n.natAbs.log2 + m.natAbs.log2 < 1000000 := by
  have := log_of h
  have := log_of k
  omega
theorem Small.bd {n : Int} (h : Small n) : Bd n := by
  have h1 := h.1
  have h2 := h.2
  have h3 : n.natAbs < 10 ^ 30 := by omega
  exact Nat.lt_trans h3 (by decide +kernel)
theorem sumOf_small (z : Str) : ∀ {ps : List (Str × Int)}, GoodPs ps → -(10 ^ 30 * (ps.length : Int)) ≤ sumOf ps z ∧ sumOf ps z ≤ 10 ^ 30 * (ps.length : Int)
  | [], _ => ⟨Int.le_refl _, Int.le_refl _⟩
  | q :: ps, h => by
    obtain ⟨a, b⟩ := sumOf_small z (ps := ps) fun r m => h r (List.mem_cons_of_mem _ m)
    obtain ⟨c, d⟩ := (h q List.mem_cons_self).2
    have e : sumOf (q :: ps) z = (if q.1 = z then q.2 else 0) + sumOf ps z := by
      unfold sumOf
      rw [List.filter_cons]
      by_cases e : q.1 = z
      · rw [if_pos (decide_eq_true e), if_pos e, List.map_cons, List.sum_cons]
      · rw [if_neg (by simpa using e), if_neg e, Int.zero_add]
    rw [e, List.length_cons]
    by_cases e : q.1 = z
    · rw [if_pos e]
      omega
    · rw [if_neg e]
      omega
theorem sumOf_bd {ps : List (Str × Int)} (h : GoodPs ps) (hl : ps.length ≤ 1000) (z : Str) : Bd (sumOf ps z) := by
  obtain ⟨a, b⟩ := sumOf_small z h
  have : (sumOf ps z).natAbs ≤ 10 ^ 30 * 1000 := by omega
  exact Nat.lt_of_le_of_lt this (by decide +kernel)
/-! rows -/
def RowOk (C : Addr) (H : Hp) (x : V) (a : Addr × Addr) : Prop := ∃ (T r : Addr) (t u : Tab), x = .ref T ∧ H T = some (.tup [.ref r, .ref a.2]) ∧ Cnt C H r a.1 t ∧ t.length ≤ 50 ∧ Mdl H a.2 u ∧ u.length ≤ 50 ∧ ∀ z, val t z = val u z
theorem RowOk.same {C : Addr} {H H' : Hp} {x : V} {a : Addr × Addr} (s : Same H H') (h : RowOk C H x a) : RowOk C H' x a := by
  obtain ⟨T, r, t, u, e, hT, hc, hl, hm, hlu, hv⟩ := h
  exact ⟨T, r, t, u, e, s _ _ hT, hc.same s, hl, hm.same s, hlu, hv⟩
theorem pair_snoc {α β : Type} {R : α → β → Prop} : ∀ {xs : List α} {ys : List β} {x : α} {y : β}, Paired R xs ys → R x y → Paired R (xs ++ [x]) (ys ++ [y])
  | _, _, _, _, .nil, h => .cons h .nil
  | _, _, _, _, .cons r t, h => .cons r (pair_snoc t h)
theorem pair_len {α β : Type} {R : α → β → Prop} : ∀ {xs : List α} {ys : List β}, Paired R xs ys → xs.length = ys.length
  | _, _, .nil => rfl
  | _, _, .cons _ t => congrArg (· + 1) (pair_len t)
/-- rows whose results' dicts are apart from each other, from all models of rows and from S -/
structure RWs (C : Addr) (S : List Addr) (H : Hp) (xs : List V) (as : List (Addr × Addr)) : Prop where
  ok : Paired (RowOk C H) xs as
  pw : as.Pairwise fun a b => a.1 ≠ b.1
  mx : ∀ a ∈ as, ∀ b ∈ as, a.1 ≠ b.2
  own : ∀ a ∈ as, a.1 ∉ S
  ex : ∀ s ∈ S, ∃ o, H s = some o
theorem rows_at {C : Addr} {H : Hp} : ∀ {xs : List V} {as : List (Addr × Addr)}, Paired (RowOk C H) xs as → ∀ a ∈ as, (∃ o, H a.1 = some o) ∧ ∃ o, H a.2 = some o
  | _, _, .nil, a, h => nomatch h
  | _, _, .cons r t, a, h => by
    rcases List.mem_cons.mp h with e | e
    · subst e
      obtain ⟨T, r, t, u, _, _, hc, _, hm, _⟩ := r
      exact ⟨⟨_, hc.dc⟩, ⟨_, hm.dc⟩⟩
    · exact rows_at t a e
theorem RWs.same {C : Addr} {S : List Addr} {H H' : Hp} {xs : List V} {as : List (Addr × Addr)} (s : Same H H') (h : RWs C S H xs as) : RWs C S H' xs as := ⟨L2.Paired.mapP h.ok fun _ _ r => r.same s, h.pw, h.mx, h.own, fun b m => by
  obtain ⟨o, e⟩ := h.ex b m
  exact ⟨o, s _ _ e⟩⟩
theorem RWs.snoc {C : Addr} {S : List Addr} {H H' : Hp} {xs : List V} {as : List (Addr × Addr)} {x : V} {e m : Addr} (h : RWs C S H xs as) (s : Same H H') (f1 : H e = none) (f2 : H m = none ∨ m ∈ S) (ne : e ≠ m) (r : RowOk C H' x (e, m)) : RWs C S H' (xs ++ [x]) (as ++ [(e, m)]) := by
  have hS := h.same s
  refine ⟨pair_snoc hS.ok r, ?_, ?_, ?_, hS.ex⟩
  · rw [List.pairwise_append]
    refine ⟨h.pw, List.pairwise_singleton _ _, fun a ha b hb => ?_⟩
    rw [List.mem_singleton.mp hb]
    obtain ⟨⟨_, h1⟩, _⟩ := rows_at h.ok a ha
    exact ne_of_none h1 f1
  · intro a ha b hb
    rcases List.mem_append.mp ha with qa | qa <;> rcases List.mem_append.mp hb with qb | qb
    · exact h.mx a qa b qb
    · rw [List.mem_singleton.mp qb]
      obtain ⟨⟨_, h1⟩, _⟩ := rows_at h.ok a qa
      rcases f2 with f2 | f2
      · exact ne_of_none h1 f2
      · exact fun q => h.own a qa (by rw [q]; exact f2)
    · rw [List.mem_singleton.mp qa]
      obtain ⟨_, ⟨_, h2⟩⟩ := rows_at h.ok b qb
      exact (ne_of_none h2 f1).symm
    · rw [List.mem_singleton.mp qa, List.mem_singleton.mp qb]
      exact ne
  · intro a ha
    rcases List.mem_append.mp ha with qa | qa
    · exact h.own a qa
    · rw [List.mem_singleton.mp qa]
      intro q
      obtain ⟨o, e'⟩ := h.ex _ q
      exact ne_of_none e' f1 rfl
theorem RWs.nil {C : Addr} {S : List Addr} {H : Hp} (h : ∀ s ∈ S, ∃ o, H s = some o) : RWs C S H [] [] := ⟨.nil, .nil, (fun _ h => nomatch h), (fun _ h => nomatch h), h⟩
/-- what stays of rows when the dict at aa.1 is changed -/
theorem rows_step {C : Addr} {H H3 : Hp} {e : Addr} {t0 : List (Key × V)} (he : H e = some (.dK t0)) (kk : ∀ b o, H b = some o → b ≠ e → H3 b = some o) : ∀ {ys : List V} {bs : List (Addr × Addr)}, Paired (RowOk C H) ys bs → (∀ b ∈ bs, e ≠ b.1 ∧ e ≠ b.2) → Paired (RowOk C H3) ys bs
  | _, _, .nil, _ => .nil
  | _, _, .cons hr tl, hd => by
    refine .cons ?_ (rows_step he kk tl fun b hb => hd b (List.mem_cons_of_mem _ hb))
    obtain ⟨Tb, rb, tb, ub, eb, hTb, ⟨⟨dx, h1⟩, h2, h3, h4⟩, hlb, hmb, hlub, hvb⟩ := hr
    obtain ⟨q1, q2⟩ := hd _ List.mem_cons_self
    have dif : ∀ {b : Addr} {o : HO}, H b = some o → (∀ kvs, o ≠ .dK kvs) → H3 b = some o := fun {b o} e1 nn => kk b o e1 (by rintro rfl; rw [he] at e1; exact nn _ (Option.some.inj e1).symm)
    exact ⟨Tb, rb, tb, ub, eb, dif hTb (fun _ q => by cases q), ⟨⟨dx, dif h1 (fun _ q => by cases q)⟩, kk _ _ h2 q1.symm, h3, h4⟩, hlb, ⟨kk _ _ hmb.dc q2.symm, hmb.nd, hmb.wd⟩, hlub, hvb⟩
theorem Cnt.keep {C : Addr} {H H3 : Hp} {e : Addr} {t0 : List (Key × V)} {r d : Addr} {t : Tab} (he : H e = some (.dK t0)) (kk : ∀ b o, H b = some o → b ≠ e → H3 b = some o) (h : Cnt C H r d t) (n : d ≠ e) : Cnt C H3 r d t := by
  obtain ⟨⟨dx, h1⟩, h2, h3, h4⟩ := h
  exact ⟨⟨dx, kk _ _ h1 (by rintro rfl; rw [he] at h1; cases h1)⟩, kk _ _ h2 n, h3, h4⟩
theorem Mdl.keep {H H3 : Hp} {e : Addr} {m : Addr} {u : Tab} (kk : ∀ b o, H b = some o → b ≠ e → H3 b = some o) (h : Mdl H m u) (n : m ≠ e) : Mdl H3 m u := ⟨kk _ _ h.dc n, h.nd, h.wd⟩
end Cs

set_option Elab.async false
set_option linter.all false
set_option maxRecDepth 100000
set_option maxHeartbeats 4000000
/-! Boxes that change: what stays when the source draws, sizes that grow, lengths by a set of words. -/
namespace Cs
open PySem L2
theorem Cnt.kp {C : Addr} {H H' : Hp} {p c r d : Addr} {t : Tab} (S : Src H p c) (k : Kp p H H') (h : Cnt C H r d t) : Cnt C H' r d t := by
  obtain ⟨⟨dx, h1⟩, h2, h3, h4⟩ := h
  obtain ⟨_, _, _, _, e, _⟩ := id S
  exact ⟨⟨dx, k _ _ h1 (by rintro rfl; rw [e] at h1; cases h1)⟩, k _ _ h2 (by rintro rfl; rw [e] at h2; cases h2), h3, h4⟩
theorem Mdl.kp {H H' : Hp} {p c m : Addr} {u : Tab} (S : Src H p c) (k : Kp p H H') (h : Mdl H m u) : Mdl H' m u := by
  obtain ⟨_, _, _, _, e, _⟩ := id S
  exact ⟨k _ _ h.dc (by rintro rfl; have := h.dc; rw [e] at this; cases this), h.nd, h.wd⟩
def BN (k : Nat) (n : Int) : Prop := n.natAbs < 2 ^ k
theorem BN.log {k : Nat} {n : Int} (h : BN k n) : n.natAbs.log2 ≤ k := by
  by_cases e : n.natAbs = 0
  · rw [e]
    exact Nat.zero_le _
  · exact Nat.le_of_lt ((Nat.log2_lt e).mpr h)
theorem BN.logs {j k : Nat} {n m : Int} (h : BN j n) (h2 : BN k m) (l : j + k < 1000000) : n.natAbs.log2 + m.natAbs.log2 < 1000000 := by
  have := h.log
  have := h2.log
  omega
theorem BN.up {j k : Nat} {n : Int} (h : BN j n) (l : j ≤ k) : BN k n := Nat.lt_of_lt_of_le h (Nat.pow_le_pow_right (by decide) l)
theorem BN.add {k : Nat} {n m : Int} (h : BN k n) (h2 : BN k m) : BN (k + 1) (n + m) := by
  unfold BN at *
  rw [Nat.pow_succ]
  omega
theorem BN.neg {k : Nat} {n : Int} (h : BN k n) : BN k (-n) := by
  unfold BN at *
  rw [Int.natAbs_neg]
  exact h
theorem BN.sub {k : Nat} {n m : Int} (h : BN k n) (h2 : BN k m) : BN (k + 1) (n - m) := by
  rw [Int.sub_eq_add_neg]
  exact h.add h2.neg
theorem BN.mul {j k : Nat} {n m : Int} (h : BN j n) (h2 : BN k m) : BN (j + k) (n * m) := by
  unfold BN at *
  rw [Int.natAbs_mul, Nat.pow_add]
  exact Nat.mul_lt_mul'' h h2
theorem Small.bn {n : Int} (h : Small n) : BN 100 n := by
  have h1 := h.1
  have h2 := h.2
  have h3 : n.natAbs < 10 ^ 30 := by omega
  exact Nat.lt_trans h3 (by decide +kernel)
theorem sumOf_bn {ps : List (Str × Int)} (h : GoodPs ps) (hl : ps.length ≤ 1000) (z : Str) : BN 110 (sumOf ps z) := by
  obtain ⟨a, b⟩ := sumOf_small z h
  have : (sumOf ps z).natAbs ≤ 10 ^ 30 * 1000 := by omega
  exact Nat.lt_of_le_of_lt this (by decide +kernel)
theorem nodup_len : ∀ {zs W : List Str}, zs.Nodup → (∀ z ∈ zs, z ∈ W) → zs.length ≤ W.length
  | [], _, _, _ => Nat.zero_le _
  | z :: zs, W, nd, hs => by
    obtain ⟨n1, n2⟩ := List.nodup_cons.mp nd
    have hz := hs z List.mem_cons_self
    have ih := nodup_len (zs := zs) (W := W.erase z) n2 fun y hy => (List.mem_erase_of_ne (by rintro rfl; exact n1 hy)).mpr (hs y (List.mem_cons_of_mem _ hy))
    rw [List.length_erase_of_mem hz] at ih
    have : 0 < W.length := List.length_pos_of_mem hz
    rw [List.length_cons]
    omega
theorem tab_len {W : List Str} {u : Tab} (nd : (keys u).Nodup) (h : ∀ z ∈ keys u, z ∈ W) : u.length ≤ W.length := by
  rw [← keys_len]
  exact nodup_len nd h
/-- the words of counts are among those of their model -/
theorem held_in {t u : Tab} (h : Held t) (e : ∀ z, val t z = val u z) : ∀ z ∈ keys t, z ∈ keys u := fun z m => by
  have := (h.keys_iff z).mp m
  rw [e] at this
  exact Classical.byContradiction fun q => this (val_outK q)
/-- the five changes -/
def opM (mode n a b : Int) : Int := if mode = 0 then a + b else if mode = 1 then a - b else if mode = 2 then (if b < a then b else a) else if mode = 3 then (if b > a then b else a) else n * a
theorem opM_bn {k : Nat} {mode n a b : Int} (hn : BN 100 n) (ha : BN k a) (hb : BN k b) : BN (k + 100) (opM mode n a b) := by
  unfold opM
  split
  · exact (ha.add hb).up (by omega)
  split
  · exact (ha.sub hb).up (by omega)
  split
  · split
    · exact hb.up (by omega)
    · exact ha.up (by omega)
  split
  · split
    · exact hb.up (by omega)
    · exact ha.up (by omega)
  · rw [Nat.add_comm]
    exact hn.mul ha
theorem opM_zero (mode n : Int) : opM mode n 0 0 = 0 := by
  unfold opM
  split
  · rfl
  split
  · rfl
  split
  · rfl
  split
  · rfl
  · exact Int.mul_zero n
end Cs

set_option Elab.async false
set_option linter.all false
set_option maxRecDepth 100000
set_option maxHeartbeats 4000000
/-! Comparisons of an own class: == by its own __eq__, != by object.__ne__; dicts of words and integers compared. -/
namespace Cs
open PySem PySem.Spec PyProof.Rows L2
section
variable {M : Model} {prog : Program} {w : World} {A : Around} {E : Value → Shared → Prop} {s : Shared} {K : PySem.W.Frag} {x C f : Addr} {ox : Obj} {od : Option Obj}
theorem ifBound_objNe {args : List Value} {Q : Option Value → Shared → Prop} (X : K.In s.heap) (I : PySem.W.InstAt s.heap x ox C od) (hs : PySem.W.findIn K (.ref C) "__ne__" = some (some (.builtin "object.__ne__")))
    (h : wpAny M A (call (.builtin "object.__ne__") (.ref x :: args)) (fun v => Q (some v)) E s) : wpAny M A (callSpecialIfBound? (.ref x) "__ne__" args) Q E s := by
  simp only [callSpecialIfBound?, bindSpecialIfBound?]
  refine wpAny_holding (wpAny_bind (wpAny_bind (wpAny_bind (I.type.here ((PySem.W.looks_findIn X hs).here ?_)))))
  refine wpAny_bind (wpAny_askSetting (wpAny_ite ?_))
  have fin : wpAny M A (call (.builtin "object.__ne__") ([.ref x] ++ args) >>= fun v => pure (some v)) Q E s := wpAny_bind (wpAny_mono h (fun v s' h' => wpAny_pure h') fun _ _ h' => h')
  split
  · exact wpAny_bind (wpAny_of_eq (F.cmp_object.ne.bind _) (wpAny_pure (by exact fin)))
  · exact wpAny_tryCatch (wpAny_bind (wpAny_of_eq (F.cmp_object.ne.bind _) (wpAny_pure (by exact fin))))
theorem objNe_own {b : Value} {Q : Fin → Shared → Prop} (hu : A.units < cLine) (X : K.In s.heap) (I : PySem.W.InstAt s.heap x ox C od) (hs : PySem.W.findIn K (.ref C) "__eq__" = some (some (.ref f))) (hf : PySem.W.isFn K (.ref f) = true)
    (h : wpAny (model prog w) A (call (.ref f) [.ref x, b]) (fun v s' => ∃ k, v = .bool k ∧ Q (.done (.ret (.bool (!k)))) s') E s) : wpAny (model prog w) A (Builtin.«object.__ne__» ⟨[.ref x, b], []⟩) Q E s := by
  unfold Builtin.«object.__ne__»
  repeat (first
    | with_reducible refine wpAny_cRoomFor hu ?_
    | (refine wpAny_bind (m := callSpecialIfBound? (.ref x) (Str.ofString "__eq__") [b])
        (PySem.W.ifBound_K X I hs hf (wpAny_mono h (fun r s' hr => by
          obtain ⟨b, rfl, hq⟩ := hr
          repeat (first | exact hq | exact wpAny_pure hq | exact wpAny_truthy_bool hq | (refine wpAny_bind (m := truthy (.bool _)) (wpAny_truthy_bool ?_)) | wp_step)) fun _ _ e => e)))
    | wp_step)
theorem call_objNe {b : Value} {Q : Value → Shared → Prop} (hu : A.units + 1 < cLine) (X : K.In s.heap) (I : PySem.W.InstAt s.heap x ox C od) (hm : PySem.W.mroIn K C (.type "object") = some true) (hs : PySem.W.findIn K (.ref C) "__eq__" = some (some (.ref f))) (hf : PySem.W.isFn K (.ref f) = true)
    (h : wpAny (model prog w) A.in1 (call (.ref f) [.ref x, b]) (fun v s' => ∃ k, v = .bool k ∧ Q (.bool (!k)) s') E s) : wpAny (model prog w) A (call (.builtin "object.__ne__") [.ref x, b]) Q E s :=
  wpAny_call (codeAny_call_builtin F.cmp_object.ne.plain F.cmpEntry_ne (PySem.W.check_slot F.cmpKind_ne F.cmpSplit_ne (I.type.andThen (PySem.W.looks_mroIn X hm)) (F.cmpArgs_ne _ _) (objNe_own (A := A.in1) hu X I hs hf (wpAny_mono h (fun v s' z => by
    obtain ⟨k, rfl, q⟩ := z
    exact ⟨k, rfl, q⟩) fun _ _ e => e))))
theorem ne_own {b tb : Value} {Q : Value → Shared → Prop} (hu : A.units + 1 < cLine) (X : K.In s.heap) (I : PySem.W.InstAt s.heap x ox C od) (hb : PySem.W.Looks (model prog w) s.heap (typeOf b) tb) (hn : PySem.W.notFirst K C tb = true)
    (hm : PySem.W.mroIn K C (.type "object") = some true) (hne : PySem.W.findIn K (.ref C) "__ne__" = some (some (.builtin "object.__ne__"))) (hs : PySem.W.findIn K (.ref C) "__eq__" = some (some (.ref f))) (hf : PySem.W.isFn K (.ref f) = true)
    (h : wpAny (model prog w) A.in1 (call (.ref f) [.ref x, b]) (fun v s' => ∃ k, v = .bool k ∧ Q (.bool (!k)) s') E s) : wpAny (model prog w) A (compareOp .NotEq (.ref x) b) Q E s := by
  have one : wpAny (model prog w) A (tryCompare (.ref x) "__ne__" b) (fun r s' => ∃ v, r = some v ∧ Q v s') E s := by
    unfold tryCompare
    refine wpAny_bind (ifBound_objNe X I hne (call_objNe hu X I hm hs hf (wpAny_mono h (fun v s' z => ?_) fun _ _ e => e)))
    obtain ⟨k, rfl, q⟩ := z
    exact ⟨k, rfl, wpAny_pure ⟨_, rfl, q⟩⟩
  show wpAny (model prog w) A (richCompare .NotEq (.ref x) b) Q E s
  unfold richCompare
  simp only [oneThing_ref]
  refine wpAny_holding (wpAny_bind (wpAny_cRoomFor (Nat.lt_of_succ_lt hu) ?_))
  refine wpAny_bind (I.type.here (wpAny_bind (hb.here ?_)))
  split
  · rename_i q
    have e : PySem.W.subIn K tb (.ref C) = some false := by
      rcases Bool.or_eq_true_iff.mp hn with e | e
      · rw [beq_iff_eq.mp e] at q; simp at q
      · exact beq_iff_eq.mp e
    refine wpAny_bind ((PySem.W.looks_subIn X e).here ?_)
    simp only [Bool.false_eq_true, if_false]
    refine wpAny_bind (wpAny_mono one (fun r s' z => ?_) fun _ _ e => e)
    obtain ⟨v, rfl, hq⟩ := z
    exact wpAny_pure hq
  · refine wpAny_bind (wpAny_pure ?_)
    simp only [Bool.false_eq_true, if_false]
    refine wpAny_bind (wpAny_mono one (fun r s' z => ?_) fun _ _ e => e)
    obtain ⟨v, rfl, hq⟩ := z
    exact wpAny_pure hq
end
section
variable {X : Cx} {CX : CXT} {k : Nat} {f C : Addr} {fd : FuncData} {ps : List Str} {sp : Sp} {E : XK}
/-- what == and != ask of the class -/
structure EqC (K : PySem.W.Frag) (C f : Addr) : Prop where
  at_ : PySem.W.findIn K (.ref C) "__eq__" = some (some (.ref f))
  fn : PySem.W.isFn K (.ref f) = true
  ne : PySem.W.findIn K (.ref C) "__ne__" = some (some (.builtin "object.__ne__"))
  hm : PySem.W.mroIn K C (.type "object") = some true
theorem first_self {K : PySem.W.Frag} : PySem.W.notFirst K C (.ref C) = true := by simp [PySem.W.notFirst]
def rEqO (C : Addr) (sp : Sp) (E : XK) : R2 := fun x y H Q => ∃ p q dp dq fp fq, x = .ref p ∧ y = .ref q ∧ H p = some (.ins C dp fp) ∧ H q = some (.ins C dq fq) ∧ sp [.ref p, .ref q] H Q E
def rNeO (C : Addr) (sp : Sp) (E : XK) : R2 := fun x y H Q => ∃ p q dp dq fp fq, x = .ref p ∧ y = .ref q ∧ H p = some (.ins C dp fp) ∧ H q = some (.ins C dq fq) ∧ sp [.ref p, .ref q] H (fun v H' => ∃ b, v = .bl b ∧ Q (.bl (!b)) H') E
theorem op_eqO (c : EqC X.K C f) (F : FnOk X.prog X.w X.K X.mg X.base CX k f fd ps sp) (hr : Room k X.A) (hb : Binds X.K fd ps []) (hx : Passes CX X E) : OpR X (compareOp .Eq) (rEqO C sp E) := by
  intro pins s σ H x y v u Q I rx ry h
  obtain ⟨p, q, dp, dq, fp, fq, rfl, rfl, hp, hq, k⟩ := h
  cases rx
  cases ry
  obtain ⟨ox, od, J, _⟩ := ins_inst I hp
  obtain ⟨oy, oe, J2, _⟩ := ins_inst I hq
  obtain ⟨m, Fr⟩ := I.fr
  show wpAny _ _ (richCompare .Eq (.ref p) (.ref q)) _ _ _
  refine PySem.W.cmp_K (op := .Eq) (tb := .ref C) hr.units0 Fr I.ok.mod.kin J J2.type first_self c.at_ c.fn ?_
  exact wpAny_mono (run_fn (us := [.ref p, .ref q]) (vs := [.ref p, .ref q]) (dvs := []) F hr hb .nil hx I (.cons rfl (.cons rfl .nil)) k) (fun v s' z => back_of z) fun _ _ z => z
theorem op_neO (c : EqC X.K C f) (F : FnOk X.prog X.w X.K X.mg X.base CX k f fd ps sp) (hr : Room (k + 1) X.A) (hb : Binds X.K fd ps []) (hx : Passes CX X E) : OpR X (compareOp .NotEq) (rNeO C sp E) := by
  intro pins s σ H x y v u Q I rx ry h
  obtain ⟨p, q, dp, dq, fp, fq, rfl, rfl, hp, hq, k⟩ := h
  cases rx
  cases ry
  obtain ⟨ox, od, J, _⟩ := ins_inst I hp
  obtain ⟨oy, oe, J2, _⟩ := ins_inst I hq
  refine ne_own (hu_of hr) I.kIn J J2.type first_self c.hm c.ne c.at_ c.fn ?_
  refine wpAny_mono (run_fn1 (us := [.ref p, .ref q]) (vs := [.ref p, .ref q]) F hr hb hx I (.cons rfl (.cons rfl .nil)) k) (fun v s' z => ?_) fun _ _ z => z
  obtain ⟨v', H', I', rv, b, rfl, qq⟩ := z
  cases rv
  exact ⟨b, rfl, .bl (!b), H', I', rfl, qq⟩
end
/-! ### dicts of words and integers -/
def allIn (t u : Tab) : Bool := t.all fun q => decide (look u q.1 = some q.2)
theorem hits_tab {A : Around} {s : Shared} {u : Tab} {vb : List (Key × Value)} (rb : KV (tv u) vb) : ∀ {t : Tab} {va : List (Key × Value)}, KV (tv t) va → PySem.W.KeqHits A s vb va (allIn t u)
  | [], _, .nil => .nil
  | q :: t, (k, v) :: va, .cons ⟨h1, h2⟩ r => by
    have h1' : (Sum.inr q.1 : Key) = k := h1
    obtain ⟨tk, rfl⟩ : ∃ tk, v = Value.int q.2 tk := h2
    subst h1'
    have rr : RelO (valV (tv u) (Sum.inr q.1)) (valueAt vb (Sum.inr q.1)) := rb.val _
    rw [tv_val] at rr
    have e : allIn (q :: t) u = (decide (look u q.1 = some q.2) && allIn t u) := rfl
    rw [e]
    cases hl : look u q.1 with
    | none =>
      rw [hl] at rr
      rw [show decide ((none : Option Int) = some q.2) = false from rfl, Bool.false_and]
      exact .miss (by cases hv : valueAt vb (Sum.inr q.1 : Key) with
        | none => rfl
        | some y => rw [hv] at rr; exact absurd rr (by intro z; cases z))
    | some n =>
      rw [hl] at rr
      obtain ⟨y, hy, ry⟩ := RelO.some_of rr
      obtain ⟨tk2, rfl⟩ : ∃ tk, y = Value.int n tk := ry
      have e2 : decide (some n = some q.2) = (q.2 == n) := by
        by_cases c : q.2 = n
        · rw [c]
          simp
        · rw [decide_eq_false (fun z => c (Option.some.inj z).symm)]
          exact (beq_eq_false_iff_ne.mpr c).symm
      rw [e2]
      exact .hit hy (SeqAt.EqAt.int_int _ _ _ _) (hits_tab rb r)
section
variable {X : Cx}
def rEqT : R2 := fun x y H Q => ∃ a b t u, x = .ref a ∧ y = .ref b ∧ H a = some (.dK (tv t)) ∧ H b = some (.dK (tv u)) ∧ Q (.bl (t.length == u.length && allIn t u)) H
def rNeT : R2 := fun x y H Q => ∃ a b t u, x = .ref a ∧ y = .ref b ∧ H a = some (.dK (tv t)) ∧ H b = some (.dK (tv u)) ∧ Q (.bl (!(t.length == u.length && allIn t u))) H
theorem op_eqT (hu : X.A.units < cLine) : OpR X (compareOp .Eq) rEqT := by
  intro pins s σ H x y v u Q I rx ry h
  obtain ⟨a, b, t, u', rfl, rfl, ea, eb, q⟩ := h
  obtain rfl : v = Value.ref a := rx
  obtain rfl : u = Value.ref b := ry
  obtain ⟨_, ya, va, ra, da⟩ := (show ObjOk X.prog X.w H s.heap a (.dK (tv t)) from I.hok a _ ea)
  obtain ⟨_, yb, vb, rb, db⟩ := (show ObjOk X.prog X.w H s.heap b (.dK (tv u')) from I.hok b _ eb)
  have h1 : va.length = t.length := by rw [← ra.length]; exact tv_len t
  have h2 : vb.length = u'.length := by rw [← rb.length]; exact tv_len u'
  exact PySem.W.keq_eq (knd := mixKind X.prog X.w) (r := allIn t u') ya yb da db hu (fun _ => hits_tab rb ra) (fin_bl I q (by rw [h1, h2]))
theorem op_neT (hu : X.A.units < cLine) : OpR X (compareOp .NotEq) rNeT := by
  intro pins s σ H x y v u Q I rx ry h
  obtain ⟨a, b, t, u', rfl, rfl, ea, eb, q⟩ := h
  obtain rfl : v = Value.ref a := rx
  obtain rfl : u = Value.ref b := ry
  obtain ⟨_, ya, va, ra, da⟩ := (show ObjOk X.prog X.w H s.heap a (.dK (tv t)) from I.hok a _ ea)
  obtain ⟨_, yb, vb, rb, db⟩ := (show ObjOk X.prog X.w H s.heap b (.dK (tv u')) from I.hok b _ eb)
  have h1 : va.length = t.length := by rw [← ra.length]; exact tv_len t
  have h2 : vb.length = u'.length := by rw [← rb.length]; exact tv_len u'
  exact PySem.W.keq_ne (knd := mixKind X.prog X.w) (r := allIn t u') ya yb da db hu (fun _ => hits_tab rb ra) (fin_bl I q (by rw [h1, h2]))
end
end Cs

set_option Elab.async false
set_option linter.all false
set_option maxRecDepth 100000
set_option maxHeartbeats 4000000
/-! Counts compared. -/
namespace Cs
open PySem L2
theorem same_tab {t u : Tab} (ht : Held t) (hu : Held u) : ((t.length == u.length && allIn t u) = true) ↔ ∀ z, val t z = val u z := by
  rw [Bool.and_eq_true, beq_iff_eq]
  unfold allIn
  rw [List.all_eq_true]
  constructor
  · rintro ⟨hl, ha⟩ z
    have sub : ∀ z ∈ keys t, z ∈ keys u := fun z hz => by
      obtain ⟨n, _, hm⟩ := look_some hz
      have := of_decide_eq_true (ha _ hm)
      exact Classical.byContradiction fun q => by rw [look_none q] at this; cases this
    by_cases c : z ∈ keys t
    · obtain ⟨n, hn, hm⟩ := look_some c
      have := of_decide_eq_true (ha _ hm)
      unfold val
      rw [hn, this]
    · have c2 : z ∉ keys u := fun q => by
        have := nodup_len (zs := z :: keys t) (W := keys u) (List.nodup_cons.mpr ⟨c, ht.nd⟩) fun y hy => (List.mem_cons.mp hy).elim (fun e => e ▸ q) (sub y)
        rw [List.length_cons, keys_len, keys_len] at this
        omega
      rw [val_outK c, val_outK c2]
  · intro h
    refine ⟨?_, fun q hq => decide_eq_true ?_⟩
    · have h1 := nodup_len (zs := keys t) (W := keys u) ht.nd fun z hz => (hu.keys_iff z).mpr (h z ▸ (ht.keys_iff z).mp hz)
      have h2 := nodup_len (zs := keys u) (W := keys t) hu.nd fun z hz => (ht.keys_iff z).mpr ((h z).symm ▸ (hu.keys_iff z).mp hz)
      rw [keys_len, keys_len] at h1 h2
      omega
    · have hz : q.1 ∈ keys u := by
        rw [hu.keys_iff, ← h]
        exact (ht.keys_iff _).mp (List.mem_map.mpr ⟨q, hq, rfl⟩)
      obtain ⟨n, hn, _⟩ := look_some hz
      have h1 := look_mem ht.nd (show (q.1, q.2) ∈ t from hq)
      have h2 := h q.1
      unfold val at h2
      rw [h1, hn] at h2
      rw [hn]
      exact congrArg some (show n = q.2 from h2.symm)
structure EDef (P : Program) (w : World) (K : PySem.W.Frag) (mg : Str → Option Value) (base : Heap) (CX : CXT) (k : Nat) (C : Addr) (ps : List Str) (sp : Sp) (f : Addr) (fd : FuncData) : Prop where
  c : EqC K C f
  ok : FnOk P w K mg base CX k f fd ps sp
  b : Binds K fd ps []
def spEq (C : Addr) : Sp := fun vs H Q _ => ∃ (p d q e : Addr) (t u : Tab), vs = [.ref p, .ref q] ∧ Cnt C H p d t ∧ Cnt C H q e u ∧ ∀ b : Bool, (b = true ↔ ∀ z, val t z = val u z) → Q (.bl b) H
section
variable {P : Program} {w : World} {K : PySem.W.Frag} {mg : Str → Option Value} {base : Heap}
theorem ok_eq {C f : Addr} {fd : FuncData} {fI : Addr} (F : Fun K "__eq__" "Counts.__eq__" s_Counts_eq f fd) (g : Bi mg) (T : CT P w K mg base C fI) (ci : CI K C) : FnOk P w K mg base CX0 1 f fd ["self", "other"] (spEq C) := by
  refine F.ok sc_Counts_eq (fun vs H Q E h => ?_) (fun cdv A outer s H vs Q E hr h => ?_)
  · obtain ⟨_, _, _, _, _, _, rfl, _⟩ := h
    rfl
  · obtain ⟨p, d, q, e, t, u, rfl, hc, hc2, k⟩ := h
    have hu := hu_of hr
    have hu0 := Nat.lt_of_succ_lt hu
    refine ⟨_, (pss_one (ps_ret (pe_and (pe_callB call_isi (by rfl) g.isinstance (by decide +kernel) (pa_cons (pv 1) (pa_cons (pe_glob (v := .ref C) rfl T.mgC rfl) pa_nil))) (pe_one (pe_cmpR (op_eqT hu0) (pe_fld (pv 0) rfl) (pe_fld (pv 1) rfl) (nomark _)))))), ?_⟩
    obtain ⟨⟨dx, hp⟩, hd, hh, _⟩ := id hc
    obtain ⟨⟨dx2, hq⟩, hd2, hh2, _⟩ := id hc2
    refine ⟨_, rfl, _, _, _, _, true, rfl, .own C, ci.ty hq, kit_self, _, rfl, iteT ?_⟩
    refine ⟨_, rfl, p, C, dx, _, _, rfl, hp, T.cl, T.nH, flds_held d, _, rfl, q, C, dx2, _, _, rfl, hq, T.cl, T.nH, flds_held e, ?_⟩
    exact ⟨d, e, t, u, rfl, rfl, hd, hd2, k _ (same_tab hh hh2)⟩
end
end Cs

set_option Elab.async false
set_option linter.all false
set_option maxRecDepth 100000
set_option maxHeartbeats 4000000
/-! Counts and models by their values alone; the operators at that level; rows of counts. -/
namespace Cs
open PySem L2
/-- counts at r with their dict at e: values F, at most n words -/
def Cv (n : Nat) (C : Addr) (H : Hp) (r e : Addr) (F : Str → Int) : Prop := ∃ t, Cnt C H r e t ∧ t.length ≤ n ∧ ∀ z, val t z = F z
def Mv (n : Nat) (H : Hp) (m : Addr) (F : Str → Int) : Prop := ∃ u, Mdl H m u ∧ u.length ≤ n ∧ ∀ z, val u z = F z
section
variable {n m : Nat} {C : Addr} {H H' : Hp} {p q d e r x : Addr} {F F1 F2 : Str → Int} {E : XK} {Q : VK} {G : Int → Int → Int} {G1 : Int → Int}
theorem Cv.same (s : Same H H') (h : Cv n C H r e F) : Cv n C H' r e F := by
  obtain ⟨t, a, b, c⟩ := h
  exact ⟨t, a.same s, b, c⟩
theorem Mv.same (s : Same H H') (h : Mv n H x F) : Mv n H' x F := by
  obtain ⟨t, a, b, c⟩ := h
  exact ⟨t, a.same s, b, c⟩
theorem Cv.up (h : Cv n C H r e F) (l : n ≤ m) : Cv m C H r e F := by
  obtain ⟨t, a, b, c⟩ := h
  exact ⟨t, a, Nat.le_trans b l, c⟩
theorem Cv.congr (h : Cv n C H r e F1) (k : ∀ z, F1 z = F2 z) : Cv n C H r e F2 := by
  obtain ⟨t, a, b, c⟩ := h
  exact ⟨t, a, b, fun z => (c z).trans (k z)⟩
theorem Mv.congr (h : Mv n H x F1) (k : ∀ z, F1 z = F2 z) : Mv n H x F2 := by
  obtain ⟨t, a, b, c⟩ := h
  exact ⟨t, a, b, fun z => (c z).trans (k z)⟩
theorem Cv.kp {c : Addr} (S : Src H p c) (k : Kp p H H') (h : Cv n C H r e F) : Cv n C H' r e F := by
  obtain ⟨t, a, b, c⟩ := h
  exact ⟨t, a.kp S k, b, c⟩
theorem Mv.kp {c : Addr} (S : Src H p c) (k : Kp p H H') (h : Mv n H x F) : Mv n H' x F := by
  obtain ⟨t, a, b, c⟩ := h
  exact ⟨t, a.kp S k, b, c⟩
theorem Cv.at (h : Cv n C H r e F) : ∃ o, H e = some (.dK o) := by
  obtain ⟨t, a, _⟩ := h
  exact ⟨_, a.dc⟩
theorem Cv.ob (h : Cv n C H r e F) : ∃ dx fs, H r = some (.ins C dx fs) := by
  obtain ⟨t, ⟨⟨dx, a⟩, _⟩, _⟩ := h
  exact ⟨dx, _, a⟩
theorem Mv.at (h : Mv n H x F) : ∃ o, H x = some (.dK o) := by
  obtain ⟨t, a, _⟩ := h
  exact ⟨_, a.dc⟩
/-- what stays when the dict at e is changed -/
theorem Cv.keep {o : List (Key × V)} (he : H e = some (.dK o)) (kk : ∀ b o, H b = some o → b ≠ e → H' b = some o) (h : Cv n C H r d F) (n1 : d ≠ e) : Cv n C H' r d F := by
  obtain ⟨t, a, b, c⟩ := h
  exact ⟨t, Cnt.keep he kk a n1, b, c⟩
theorem Mv.keep (kk : ∀ b o, H b = some o → b ≠ e → H' b = some o) (h : Mv n H x F) (n1 : x ≠ e) : Mv n H' x F := by
  obtain ⟨t, a, b, c⟩ := h
  exact ⟨t, Mdl.keep kk a n1, b, c⟩
def NewV (n : Nat) (C : Addr) (H : Hp) (Q : VK) (F : Str → Int) : Prop := ∀ (r e : Addr) (H' : Hp), H r = none → H e = none → Same H H' → Cv n C H' r e F → Q (.ref r) H'
theorem NewV.of (k : NewV n C H Q F) : NewC C H Q F n := fun r e H' u hr he s hc hv hl => k r e H' hr he s ⟨u, hc, hl, hv⟩
theorem cv_bin (h1 : Cv n C H p d F1) (h2 : Cv m C H q e F2) (hn : n ≤ 400) (hm : m ≤ 400) (k : NewV (n + m) C H Q (fun z => G (F1 z) (F2 z))) : rBinO C (spBin C G) E (.ref p) (.ref q) H Q := by
  obtain ⟨t, a, b, c⟩ := h1
  obtain ⟨t2, a2, b2, c2⟩ := h2
  obtain ⟨⟨dx, hp⟩, _⟩ := id a
  obtain ⟨⟨dx2, hq⟩, _⟩ := id a2
  refine ⟨p, q, _, _, _, _, rfl, rfl, hp, hq, p, d, q, e, t, t2, rfl, a, a2, by omega, by omega, fun r e' H' u hr he s hc hv hl => k r e' H' hr he s ⟨u, hc, by omega, fun z => ?_⟩⟩
  rw [hv]
  dsimp only
  rw [c, c2]
theorem cv_neg (h1 : Cv n C H p d F1) (hn : n ≤ 1000) (k : NewV n C H Q (fun z => G1 (F1 z))) : rNegO C (spUn C G1) E (.ref p) H Q := by
  obtain ⟨t, a, b, c⟩ := h1
  obtain ⟨⟨dx, hp⟩, _⟩ := id a
  refine ⟨p, _, _, rfl, hp, p, d, t, rfl, a, by omega, fun r e' H' u hr he s hc hv hl => k r e' H' hr he s ⟨u, hc, by omega, fun z => ?_⟩⟩
  rw [hv]
  dsimp only
  rw [c]
theorem cv_abs (h1 : Cv n C H p d F1) (hn : n ≤ 1000) (k : NewV n C H Q (fun z => G1 (F1 z))) : rAbsO C (spUn C G1) E [.ref p] H Q := by
  obtain ⟨t, a, b, c⟩ := h1
  obtain ⟨⟨dx, hp⟩, _⟩ := id a
  refine ⟨p, _, _, rfl, hp, p, d, t, rfl, a, by omega, fun r e' H' u hr he s hc hv hl => k r e' H' hr he s ⟨u, hc, by omega, fun z => ?_⟩⟩
  rw [hv]
  dsimp only
  rw [c]
theorem cv_mul {i : Int} (h1 : Cv n C H p d F1) (hn : n ≤ 1000) (hb : ∀ z, i.natAbs.log2 + (F1 z).natAbs.log2 < 1000000) (k : NewV n C H Q (fun z => i * F1 z)) : rBinI C (spMul C) E (.ref p) (.int i) H Q := by
  obtain ⟨t, a, b, c⟩ := h1
  obtain ⟨⟨dx, hp⟩, _⟩ := id a
  refine ⟨p, _, _, i, rfl, rfl, hp, p, d, t, i, rfl, a, by omega, fun z => by rw [c]; exact hb z, fun r e' H' u hr he s hc hv hl => k r e' H' hr he s ⟨u, hc, by omega, fun z => ?_⟩⟩
  rw [hv]
  dsimp only
  rw [c]
theorem cv_mulR {i : Int} (h1 : Cv n C H p d F1) (hn : n ≤ 1000) (hb : ∀ z, i.natAbs.log2 + (F1 z).natAbs.log2 < 1000000) (k : NewV n C H Q (fun z => i * F1 z)) : rMulR C (spMul C) E (.int i) (.ref p) H Q := by
  obtain ⟨t, a, b, c⟩ := h1
  obtain ⟨⟨dx, hp⟩, _⟩ := id a
  refine ⟨p, _, _, i, rfl, rfl, hp, p, d, t, i, rfl, a, by omega, fun z => by rw [c]; exact hb z, fun r e' H' u hr he s hc hv hl => k r e' H' hr he s ⟨u, hc, by omega, fun z => ?_⟩⟩
  rw [hv]
  dsimp only
  rw [c]
theorem cv_equal (h1 : Cv n C H p d F1) (h2 : Mv m H x F2) (hn : n ≤ 1000) (hm : m ≤ 63) (hF : ∀ z, F1 z = F2 z) (k : ∀ H', Same H H' → Q (.bl true) H') : spEqual C [.ref p, .ref x] H Q E := by
  obtain ⟨t, a, b, c⟩ := h1
  obtain ⟨u, a2, b2, c2⟩ := h2
  exact ⟨p, d, x, t, u, rfl, a, by omega, a2, by omega, fun z => by rw [c, c2, hF], k⟩
theorem cv_ne (h1 : Cv n C H p d F1) (h2 : Cv m C H q e F2) (hF : ∀ z, F1 z = F2 z) (k : Q (.bl false) H) : rNeO C (spEq C) E (.ref p) (.ref q) H Q := by
  obtain ⟨t, a, b, c⟩ := h1
  obtain ⟨u, a2, b2, c2⟩ := h2
  obtain ⟨⟨dx, hp⟩, _⟩ := id a
  obtain ⟨⟨dx2, hq⟩, _⟩ := id a2
  refine ⟨p, q, _, _, _, _, rfl, rfl, hp, hq, p, d, q, e, t, u, rfl, a, a2, fun b hb => ⟨b, rfl, ?_⟩⟩
  rw [hb.mpr fun z => by rw [c, c2, hF]]
  exact k
theorem cv_eq (h1 : Cv n C H p d F1) (h2 : Cv m C H q e F2) (k : ∀ b : Bool, (b = true ↔ ∀ z, F1 z = F2 z) → Q (.bl b) H) : rEqO C (spEq C) E (.ref p) (.ref q) H Q := by
  obtain ⟨t, a, b, c⟩ := h1
  obtain ⟨u, a2, b2, c2⟩ := h2
  obtain ⟨⟨dx, hp⟩, _⟩ := id a
  obtain ⟨⟨dx2, hq⟩, _⟩ := id a2
  refine ⟨p, q, _, _, _, _, rfl, rfl, hp, hq, p, d, q, e, t, u, rfl, a, a2, fun b hb => k b ?_⟩
  rw [hb]
  exact ⟨fun h z => by rw [← c, ← c2, h], fun h z => by rw [c, c2, h]⟩
/-- C() -/
theorem cv_empty (x dx : Addr) (hx : H x = none) (hdx : H dx = none) (k : ∀ e H', H e = none → Same H H' → Cv 0 C H' x e (fun _ => 0) → Q .non H') : spInit C [.ref x] (upd (upd H dx (.own x)) x (.ins C dx [])) Q E := by
  have sMk := made (C := C) hx hdx
  refine ⟨x, dx, [], [], rfl, upd_same, .nil, by show 0 ≤ 1000; decide, (fun _ h => nomatch h), fun e H' he hc kp => ?_⟩
  exact k e H' (sMk.free he) (fun b o e1 => kp b o (sMk _ _ e1) (ne_of_none e1 hx)) ⟨_, hc, Nat.zero_le _, fun _ => rfl⟩
end
theorem tNil_it {σ : L2.St} {H : Hp} {k : List V → Hp → Prop} (h : k [] H) : tNil σ H k := h
/-! rows of counts -/
def RcOk (n : Nat) (C : Addr) (H : Hp) (x : V) (e : Addr) : Prop := ∃ r F, x = .ref r ∧ Cv n C H r e F
structure RCs (n : Nat) (C : Addr) (S : List Addr) (H : Hp) (xs : List V) (es : List Addr) : Prop where
  ok : Paired (RcOk n C H) xs es
  pw : es.Pairwise (· ≠ ·)
  own : ∀ e ∈ es, e ∉ S
  ex : ∀ s ∈ S, ∃ o, H s = some o
section
variable {n : Nat} {C : Addr} {S : List Addr} {H H' : Hp} {xs : List V} {es : List Addr}
theorem RcOk.same {x : V} {e : Addr} (s : Same H H') (h : RcOk n C H x e) : RcOk n C H' x e := by
  obtain ⟨r, F, a, b⟩ := h
  exact ⟨r, F, a, b.same s⟩
theorem RCs.same (s : Same H H') (h : RCs n C S H xs es) : RCs n C S H' xs es := ⟨L2.Paired.mapP h.ok fun _ _ r => r.same s, h.pw, h.own, fun b m => by
  obtain ⟨o, e⟩ := h.ex b m
  exact ⟨o, s _ _ e⟩⟩
theorem rcs_at : ∀ {xs : List V} {es : List Addr}, Paired (RcOk n C H) xs es → ∀ e ∈ es, ∃ o, H e = some o
  | _, _, .nil, _, h => nomatch h
  | _, _, .cons r t, e, h => by
    rcases List.mem_cons.mp h with q | q
    · subst q
      obtain ⟨r, F, _, c⟩ := r
      obtain ⟨o, a⟩ := c.at
      exact ⟨_, a⟩
    · exact rcs_at t e q
theorem RCs.nil (h : ∀ s ∈ S, ∃ o, H s = some o) : RCs n C S H [] [] := ⟨.nil, .nil, (fun _ h => nomatch h), h⟩
theorem RCs.snoc {r e : Addr} {F : Str → Int} (h : RCs n C S H xs es) (s : Same H H') (f1 : H e = none) (c : Cv n C H' r e F) : RCs n C S H' (xs ++ [.ref r]) (es ++ [e]) := by
  have hS := h.same s
  refine ⟨pair_snoc hS.ok ⟨r, F, rfl, c⟩, ?_, ?_, hS.ex⟩
  · rw [List.pairwise_append]
    refine ⟨h.pw, List.pairwise_singleton _ _, fun a ha b hb => ?_⟩
    rw [List.mem_singleton.mp hb]
    obtain ⟨_, h1⟩ := rcs_at h.ok a ha
    exact ne_of_none h1 f1
  · intro a ha
    rcases List.mem_append.mp ha with qa | qa
    · exact h.own a qa
    · rw [List.mem_singleton.mp qa]
      intro q
      obtain ⟨o, e'⟩ := h.ex _ q
      exact ne_of_none e' f1 rfl
theorem rcs_step {e : Addr} {o : List (Key × V)} (he : H e = some (.dK o)) (kk : ∀ b o, H b = some o → b ≠ e → H' b = some o) : ∀ {xs : List V} {es : List Addr}, Paired (RcOk n C H) xs es → (∀ b ∈ es, e ≠ b) → Paired (RcOk n C H') xs es
  | _, _, .nil, _ => .nil
  | _, _, .cons hr tl, hd => by
    refine .cons ?_ (rcs_step he kk tl fun b hb => hd b (List.mem_cons_of_mem _ hb))
    obtain ⟨r, F, a, c⟩ := hr
    exact ⟨r, F, a, c.keep he kk (hd _ List.mem_cons_self).symm⟩
end
end Cs

set_option Elab.async false
set_option linter.all false
set_option maxRecDepth 100000
set_option maxHeartbeats 4000000
/-! [e for x in xs] by the values of e. -/
namespace Cs
open PySem L2
theorem same_new {H : Hp} {a : Addr} {o : HO} (h : H a = none) : Same H (upd H a o) := fun b u e => by rw [upd_ne (ne_of_none e h)]; exact e
theorem yes_of {σ : L2.St} {H : Hp} {A B : Hp → Prop} (h : A H) : tYes σ H (fun b H3 => if b = true then A H3 else B H3) := iteT (A := A H) (B := B H) h
section
variable {K : PySem.W.Frag} {a : Addr} {xs ys : List V} {j : Nat} {te : TE} {vs : List Nat} {σ : L2.St} {H1 : Hp} {D : Addr} {Qd : Hp → Prop}
theorem lc_vals (hy : ys.length = xs.length) (ha : H1 a = some (.lst xs)) (hD : H1 D = none) (hl : xs.length ≤ 1000) (hw : ∀ x, wipe ((wipe σ vs).set j (some x)) vs = wipe σ vs)
    (he : ∀ (i : Nat) (x y : V), xs[i]? = some x → ys[i]? = some y → ∀ H', Same H1 H' → ∀ Qe : VK, (∀ H'', Same H' H'' → Qe y H'') → te ((wipe σ vs).set j (some x)) H' Qe)
    (k : ∀ H', Same H1 H' → H' D = some (.lst ys) → Qd H') :
    ∃ W : Nat → Nat → Hp → Prop, (∃ m, W 0 m (upd H1 D (.lst []))) ∧ ∀ i m H, W i m H →
      ((Itl K a).stop i H ∧ Qd H) ∨ ((Itl K a).go i H ∧ ∃ Nx : Hp → Prop, (∀ H', Nx H' → ∃ m', m' < m ∧ W (i + 1) m' H') ∧ ∀ x H', (Itl K a).yld i H x H' → gName j x (wipe σ vs) H' fun σ2 H2 => wipe σ2 vs = wipe σ vs ∧ tYes σ2 H2 fun b H3 =>
        if b = true then te σ2 H3 fun y H4 => ∃ acc, H4 D = some (.lst acc) ∧ acc.length < sizeLine ∧ Nx (upd H4 D (.lst (acc ++ [y]))) else Nx H3) := by
  refine lc_it (walk_list (xs := xs)) (fun i H' => Same H1 H' ∧ H' D = some (.lst (ys.take i))) ⟨same_new hD, upd_same⟩ (fun i H' _ h => SqL.of (h.1 _ _ ha)) ?_ ?_
  · rintro i x H' H2 hi ⟨s', hD'⟩ ⟨rfl, hx⟩
    have hi2 : i < ys.length := by omega
    refine ⟨hw _, yes_of ?_⟩
    refine he i x ys[i] hx (List.getElem?_eq_getElem hi2) H2 s' _ fun H3 s3 => ?_
    refine ⟨_, s3 _ _ hD', ?_, fun b o q => ?_, ?_⟩
    · rw [List.length_take]
      exact Nat.lt_of_le_of_lt (show min i ys.length ≤ 1000 by omega) (by decide)
    · rw [upd_ne (ne_of_none q hD)]
      exact s3 _ _ (s' _ _ q)
    · rw [upd_same, List.take_succ, List.getElem?_eq_getElem hi2]
      rfl
  · rintro H' ⟨s', hD'⟩
    rw [← hy, List.take_length] at hD'
    exact k H' s' hD'
/-- the same over a tuple -/
theorem lc_valsT (hy : ys.length = xs.length) (ha : H1 a = some (.tup xs)) (hD : H1 D = none) (hl : xs.length ≤ 1000) (hw : ∀ x, wipe ((wipe σ vs).set j (some x)) vs = wipe σ vs)
    (he : ∀ (i : Nat) (x y : V), xs[i]? = some x → ys[i]? = some y → ∀ H', Same H1 H' → ∀ Qe : VK, (∀ H'', Same H' H'' → Qe y H'') → te ((wipe σ vs).set j (some x)) H' Qe)
    (k : ∀ H', Same H1 H' → H' D = some (.lst ys) → Qd H') :
    ∃ W : Nat → Nat → Hp → Prop, (∃ m, W 0 m (upd H1 D (.lst []))) ∧ ∀ i m H, W i m H →
      ((Itt K a).stop i H ∧ Qd H) ∨ ((Itt K a).go i H ∧ ∃ Nx : Hp → Prop, (∀ H', Nx H' → ∃ m', m' < m ∧ W (i + 1) m' H') ∧ ∀ x H', (Itt K a).yld i H x H' → gName j x (wipe σ vs) H' fun σ2 H2 => wipe σ2 vs = wipe σ vs ∧ tYes σ2 H2 fun b H3 =>
        if b = true then te σ2 H3 fun y H4 => ∃ acc, H4 D = some (.lst acc) ∧ acc.length < sizeLine ∧ Nx (upd H4 D (.lst (acc ++ [y]))) else Nx H3) := by
  refine lc_it (walk_tup (xs := xs)) (fun i H' => Same H1 H' ∧ H' D = some (.lst (ys.take i))) ⟨same_new hD, upd_same⟩ (fun i H' _ h => SqT.of (h.1 _ _ ha)) ?_ ?_
  · rintro i x H' H2 hi ⟨s', hD'⟩ ⟨rfl, hx⟩
    have hi2 : i < ys.length := by omega
    refine ⟨hw _, yes_of ?_⟩
    refine he i x ys[i] hx (List.getElem?_eq_getElem hi2) H2 s' _ fun H3 s3 => ?_
    refine ⟨_, s3 _ _ hD', ?_, fun b o q => ?_, ?_⟩
    · rw [List.length_take]
      exact Nat.lt_of_le_of_lt (show min i ys.length ≤ 1000 by omega) (by decide)
    · rw [upd_ne (ne_of_none q hD)]
      exact s3 _ _ (s' _ _ q)
    · rw [upd_same, List.take_succ, List.getElem?_eq_getElem hi2]
      rfl
  · rintro H' ⟨s', hD'⟩
    rw [← hy, List.take_length] at hD'
    exact k H' s' hD'
end
end Cs

set_option Elab.async false
set_option linter.all false
set_option maxRecDepth 100000
set_option maxHeartbeats 4000000
/-! Defs of an own class that say super().m(..): judged where the def's own code runs. -/
namespace Cs
open PySem PySem.W PySem.Spec L2 NdefX
/-! ### judgements at the def's own code -/
section
variable (X : Cx) (b : List Stmt)
structure PEA (e : Expr) (t : TE) : Prop where
  run : ∀ (pins : List (Addr × Obj)) (s : Shared) (σ : L2.St) (H : Hp) (Q : VK), Inv X pins σ H s → t σ H Q → PySem.wpAt (model X.prog X.w) X.A (.func b X.env) (eval e X.env) (EP X pins σ Q) X.xe s
structure PSA (st : Stmt) (t : TS) : Prop where
  run : ∀ (pins : List (Addr × Obj)) (s : Shared) (σ : L2.St) (H : Hp) (D : Ends), Inv X pins σ H s → t D σ H → PySem.wpAt (model X.prog X.w) X.A (.func b X.env) (exec st X.env) (SP X pins D) X.xe s
structure PSsA (sts : List Stmt) (t : TS) : Prop where
  run : ∀ (pins : List (Addr × Obj)) (s : Shared) (σ : L2.St) (H : Hp) (D : Ends), Inv X pins σ H s → t D σ H → PySem.wpAt (model X.prog X.w) X.A (.func b X.env) (execs sts X.env) (SP X pins D) X.xe s
end
section
variable {X : Cx} {b : List Stmt} {e e2 : Expr} {te te2 : TE} {st : Stmt} {sts : List Stmt} {t u : TS} {pos : Pos}
theorem PEA.of (h : PE X e te) : PEA X b e te := ⟨fun pins s σ H Q I q => wpAt_of_wpAny (h.run pins s σ H Q I q)⟩
theorem PSA.of (h : PS X st t) : PSA X b st t := ⟨fun pins s σ H D I q => wpAt_of_wpAny (h.run pins s σ H D I q)⟩
theorem PSsA.of (h : PSs X sts t) : PSsA X b sts t := ⟨fun pins s σ H D I q => wpAt_of_wpAny (h.run pins s σ H D I q)⟩
theorem pssa_cons (h1 : PSA X b st t) (h2 : PSsA X b sts u) : PSsA X b (st :: sts) (tSeq t u) := by
  refine ⟨fun pins s σ H D I h => ks_wpAt_execs_cons (ks_wpAt_mono (h1.run pins s σ H { D with nx := u D } I h) (fun f s1 q => ?_) fun _ _ z => z)⟩
  cases f with
  | next =>
    obtain ⟨σ', H', I', q⟩ := q
    exact h2.run pins s1 σ' H' D I' q
  | ret v => exact q
  | brk => exact q
  | cont => exact q
theorem pssa_one (h1 : PSA X b st t) : PSsA X b [st] t := by
  refine ⟨fun pins s σ H D I h => ks_wpAt_execs_cons (ks_wpAt_mono (h1.run pins s σ H D I h) (fun f s1 q => ?_) fun _ _ z => z)⟩
  cases f with
  | next => exact wpAt_of_wpAny (wpAny_execs_nil q)
  | ret v => exact q
  | brk => exact q
  | cont => exact q
theorem psa_expr (he : PEA X b e te) (hs : swapsWith e none pos.line X.env = pure false := by rfl) : PSA X b (.Expr e pos) (tDrop te) :=
  ⟨fun pins s σ H D I h => ks_wpAt_Expr_any (ks_wpAt_mono (he.run pins s σ H _ I h) (fun v s1 ⟨x, H1, I1, r1, q1⟩ => ⟨σ, H1, I1, q1⟩) fun _ _ z => z) I.quiet hs⟩
theorem psa_ret (he : PEA X b e te) : PSA X b (.Return (some e) pos) (tRet te) :=
  ⟨fun pins s σ H D I h => ks_wpAt_Return_some (ks_wpAt_mono (he.run pins s σ H _ I h) (fun v s1 ⟨x, H1, I1, r1, q1⟩ => ⟨x, σ, H1, I1, r1, q1⟩) fun _ _ z => z)⟩
theorem psa_if {c : Expr} {a o : List Stmt} {tc : TT} (hc : PT X c tc) (ha : PSsA X b a t) (hb : PSsA X b o u) : PSA X b (.If c a o pos) (tIfS tc t u) := by
  refine ⟨fun pins s σ H D I h => ks_wpAt_If (ks_wpAt_mono (wpAt_of_wpAny (hc.run pins s σ H _ I h)) (fun d s1 ⟨H1, I1, q1⟩ => ?_) fun _ _ z => z)⟩
  cases d with
  | true => exact ha.run pins s1 σ H1 D I1 q1
  | false => exact hb.run pins s1 σ H1 D I1 q1
theorem pea_op {op : Operator} {r : R2} (ho : OpR X (binaryOp op) r) (ha : PEA X b e te) (hb : PE X e2 te2) : PEA X b (.BinOp e op e2 pos) (tOp r te te2) := by
  refine ⟨fun pins s σ H Q I h => ks_wpAt_BinOp (ks_wpAt_mono (ha.run pins s σ H _ I h) (fun v s1 ⟨x, H1, I1, r1, q1⟩ => ?_) fun _ _ z => z)⟩
  exact thn (hb.run pins s1 σ H1 _ I1 q1) fun u s2 ⟨y, H2, I2, r2, q2⟩ => ho pins s2 σ H2 x y v u Q I2 r1 r2 q2
end
/-! ### super().m(..) -/
/-- what the text tells of a def that says super(): its class, its cell, its code -/
structure SupT (X : Cx) (f cda cc D : Addr) (ar : Str) : Prop where
  ks : X.env.kindOf "super" = some .globalImplicit
  kc : X.env.kindOf "__class__" = some .free
  fu : X.env.func = some f
  co : X.env.code = .ref cda
  cl : X.env.cells.lookup ("__class__" : Str) = some cc
  fn : ∃ oc od fd osl, X.K.lookup f = some ⟨oc, od, .func fd, osl⟩ ∧ ∃ a, (fd.params.posonlyargs ++ fd.params.args).head? = some a ∧ a.arg = ar
  code : ∃ ccl cdd vs ccs file tf, X.K.lookup cda = some ⟨ccl, cdd, .fields vs, ccs⟩ ∧ vs[2]? = some (.str file tf) ∧ ((X.prog.main.file : Str) == file) = true
  cell : ∃ cl cld csl, X.K.lookup cc = some ⟨cl, cld, .cell (some (.ref D)), csl⟩
  isD : PySem.W.isClsIn X.K D = true
  top : (X.prog.main.scope.names.lookup ("super" : Str)).isSome = false
  mg : X.mg "super" = none
  opq : PySem.W.nsIn X.K cStatics "thirdparty.any" = some none
  karg : X.env.kindOf ar = some .local
/-- from an object of the class at C, above D, the def found is f2 -/
structure Sup (K : PySem.W.Frag) (C D : Addr) (m : Str) (f2 : Addr) : Prop where
  sub : PySem.W.mroIn K C (.ref D) = some true
  at_ : PySem.W.ks_superIn K C D m = some (some (.ref f2))
  ty : PySem.W.typeIn K (.ref f2) = some (.type "function")
  fi : PySem.W.fnIn K f2 = true
theorem boot_super : bootBuiltins "super" = some (.type "super") := by decide +kernel
section
variable {X : Cx} {b : List Stmt} {CX : CXT} {k i : Nat} {f cda cc D : Addr} {ar m : Str} {E : XK} {p0 p1 sp_ apos pos : Pos} {e : Expr} {es : List Expr} {te : TE} {t : TA} {pl : Sem Bool}
/-- the object, the def found above, its promise -/
def SupAt (X : Cx) (CX : CXT) (k i : Nat) (D : Addr) (m : Str) (σ : L2.St) (H : Hp) (a : Addr) (sp : Sp) : Prop := ∃ C dx fs f2, σ[i]? = some (some (.ref a)) ∧ H a = some (.ins C dx fs) ∧ Sup X.K C D m f2 ∧ FnR X.prog X.w X.K X.mg X.base CX k f2 sp
/-- super() and the method behind it -/
theorem sup_meth {pins : List (Addr × Obj)} {s : Shared} {σ : L2.St} {H : Hp} {a : Addr} {sp : Sp} {whole : Sem Value} {Q : Value × List Value → Shared → Prop} (T : SupT X f cda cc D ar) (hN : X.N[i]? = some ar) (hm : (m == ("__class__" : Str)) = false) (I : Inv X pins σ H s) (h : SupAt X CX k i D m σ H a sp)
    (hq : ∀ q f2 s', X.base.get? q = none → PySem.W.fnIn X.K f2 = true → FnR X.prog X.w X.K X.mg X.base CX k f2 sp → Inv X ((q, PySem.W.methodObj (.ref f2) (.ref a)) :: pins) σ H s' → Q (.ref q, []) s') :
    PySem.wpAt (model X.prog X.w) X.A (.func b X.env) (attributeBase (.Call (.Name "super" p0) [] [] p1) m X.env whole) (fun ov s1 => wpAny (model X.prog X.w) X.A (getMethod ov m pl) Q X.xe s1) X.xe s := by
  obtain ⟨C, dx, fs, f2, hs, ha, S, F⟩ := h
  obtain ⟨oc, od, fd, osl, lf, ar', hp, ea⟩ := T.fn
  obtain ⟨ccl, cdd, vs, ccs, file, tf, lc, hvs, hfile⟩ := T.code
  obtain ⟨cl, cld, csl, lcell⟩ := T.cell
  obtain ⟨cdD, hD⟩ := Option.isSome_iff_exists.mp (show (PySem.W.clsIn X.K D).isSome = true from T.isD)
  obtain ⟨mA, O, _⟩ := ins_get I.hok ha
  obtain ⟨oi, J, _⟩ := O.look
  obtain ⟨mL, hloc, hlk⟩ := I.loc
  obtain ⟨u, ru, lk⟩ := hlk i ar (.ref a) hN hs (.inl T.karg)
  obtain rfl : u = Value.ref a := ru
  have hma : mL ar = some (.ref a) := by
    rcases lk with ⟨_, q⟩ | ⟨q, _⟩
    · exact q
    · rcases q with q | q <;> (rw [T.karg] at q; cases q)
  subst ea
  obtain ⟨oD, hD1, hD2⟩ : ∃ oD, s.heap.get? D = some oD ∧ oD.data = .cls cdD := by
    unfold PySem.W.clsIn at hD
    split at hD
    · rename_i c d cd' sl ho
      cases hD
      exact ⟨_, I.kIn _ _ ho, rfl⟩
    · cases hD
  refine ks_wpAt_super_base T.ks T.kc hm T.fu (I.kIn _ _ lf) rfl hp T.co (I.kIn _ _ lc) rfl hvs hfile T.top ?_
  obtain ⟨mb, hb1, hb2⟩ := I.mod.blt
  refine PySem.W.ks_loadName_global I.ok.kind T.ks (Calls.loadGlobal_builtin (by rw [I.ok.glob]; exact I.mod.glob.keeps I.bk) T.mg (by rw [I.ok.blt]; exact hb1.keeps I.bk) ((hb2 _ (by decide)).trans boot_super) ⟨rfl, ?_⟩)
  refine wpAny_loadName_free I.ok.kind T.kc T.cl ⟨_, I.kIn _ _ lcell, rfl⟩ ?_
  refine wpAny_loadName_local I.ok.kind T.karg hloc hma ?_
  obtain ⟨hh, g, dr, tk, os⟩ := s
  refine ks_wpAny_isType_cls hD1 hD2 ⟨rfl, ?_⟩
  refine ks_wpAny_call_super hD1 hD2 J.at_ J.cls (fun c e => ?_) (PySem.W.looks_mroIn I.kIn S.sub) (fun h' eso kp => ?_)
  · have := J.no
    unfold PySem.W.notCls at this
    rw [e] at this
    exact Bool.noConfusion this
  · have I2 : Inv X pins σ H { (⟨hh, g, dr, tk, os⟩ : Shared) with heap := h' } := I.kept (t' := tk) kp
    have hz : hh.objs.size < h'.objs.size := Heap.lt_size eso
    cases hc : PySem.W.clsIn X.K C with
    | none =>
      have := S.at_
      unfold PySem.W.ks_superIn at this
      rw [hc] at this
      cases this
    | some cd =>
      have hs2 := S.at_
      unfold PySem.W.ks_superIn at hs2
      rw [hc] at hs2
      obtain ⟨of, hof, hofc⟩ : ∃ of, h'.get? f2 = some of ∧ of.cls = .type "function" := by
        have ht' : (X.K.lookup f2).map (·.cls) = some (.type "function") := S.ty
        cases z : X.K.lookup f2 with
        | none => rw [z] at ht'; cases ht'
        | some of => rw [z] at ht'; exact ⟨of, I2.kIn _ _ z, Option.some.inj ht'⟩
      have J2 : PySem.W.InstAt h' a (instObj C dx) C (some oi) := ⟨kp _ _ J.at_, J.cls, J.no, kp _ _ J.dict⟩
      refine ks_wpAny_getMethod_super eso (PySem.W.looks_opaque I2.kIn T.opq) (l₀ := cd.mro) (fun A Q E s k q => wpAny_bind ((PySem.W.looks_clsIn I2.kIn hc) A _ E s k (wpAny_pure q))) rfl I2.kIn hs2 hof hofc (PySem.W.ks_ne I2.kIn J2 hc) hm ?_
      exact hq _ f2 _ (ClX.base_none I2 (Nat.le_refl _)) S.fi F (ClX.met_new I2)
end
/-- o.m of a super object, read as an attribute -/
theorem getAttr_super {prog : Program} {w : World} {A : Around} {E : Value → Shared → Prop} {h : Heap} {g : Array GenState} {d : Drawn} {t : Nat} {os : OsState} {so D x C f : Addr} {of : Obj} {l₀ l : List Value} {K : Frag} {name : Str} {Q : Value → Shared → Prop}
    (hso : h.get? so = some { cls := .type "super", dict := none, data := .fields #[.ref D, .ref x, .ref C], slots := #[] }) (hno : Looks (model prog w) h (opaqueClassAbove (.ref C)) none)
    (hC : Looks (model prog w) h (mroOf (.ref C)) l₀) (hl : (l₀.dropWhile (· != .ref D)).drop 1 = l) (X : K.In h)
    (hf : alongIn K name l = some (some (.ref f))) (hfo : h.get? f = some of) (hfc : of.cls = .type "function") (hxC : x ≠ C) (hn : (name == ("__class__" : Str)) = false)
    (hq : Q (.ref h.objs.size) ⟨h.push { cls := .type "method", data := .fields #[.ref f, .ref x] }, g, d, t + 1, os⟩) : wpAny (model prog w) A (getAttr (.ref so) name true) Q E ⟨h, g, d, t, os⟩ := by
  have hlk := F.ks_slot_super_ga.lookup
  have tyS : ∀ t', (⟨h, g, d, t', os⟩ : Shared).TypeIs (.ref so) "super" := fun _ => ⟨_, hso, rfl⟩
  unfold getAttr getAttrBy
  refine wpAny_bind (wpAny_mkText (wpAny_holding (wpAny_bind (wpAny_typeOf (tyS _) (wpAny_bind (wpAny_of_eq hlk ?_))))))
  show wpAny _ _ (getAttrByItsOwn (.ref so) (.str name t) (.type "super") (.builtin "super.__getattribute__") _ _) _ _ _
  unfold getAttrByItsOwn hookBefore callGetattribute boundAndCalled
  refine wpAny_bind (wpAny_of_eq (show (if onTheHeap (.type "super") then typeLookup (.type "super") "__getattr__" else pure none) = pure none from rfl) ?_)
  refine wpAny_bind (wpAny_attempt (wpAny_holding ?_))
  show wpAny _ _ (bindSpecial (.builtin "super.__getattribute__") (.ref so) >>= _) _ _ _
  refine wpAny_bind (wpAny_of_eq (F.ks_slot_super_ga.bind _) ?_)
  refine wpAny_mono (Q := fun v s' => v = .ref h.objs.size ∧ s' = ⟨h.push { cls := .type "method", data := .fields #[.ref f, .ref x] }, g, d, t + 1, os⟩) (E := fun _ _ => False)
    (wpAny_call_entry F.ks_slot_super_ga (tyS _) F.ks_entry_super_ga (ks_wpAny_super_ga hso hno hC hl X hf hfo hfc hxC hn ⟨_, rfl, rfl, rfl⟩) (F.ks_gaArgs_super _ _)) (fun v s' hv => ?_) fun _ _ z => z.elim
  obtain ⟨rfl, rfl⟩ := hv
  exact wpAny_pure hq
/-- o.m(.., *y) where the def's own code runs -/
theorem at_starcall {M : Model} {A : Around} {c : Code} {E : Value → Shared → Prop} {s : Shared} {env : Env} {o : Expr} {name : Str} {apos pos : Pos} {args : List Expr} {Q : Value → Shared → Prop} (hform : methodCallForm (args.length + ([] : List Keyword).length) (backTo pos (starEach args env)) (backToKw pos (keywordEach [] env)) = false)
    (h : PySem.wpAt M A c (attributeBase o name env (eval o env)) (fun ov s₁ => wpAny M A (getAttr ov name true) (fun f s₂ => wpAny M A (callWith pos f [] (backTo pos (starEach args env)) []) Q E s₂) E s₁) E s) : PySem.wpAt M A c (eval (.Call (.Attribute o name apos) args [] pos) env) Q E s := by
  rw [arm_eval_Call]
  refine PySem.wpAt_bind (PySem.wpAt_mono h (fun ov s₁ h₁ => wpAt_of_wpAny (wpAny_bind (wpAny_standAt ?_))) fun _ _ x => x)
  unfold methodCall
  rw [hform]
  refine wpAny_bind (wpAny_holding (wpAny_bind (wpAny_mono h₁ (fun f s₂ h₂ => wpAny_pure ?_) fun _ _ x => x)))
  exact wpAny_bind (wpAny_pure h₂)
section
variable {X : Cx} {b : List Stmt} {CX : CXT} {k i : Nat} {f cda cc D : Addr} {ar m : Str} {E : XK} {p0 p1 sp_ apos pos : Pos} {e : Expr} {es : List Expr} {te : TE} {t : TA} {pl : Sem Bool}
/-- super() and the method behind it, read as an attribute -/
theorem sup_attr {pins : List (Addr × Obj)} {s : Shared} {σ : L2.St} {H : Hp} {a : Addr} {sp : Sp} {whole : Sem Value} {Q : Value → Shared → Prop} (T : SupT X f cda cc D ar) (hN : X.N[i]? = some ar) (hm : (m == ("__class__" : Str)) = false) (I : Inv X pins σ H s) (h : SupAt X CX k i D m σ H a sp)
    (hq : ∀ q f2 s', X.base.get? q = none → PySem.W.fnIn X.K f2 = true → FnR X.prog X.w X.K X.mg X.base CX k f2 sp → Inv X ((q, PySem.W.methodObj (.ref f2) (.ref a)) :: pins) σ H s' → Q (.ref q) s') :
    PySem.wpAt (model X.prog X.w) X.A (.func b X.env) (attributeBase (.Call (.Name "super" p0) [] [] p1) m X.env whole) (fun ov s1 => wpAny (model X.prog X.w) X.A (getAttr ov m true) Q X.xe s1) X.xe s := by
  obtain ⟨C, dx, fs, f2, hs, ha, S, F⟩ := h
  obtain ⟨oc, od, fd, osl, lf, ar', hp, ea⟩ := T.fn
  obtain ⟨ccl, cdd, vs, ccs, file, tf, lc, hvs, hfile⟩ := T.code
  obtain ⟨cl, cld, csl, lcell⟩ := T.cell
  obtain ⟨cdD, hD⟩ := Option.isSome_iff_exists.mp (show (PySem.W.clsIn X.K D).isSome = true from T.isD)
  obtain ⟨mA, O, _⟩ := ins_get I.hok ha
  obtain ⟨oi, J, _⟩ := O.look
  obtain ⟨mL, hloc, hlk⟩ := I.loc
  obtain ⟨u, ru, lk⟩ := hlk i ar (.ref a) hN hs (.inl T.karg)
  obtain rfl : u = Value.ref a := ru
  have hma : mL ar = some (.ref a) := by
    rcases lk with ⟨_, q⟩ | ⟨q, _⟩
    · exact q
    · rcases q with q | q <;> (rw [T.karg] at q; cases q)
  subst ea
  obtain ⟨oD, hD1, hD2⟩ : ∃ oD, s.heap.get? D = some oD ∧ oD.data = .cls cdD := by
    unfold PySem.W.clsIn at hD
    split at hD
    · rename_i c d cd' sl ho
      cases hD
      exact ⟨_, I.kIn _ _ ho, rfl⟩
    · cases hD
  refine ks_wpAt_super_base T.ks T.kc hm T.fu (I.kIn _ _ lf) rfl hp T.co (I.kIn _ _ lc) rfl hvs hfile T.top ?_
  obtain ⟨mb, hb1, hb2⟩ := I.mod.blt
  refine PySem.W.ks_loadName_global I.ok.kind T.ks (Calls.loadGlobal_builtin (by rw [I.ok.glob]; exact I.mod.glob.keeps I.bk) T.mg (by rw [I.ok.blt]; exact hb1.keeps I.bk) ((hb2 _ (by decide)).trans boot_super) ⟨rfl, ?_⟩)
  refine wpAny_loadName_free I.ok.kind T.kc T.cl ⟨_, I.kIn _ _ lcell, rfl⟩ ?_
  refine wpAny_loadName_local I.ok.kind T.karg hloc hma ?_
  obtain ⟨hh, g, dr, tk, os⟩ := s
  refine ks_wpAny_isType_cls hD1 hD2 ⟨rfl, ?_⟩
  refine ks_wpAny_call_super hD1 hD2 J.at_ J.cls (fun c e => ?_) (PySem.W.looks_mroIn I.kIn S.sub) (fun h' eso kp => ?_)
  · have := J.no
    unfold PySem.W.notCls at this
    rw [e] at this
    exact Bool.noConfusion this
  · have I2 : Inv X pins σ H { (⟨hh, g, dr, tk, os⟩ : Shared) with heap := h' } := I.kept (t' := tk) kp
    have hz : hh.objs.size < h'.objs.size := Heap.lt_size eso
    cases hc : PySem.W.clsIn X.K C with
    | none =>
      have := S.at_
      unfold PySem.W.ks_superIn at this
      rw [hc] at this
      cases this
    | some cd =>
      have hs2 := S.at_
      unfold PySem.W.ks_superIn at hs2
      rw [hc] at hs2
      obtain ⟨of, hof, hofc⟩ : ∃ of, h'.get? f2 = some of ∧ of.cls = .type "function" := by
        have ht' : (X.K.lookup f2).map (·.cls) = some (.type "function") := S.ty
        cases z : X.K.lookup f2 with
        | none => rw [z] at ht'; cases ht'
        | some of => rw [z] at ht'; exact ⟨of, I2.kIn _ _ z, Option.some.inj ht'⟩
      have J2 : PySem.W.InstAt h' a (instObj C dx) C (some oi) := ⟨kp _ _ J.at_, J.cls, J.no, kp _ _ J.dict⟩
      refine getAttr_super eso (PySem.W.looks_opaque I2.kIn T.opq) (l₀ := cd.mro) (fun A Q E s k q => wpAny_bind ((PySem.W.looks_clsIn I2.kIn hc) A _ E s k (wpAny_pure q))) rfl I2.kIn hs2 hof hofc (PySem.W.ks_ne I2.kIn J2 hc) hm ?_
      exact hq _ f2 _ (ClX.base_none I2 (Nat.le_refl _)) S.fi F (ClX.met_new I2)
/-- super().m(*e) -/
def tSup1 (X : Cx) (CX : CXT) (k i : Nat) (D : Addr) (m : Str) (E : XK) (te : TE) : TE := fun σ H Q => ∃ a sp, SupAt X CX k i D m σ H a sp ∧ te σ H fun y H1 => ∃ q xs, y = V.ref q ∧ (SqT X.K H1 q xs ∨ SqL X.K H1 q xs) ∧ sp (.ref a :: xs) H1 Q E
theorem pea_sup1 (T : SupT X f cda cc D ar) (hN : X.N[i]? = some ar) (hr : Room k X.A) (hx : Passes CX X E) (he : PE X e te) (hm : (m == ("__class__" : Str)) = false := by decide) (hst : starEach [.Starred e sp_] X.env = [(true, eval e X.env)] := by rfl) (hform : methodCallForm ([Expr.Starred e sp_].length + ([] : List Keyword).length) (backTo pos (starEach [.Starred e sp_] X.env)) (backToKw pos (keywordEach [] X.env)) = false := by rfl) :
    PEA X b (.Call (.Attribute (.Call (.Name "super" p0) [] [] p1) m apos) [.Starred e sp_] [] pos) (tSup1 X CX k i D m E te) := by
  refine ⟨fun pins s σ H Q I h => ?_⟩
  obtain ⟨a, sp, hs, h⟩ := h
  refine at_starcall hform (sup_attr T hN hm I hs fun q f2 s1 hb hf F I1 => ?_)
  show wpAny _ _ (callWith pos (.ref q) [] (backTo pos (starEach [.Starred e sp_] X.env)) []) _ _ _
  rw [hst]
  refine PySem.W.ks_call rfl (PySem.W.keeps_M (self := .ref a) hf) (PySem.W.ks_lone (thn (he.run _ s1 σ H _ I1 h) fun v s2 ⟨y, H1, I2, ry, qq, xs, ey, hxs, q2⟩ => ?_))
  subst ey
  obtain rfl : v = Value.ref qq := ry
  exact StX.star_any I2 hxs fun us s3 I3 rv => ⟨⟨ClX.pin_at I3, I3.kIn⟩, ClX.run_cm F hr hx I3 rv q2⟩
/-- super().m(e, .., *y) -/
def tSup (X : Cx) (CX : CXT) (k i : Nat) (D : Addr) (m : Str) (E : XK) (t : TA) : TE := fun σ H Q => ∃ a sp, SupAt X CX k i D m σ H a sp ∧ t σ H fun vs H1 => sp (.ref a :: vs) H1 Q E
theorem pea_sup2 (T : SupT X f cda cc D ar) (hN : X.N[i]? = some ar) (hr : Room k X.A) (hx : Passes CX X E) (ha : PA X (e :: es) t) (hm : (m == ("__class__" : Str)) = false := by decide)
    (he : starEach (e :: es) X.env = (false, eval e X.env) :: starEach es X.env := by rfl) (hst : (backTo pos (starEach es X.env)).any (·.1) = true := by rfl) (hform : methodCallForm ((e :: es).length + ([] : List Keyword).length) (backTo pos (starEach (e :: es) X.env)) (backToKw pos (keywordEach [] X.env)) = false := by rfl) :
    PEA X b (.Call (.Attribute (.Call (.Name "super" p0) [] [] p1) m apos) (e :: es) [] pos) (tSup X CX k i D m E t) := by
  refine ⟨fun pins s σ H Q I h => ?_⟩
  obtain ⟨a, sp, hs, h⟩ := h
  refine at_starcall hform (sup_attr T hN hm I hs fun q f2 s1 hb hf F I1 => ?_)
  show wpAny _ _ (callWith pos (.ref q) [] (backTo pos (starEach (e :: es) X.env)) []) _ _ _
  have z := ha.run pos _ s1 σ H _ I1 h
  rw [he] at z ⊢
  refine PySem.W.ks_call (by show (false || (backTo pos (starEach es X.env)).any (·.1)) = true; rw [hst]; rfl) (PySem.W.keeps_M (self := .ref a) hf) (PySem.Calls.evalArgs_plain (thn z fun us s2 ⟨vs, H1, I2, rv, q2⟩ => ?_))
  exact ⟨⟨ClX.pin_at I2, I2.kIn⟩, ClX.run_cm F hr hx I2 rv q2⟩
/-- super().m(e, ..) -/
theorem pea_sup (T : SupT X f cda cc D ar) (hN : X.N[i]? = some ar) (hr : Room k X.A) (hx : Passes CX X E) (ha : PA X (e :: es) t) (hm : (m == ("__class__" : Str)) = false := by decide)
    (he : starEach (e :: es) X.env = (false, eval e X.env) :: starEach es X.env := by rfl) (hpl : (backTo pos (starEach es X.env)).any (·.1) = false := by rfl)
    (hc : eval (.Call (.Attribute (.Call (.Name "super" p0) [] [] p1) m apos) (e :: es) [] pos) X.env = (do
      let ov ← attributeBase (.Call (.Name "super" p0) [] [] p1) m X.env (eval (.Call (.Name "super" p0) [] [] p1) X.env)
      standAt apos.atName
      let (f, first) ← holding [ov] (getMethod ov m pl)
      callWith pos f first (backTo pos (starEach (e :: es) X.env)) []) := by rfl) :
    PEA X b (.Call (.Attribute (.Call (.Name "super" p0) [] [] p1) m apos) (e :: es) [] pos) (tSup X CX k i D m E t) := by
  refine ⟨fun pins s σ H Q I h => ?_⟩
  obtain ⟨a, sp, hs, h⟩ := h
  refine ks_wpAt_MethodCall (pl := pl) (sup_meth T hN hm I hs fun q f2 s1 hb hf F I1 => ?_) hc
  refine ClX.callwith_cm I1 hb hf (thn (ha.run pos _ s1 σ H _ I1 h) fun us s2 ⟨vs, H1, I2, rv, q2⟩ => ⟨⟨ClX.pin_at I2, I2.kIn⟩, ?_⟩) he hpl
  exact ClX.run_cm F hr hx I2 rv q2
end
/-! ### the def by its body -/
/-- the text of such a def -/
def nfOf (st : Stmt) (x qual : Str) (cda cc : Addr) : NF := ⟨x, qual, defArgs st, defBody st, defScope st, [("__class__", cc)], cda⟩
structure FunS (K : PySem.W.Frag) (x qual : Str) (st : Stmt) (f cda cc D : Addr) (kV doc pm ct : Value) (an : Option Addr) : Prop where
  lk : ∃ oc od osl, K.lookup f = some ⟨oc, od, .func (PySem.W.ksFn x qual (defArgs st) (defBody st) (defScope st) .none kV doc pm an (.ref cda) ct cc), osl⟩
  code : PySem.W.codeIn K (.ref cda) qual = true
  cell : ∃ cl cld csl, K.lookup cc = some ⟨cl, cld, .cell (some (.ref D)), csl⟩
section
variable {CX : CXT} {P : Program} {w : World} {K : PySem.W.Frag} {mg : Str → Option Value} {base : Heap} {k : Nat} {f cda cc D : Addr} {x qual : Str} {st : Stmt} {kV doc pm ct : Value} {an : Option Addr} {N ps : List Str}
theorem cells_super {s : Shared} {H : Hp} {A : Around} {outer : List Env} (F : FunS K x qual st f cda cc D kV doc pm ct an) (e0 : Env0 P w K mg base A outer s H) : CellsAt (nfOf st x qual cda cc).cl ["__class__"] [some (.ref D)] s.heap H := by
  obtain ⟨cl, cld, csl, lc⟩ := F.cell
  have hb := e0.mod.kin _ _ lc
  have h1 := e0.bs _ _ hb
  have look : ∀ y c, (nfOf st x qual cda cc).cl.lookup y = some c → y = "__class__" ∧ c = cc := fun y c q => by
    have q : ([("__class__", cc)] : List (Str × Addr)).lookup y = some c := q
    rw [List.lookup_cons] at q
    by_cases e : (y == ("__class__" : Str)) = true
    · rw [e] at q
      exact ⟨eq_of_beq e, (Option.some.inj q).symm⟩
    · rw [Bool.eq_false_iff.mpr e] at q
      cases q
  refine ⟨rfl, fun y c q => ?_, fun a b c q1 q2 => ?_, fun i y q => ?_⟩
  · obtain ⟨_, rfl⟩ := look y c q
    exact ⟨h1.2, _, ⟨_, h1.1, rfl⟩⟩
  · rw [(look a c q1).1, (look b c q2).1]
  · cases i with
    | zero =>
      obtain rfl : ("__class__" : Str) = y := Option.some.inj q
      refine ⟨cc, rfl, fun v hv => ?_⟩
      obtain rfl : V.ref D = v := Option.some.inj (Option.some.inj hv)
      exact ⟨.ref D, rfl, _, h1.1, rfl⟩
    | succ i => cases q
theorem run_sup {A : Around} {outer : List Env} {s : Shared} {H : Hp} {args : Args} {Q : VK} {E : XK} {G : List V → Hp → Prop} (F : FunS K x qual st f cda cc D kV doc pm ct an) (S : NScope N ps ["__class__"] (defScope st)) (hr : Room (k + 1) A) (e0 : Env0 P w K mg base A outer s H)
    (hb : StX.Bnd CX P w K mg base (PySem.W.ksFn x qual (defArgs st) (defBody st) (defScope st) .none kV doc pm an (.ref cda) ct cc) args ps A outer s H E G)
    (hbody : ∀ (s2 : Shared) (H2 : Hp) (vs : List V), G vs H2 → Room k (A.deeper (envF (nfOf st x qual cda cc) f s2.heap.objs.size)) →
      ∃ t, PSsA (ncx CX P w K mg base N (nfOf st x qual cda cc) f A outer s2 H2 E) (defBody st) (defBody st) t ∧ t { nx := fun _ H' => Q .non H', rt := Q } (startF N vs [some (.ref D)]) H2) :
    codeAny (model P w) A (.call (.ref f) args) (CR CX outer P w H s Q E) s := by
  have KX : K.In s.heap := e0.mod.kin.keeps fun b o e => (e0.bs b o e).1
  obtain ⟨oc, od, osl, lk⟩ := F.lk
  refine codeAny_call_function hr.depth (KX _ _ lk) rfl S.co S.gen rfl (PySem.W.codeRec_of KX F.code) ?_
  refine hb _ _ _ fun s2 H2 vs us e2 un ho hx r hl g => ?_
  have lim : s2.heap.NoLimit := e0.mod.nolimit.keeps fun b o e => (e2.bs b o e).1
  refine wpAny_newFunctionEnv S.nocell (fun ⟨n, _⟩ hy => S.par n (List.of_mem_zip hy).1) (fun h₁ hns hsb => ⟨lim.fresh _ hsb, ?_⟩) S.kind
  show codeAny _ _ (.func (defBody st) (envF (nfOf st x qual cda cc) f s2.heap.objs.size)) _ _
  have kp : ∀ b o, s2.heap.get? b = some o → h₁.get? b = some o := fun b o e => hsb.extBut b o (Nat.ne_of_lt (Heap.lt_size e)) (Heap.get?_push_of_some _ e)
  obtain ⟨t, ht, hq⟩ := hbody s2 H2 vs g (hr.deeper _)
  have I : Inv (ncx CX P w K mg base N (nfOf st x qual cda cc) f A outer s2 H2 E) [] (startF N vs [some (.ref D)]) H2 { s2 with heap := h₁, toks := s2.toks + (ps.zip us).length } := inv_startN S hr.hd e2 hl r (cells_super F e2) hns kp
  refine ks_codeAny_funcAt (ks_wpAt_mono (ht.run [] _ _ H2 _ I hq) (fun fl s' hs => ?_) fun e s' hs => ?_)
  · have fin : ∀ {σ' : L2.St} {H' : Hp} {v' : V} {u' : Value}, Inv (ncx CX P w K mg base N (nfOf st x qual cda cc) f A outer s2 H2 E) [] σ' H' s' → RelV v' u' → Q v' H' → CE outer P w H s Q u' s' :=
      fun {σ' H' v' u'} J rv' q => ⟨v', H', J.os.trans ho, J.bare, un.trans J.base, J.hok, rv', q⟩
    cases fl with
    | ret u' =>
      obtain ⟨v', σ', H', J, rv', q⟩ := hs
      exact fin J rv' q
    | next =>
      obtain ⟨σ', H', J, q⟩ := hs
      exact fin (v' := V.non) (u' := Value.none) J rfl q
    | brk =>
      obtain ⟨_, _, _, q⟩ := hs
      exact False.elim q
    | cont =>
      obtain ⟨_, _, _, q⟩ := hs
      exact False.elim q
  · exact wpAny_mono hs (fun _ s'' z => hx e s'' z) fun e' s'' z => hx e' s'' z
end
end Cs

set_option Elab.async false
set_option linter.all false
set_option maxRecDepth 100000
set_option maxHeartbeats 4000000
/-! A def that says super(), with a star: its promise by its body; what its text tells. -/
namespace Cs
open PySem PySem.W PySem.Spec L2 NdefX
section
variable {CX : CXT} {P : Program} {w : World} {K : PySem.W.Frag} {mg : Str → Option Value} {base : Heap} {k : Nat} {f cda cc D : Addr} {x qual : Str} {st : Stmt} {kV doc pm ct : Value} {an : Option Addr} {N ps : List Str} {pv : Str} {sp : Sp}
theorem FnR.up {j : Nat} (F : FnR P w K mg base CX k f sp) (h : k ≤ j) : FnR P w K mg base CX j f sp := fun A outer s H us vs Q E hr e0 r q => F A outer s H us vs Q E (hr.mono h) e0 r q
/-- what is left over goes to a new tuple -/
theorem bnd_star {fd : FuncData} {A : Around} {outer : List Env} {s : Shared} {H : Hp} {E : XK} {us : List Value} {ws rest : List V} (hCX : StX.CXUp CX) (e0 : Env0 P w K mg base A outer s H) (r : Vals (ws ++ rest) us) (hl : ws.length = ps.length) (hz : rest.length ≤ sizeLine)
    (hb : ∀ us rest : List Value, us.length = ps.length → bindArgs fd ⟨us ++ rest, []⟩ = (newTuple rest >>= fun t => pure (ps.zip us ++ [(pv, t)]))) :
    StX.Bnd CX P w K mg base fd ⟨us, []⟩ (ps ++ [pv]) A outer s H E (fun xs H2 => ∃ p, H p = Option.none ∧ xs = ws ++ [V.ref p] ∧ H2 = upd H p (.tup rest)) := by
  obtain ⟨u1, u2, eu, r1, r2⟩ := StX.vals_split r
  subst eu
  have free : H s.heap.objs.size = Option.none := e0.hok.fresh (Nat.le_refl _)
  have n1 : u1.length = ps.length := by rw [← r1.length]; exact hl
  have n2 : u2.length ≤ sizeLine := by rw [← r2.length]; exact hz
  intro A' Ex Q' h
  rw [hb u1 u2 n1]
  refine wpAny_bind (wpAny_newTuple (wpAny_pure ?_) n2)
  have laid : ObjOk P w (upd H s.heap.objs.size (.tup rest)) (s.heap.push ({ cls := .type "tuple", data := .seq u2.toArray } : Obj)) s.heap.objs.size (.tup rest) := ⟨hz, u2, r2, ⟨_, Heap.get?_push_size _ rfl, rfl, _, rfl⟩⟩
  have un := StX.un_laid (fs := frs outer) (s := s) (o := ({ cls := .type "tuple", data := .seq u2.toArray } : Obj)) (u := .tup rest) free
  have z := h _ _ (ws ++ [V.ref s.heap.objs.size]) (u1 ++ [Value.ref s.heap.objs.size]) (StX.env0_laid e0 laid) un rfl (fun e s' => hCX outer s H _ _ E e s' un (fun b o q => Heap.get?_push_of_some _ q) rfl) (r1.append (.cons rfl .nil))
    (by rw [List.length_append, List.length_append, hl] <;> rfl) ⟨_, free, rfl, rfl⟩
  rw [List.zip_append n1.symm] at z
  exact z
/-- def m(self, .., *v) with super() in it -/
theorem fn_supS (F : FunS K x qual st f cda cc D kV doc pm ct an) (S : NScope N (ps ++ [pv]) ["__class__"] (defScope st)) (hCX : StX.CXUp CX)
    (hb : ∀ us rest : List Value, us.length = ps.length → bindArgs (PySem.W.ksFn x qual (defArgs st) (defBody st) (defScope st) .none kV doc pm an (.ref cda) ct cc) ⟨us ++ rest, []⟩ = (newTuple rest >>= fun t => pure (ps.zip us ++ [(pv, t)])))
    (hbody : ∀ (A : Around) (outer : List Env) (s : Shared) (H : Hp) (vs : List V) (Q : VK) (E : XK), Room k (A.deeper (envF (nfOf st x qual cda cc) f s.heap.objs.size)) → sp vs H Q E →
      ∃ t, PSsA (ncx CX P w K mg base N (nfOf st x qual cda cc) f A outer s H E) (defBody st) (defBody st) t ∧ t { nx := fun _ H' => Q .non H', rt := Q } (startF N vs [some (.ref D)]) H) :
    FnR P w K mg base CX (k + 1) f (fun vs H Q E => ∃ ws rest, vs = ws ++ rest ∧ ws.length = ps.length ∧ rest.length ≤ sizeLine ∧ ∀ p, H p = Option.none → sp (ws ++ [V.ref p]) (upd H p (.tup rest)) Q E) := by
  intro A outer s H us vs Q E hr e0 r hsp
  obtain ⟨ws, rest, ev, hl, hz, hq⟩ := hsp
  subst ev
  refine run_sup F S hr e0 (bnd_star hCX e0 r hl hz hb) fun s2 H2 xs ⟨p, hp, ex, eH⟩ hr' => ?_
  subst ex eH
  exact hbody A outer s2 _ _ Q E hr' (hq p hp)
/-- def m(self, a, ..) with super() in it -/
theorem fn_sup (F : FunS K x qual st f cda cc D kV doc pm ct an) (S : NScope N ps ["__class__"] (defScope st)) (hps : ∀ vs H Q E, sp vs H Q E → vs.length = ps.length)
    (hb : ∀ us : List Value, us.length = ps.length → bindArgs (PySem.W.ksFn x qual (defArgs st) (defBody st) (defScope st) .none kV doc pm an (.ref cda) ct cc) ⟨us, []⟩ = pure (ps.zip us))
    (hbody : ∀ (A : Around) (outer : List Env) (s : Shared) (H : Hp) (vs : List V) (Q : VK) (E : XK), Room k (A.deeper (envF (nfOf st x qual cda cc) f s.heap.objs.size)) → sp vs H Q E →
      ∃ t, PSsA (ncx CX P w K mg base N (nfOf st x qual cda cc) f A outer s H E) (defBody st) (defBody st) t ∧ t { nx := fun _ H' => Q .non H', rt := Q } (startF N vs [some (.ref D)]) H) :
    FnR P w K mg base CX (k + 1) f sp := by
  intro A outer s H us vs Q E hr e0 r hsp
  have hl := hps _ _ _ _ hsp
  refine run_sup F S hr e0 (G := fun xs H2 => xs = vs ∧ H2 = H) (fun A' Ex Q' h => ?_) fun s2 H2 xs ⟨ex, eH⟩ hr' => ?_
  · rw [hb us (by rw [← r.length]; exact hl)]
    exact wpAny_pure (h s H vs us e0 (Un.kept fun _ _ q => q) rfl (fun _ _ q => q) r hl ⟨rfl, rfl⟩)
  · subst ex eH
    exact hbody A outer s2 _ _ Q E hr' hsp
/-- the program's own facts about super -/
structure SupG (P : Program) (K : PySem.W.Frag) (mg : Str → Option Value) : Prop where
  top : (P.main.scope.names.lookup ("super" : Str)).isSome = false
  mgs : mg "super" = none
  opq : PySem.W.nsIn K cStatics "thirdparty.any" = some none
/-- a def's own facts about super -/
structure SupD (P : Program) (K : PySem.W.Frag) (cda D : Addr) : Prop where
  code : ∃ ccl cdd vs ccs file tf, K.lookup cda = some ⟨ccl, cdd, .fields vs, ccs⟩ ∧ vs[2]? = some (.str file tf) ∧ ((P.main.file : Str) == file) = true
  isD : PySem.W.isClsIn K D = true
theorem supT_mk {A : Around} {outer : List Env} {s : Shared} {H : Hp} {E : XK} {ar : Str} (F : FunS K x qual st f cda cc D kV doc pm ct an) (G : SupG P K mg) (S : SupD P K cda D) (h1 : (defScope st).names.lookup ("super" : Str) = some .globalImplicit) (h2 : (defScope st).names.lookup ("__class__" : Str) = some .free)
    (h3 : (defScope st).names.lookup ar = some .local) (h4 : ∃ a, ((defArgs st).posonlyargs ++ (defArgs st).args).head? = some a ∧ a.arg = ar) :
    SupT (ncx CX P w K mg base N (nfOf st x qual cda cc) f A outer s H E) f cda cc D ar := by
  obtain ⟨oc, od, osl, lk⟩ := F.lk
  exact ⟨h1, h2, rfl, rfl, rfl, ⟨oc, od, _, osl, lk, h4⟩, S.code, F.cell, S.isD, G.top, G.mgs, G.opq, h3⟩
end
end Cs

set_option Elab.async false
set_option linter.all false
set_option maxRecDepth 100000
set_option maxHeartbeats 4000000
set_option pp.maxSteps 600
/-! Kinds, ends, and how a rule is made. -/
namespace Cs
open PySem L2
def RES : List Str := ["hold", "look", "do", "row", "one", "all", "new", "give", "take", "join", "other", "if", "and", "or", "then", "gone"]
/-- a word that is not barred -/
def Kind (z : Str) : Prop := Word z ∧ z ∉ RES
/-- one to three kinds, none twice -/
structure Kinds (ks : List Str) : Prop where
  lo : 1 ≤ ks.length
  hi : ks.length ≤ 3
  nd : ks.Nodup
  kd : ∀ z ∈ ks, Kind z
/-- the module's tuple of barred words -/
def ResAt (K : PySem.W.Frag) (r : Addr) : Prop := ∀ H : Hp, SqT K H r (RES.map V.str)
theorem flat_str (zs : List Str) : (zs.map V.str).all flatV = true := by
  rw [List.all_map, List.all_eq_true]
  intro z _
  rfl
theorem in_str (z : Str) (zs : List Str) : inV (.str z) (zs.map V.str) = decide (z ∈ zs) := by
  unfold inV
  rw [List.any_map, Bool.eq_iff_iff, List.any_eq_true, decide_eq_true_eq]
  constructor
  · rintro ⟨y, m, e⟩
    have e : (y == z) = true := e
    rw [← eq_of_beq e]
    exact m
  · intro m
    exact ⟨z, m, beq_self_eq_true z⟩
def kindB (z : Str) : Bool := wordB z && !decide (z ∈ RES)
theorem kindB_of {z : Str} (h : Kind z) : kindB z = true := by
  unfold kindB
  rw [wordB_of h.1, decide_eq_false h.2]
  rfl
def spIsKind (K : PySem.W.Frag) : Sp := fun vs H Q _ => (∃ z : Str, vs = [.str z] ∧ z.length ≤ 100000 ∧ ∀ H', Same H H' → Q (.bl (kindB z)) H') ∨ (∃ x ty, vs = [x] ∧ TyX K H x (.type ty) ∧ kitB ty "str" = some false ∧ Q (.bl false) H)
def spIsBound (K : PySem.W.Frag) : Sp := fun vs H Q _ => (∃ n : Int, vs = [.int n] ∧ Q (.bl (decide (0 ≤ n) && decide (n ≤ 9))) H) ∨ (∃ x, vs = [x] ∧ NotInt K H x ∧ Q (.bl false) H)
def spDistinctT (K : PySem.W.Frag) : Sp := fun vs H Q _ => ∃ (a : Addr) (zs : List Str), vs = [.ref a] ∧ SqT K H a (zs.map V.str) ∧ zs.length ≤ 1000 ∧
  ∀ (p : Addr) (H' : Hp) (ws : List Str), H p = none → Same H H' → H' p = some (.lst (ws.map V.str)) → Asc ws → (∀ z, z ∈ ws ↔ z ∈ zs) → ws.length ≤ zs.length → Q (.ref p) H'
theorem nd_len {xs ys : List Str} (h : xs.Nodup) (k : ∀ z ∈ xs, z ∈ ys) : xs.length ≤ ys.length := by
  induction xs generalizing ys with
  | nil => exact Nat.zero_le _
  | cons x xs ih =>
    obtain ⟨h1, h2⟩ := List.nodup_cons.mp h
    have hx := k x List.mem_cons_self
    have := ih (ys := ys.erase x) h2 fun z hz => (List.mem_erase_of_ne (fun (e : z = x) => h1 (e ▸ hz))).mpr (k z (List.mem_cons_of_mem _ hz))
    rw [List.length_erase_of_mem hx] at this
    have : 0 < ys.length := List.length_pos_of_mem hx
    rw [List.length_cons]
    omega
section
variable {P : Program} {w : World} {K : PySem.W.Frag} {mg : Str → Option Value} {base : Heap}
theorem Same.seqT {H H' : Hp} {a : Addr} {xs : List V} (s : Same H H') (h : SqT K H a xs) : SqT K H' a xs := by
  rcases h with h | h
  · left
    rcases h with h | ⟨o, h⟩
    · exact .inl (s _ _ h)
    · exact .inr ⟨o, s _ _ h⟩
  · exact .inr h
theorem ok_is_kind {f fIw rR : Addr} {fd fdIw : FuncData} (F : Fun K "is_kind" "is_kind" s_is_kind f fd) (g : Bi mg) (FIw : Def P w K mg base CX0 1 "is_word" ["thing"] (spIsWord K) fIw fdIw) (mRES : mg "RESERVED" = some (.ref rR)) (hR : ResAt K rR) : FnOk P w K mg base CX0 2 f fd ["thing"] (spIsKind K) := by
  obtain ⟨GIw, mIw, _, bIw⟩ := id FIw
  refine F.ok sc_is_kind (fun vs H Q E h => ?_) (fun cdv A outer s H vs Q E hr h => ?_)
  · rcases h with ⟨_, rfl, _⟩ | ⟨_, _, rfl, _⟩ <;> rfl
  · have hrIw : Room 1 _ := hr.mono (by decide)
    refine ⟨_, (pss_one (ps_ret (pe_and (pe_call GIw hrIw rfl mIw FIw.kp bIw .nil pass0 (pa_cons (pv 0) pa_nil)) (pe_one (pe_cmpR op_notIn_seq (pv 0) (pe_glob (v := .ref rR) rfl mRES rfl) (by rfl)))))), ?_⟩
    rcases h with ⟨z, rfl, hz, q⟩ | ⟨x, ty, rfl, ht, hc, q⟩
    · refine ⟨_, rfl, .inl ⟨z, rfl, hz, fun H1 s1 => ⟨_, rfl, ?_⟩⟩⟩
      have q1 := q H1 s1
      unfold kindB at q1
      cases e : wordB z with
      | false =>
        rw [e] at q1
        exact iteF q1
      | true =>
        rw [e] at q1
        refine iteT ⟨_, rfl, rR, _, rfl, .inr (hR H1), rfl, flat_str RES, ?_⟩
        rw [in_str]
        exact q1
    · exact ⟨_, rfl, .inr ⟨x, ty, rfl, ht, hc, _, rfl, iteF q⟩⟩
theorem ok_is_bound {f fIi : Addr} {fd fdIi : FuncData} (F : Fun K "is_bound" "is_bound" s_is_bound f fd) (g : Bi mg) (FIi : Def P w K mg base CX0 1 "is_integer" ["thing"] (spIsInteger K) fIi fdIi) : FnOk P w K mg base CX0 2 f fd ["thing"] (spIsBound K) := by
  obtain ⟨GIi, mIi, _, bIi⟩ := id FIi
  refine F.ok sc_is_bound (fun vs H Q E h => ?_) (fun cdv A outer s H vs Q E hr h => ?_)
  · rcases h with ⟨_, rfl, _⟩ | ⟨_, rfl, _⟩ <;> rfl
  · have hrIi : Room 1 _ := hr.mono (by decide)
    refine ⟨_, (pss_one (ps_ret (pe_and (pe_call GIi hrIi rfl mIi FIi.kp bIi .nil pass0 (pa_cons (pv 0) pa_nil)) (pe_one (pe_chain op_le op_le pe_int (pv 0) pe_int))))), ?_⟩
    rcases h with ⟨n, rfl, q⟩ | ⟨x, rfl, hx, q⟩
    · refine ⟨_, rfl, .inl ⟨n, rfl, _, rfl, iteT ?_⟩⟩
      refine ⟨_, rfl, _, _, rfl, rfl, _, rfl, ?_⟩
      by_cases c : (0 : Int) ≤ n
      · rw [decide_eq_true c] at q ⊢
        exact iteT ⟨_, _, rfl, rfl, q⟩
      · rw [decide_eq_false c] at q ⊢
        exact iteF q
    · exact ⟨_, rfl, .inr ⟨x, rfl, hx, _, rfl, iteF q⟩⟩
theorem ok_distinctT {f : Addr} {fd : FuncData} (F : Fun K "distinct" "distinct" s_distinct f fd) (g : Bi mg) : FnOk P w K mg base CX0 1 f fd ["words"] (spDistinctT K) := by
  refine F.ok sc_distinct (fun vs H Q E h => ?_) (fun cdv A outer s H vs Q E hr h => ?_)
  · obtain ⟨_, _, rfl, _⟩ := h
    rfl
  · obtain ⟨a, zs, rfl, ha, hl, q⟩ := h
    refine ⟨_, (pss_one (ps_ret (pe_callB (cr_sortT rfl) (by rfl) g.sorted (by decide +kernel) (pa_cons (pe_scT (own := [("word", 1)]) (g := gName 1)  (by rfl) sc_distinct.nd (pi_tup (pv 0)) (blkOk_by (own := [("word", 1)]) (N := ["words", "word"]) (sc := defScope s_distinct) (by decide +kernel)) (fun _ _ _ _ _ => (pg_name (i := 1) sc_distinct.nd rfl (Or.inl rfl))) (fun _ _ _ _ _ => pts_nil) (fun _ _ _ _ _ => (pe_callTy SkE.call_str_str (by rfl) g.str (by decide +kernel) (pa_cons (pv 1) pa_nil)))) pa_nil)))), ?_⟩
    refine ⟨_, rfl, a, rfl, ⟨_, ha⟩, fun D hD => ?_⟩
    refine scT_it walk_tup (fun i H' => Same H H' ∧ H' D = some (TSetO w D (once (zs.take i)))) ⟨Same.new hD, upd_same⟩ (fun i H' _ h => Cs.Same.seqT h.1 ha) ?_ ?_
    · rintro i x H' H2 hi ⟨s', hD'⟩ ⟨rfl, hx⟩
      rw [List.length_map] at hi
      have ex : x = V.str zs[i] := by
        rw [List.getElem?_map, List.getElem?_eq_getElem hi] at hx
        exact (Option.some.inj hx).symm
      subst ex
      refine ⟨rfl, yes_it ?_⟩
      refine ⟨_, rfl, _, rfl, zs[i], _, rfl, hD', ?_, ?_, ?_⟩
      · have h1 := once_len (zs.take i)
        rw [List.length_take] at h1
        exact Nat.lt_of_le_of_lt (show (once (zs.take i)).length + 1 ≤ 1001 by omega) (by decide)
      · exact fun b o e => by rw [upd_ne (ne_of_none e hD)]; exact s' b o e
      · rw [upd_same, List.take_succ, List.getElem?_eq_getElem hi]
        show some (TSetO w D (addT (once (zs.take i)) zs[i])) = some (TSetO w D (once (zs.take i ++ [zs[i]])))
        rw [once_snoc]
    · rintro H' ⟨s', hD'⟩
      rw [List.length_map, List.take_length] at hD'
      have h1 := once_len zs
      refine ⟨D, _, rfl, hD', by omega, fun ys p hp hs hn => ?_⟩
      refine q p _ ys (s'.free hn) (s'.trans (Same.new hn)) upd_same (asc_of_sorted hs (hp.nodup_iff.mpr (once_nodup zs))) (fun z => by rw [hp.mem_iff, once_mem]) (by rw [hp.length_eq]; exact h1)
/-! ### the class Rule -/
/-- a class whose objects have kinds, a least and a most -/
structure RC (K : PySem.W.Frag) (C : Addr) : Prop where
  cl : Cls K C
  nk : NoAttr K C "kinds"
  nl : NoAttr K C "least"
  nm : NoAttr K C "most"
def spRuleB (C : Addr) : Sp := fun vs H Q _ => ∃ (x kt dx : Addr) (fs : List (Str × V)) (ks : List Str), vs = [.ref x, .ref kt] ∧ H x = some (.ins C dx fs) ∧ fs.length < 900 ∧ H kt = some (.tup (ks.map V.str)) ∧ Kinds ks ∧
  ∀ H', H' x = some (.ins C dx (putF "kinds" (.ref kt) fs)) → (∀ b o, H b = some o → b ≠ x → H' b = some o) → Q .non H'
def spRule (C : Addr) : Sp := fun vs H Q _ => ∃ (x dx : Addr) (fs : List (Str × V)) (ks : List Str), vs = .ref x :: ks.map V.str ∧ H x = some (.ins C dx fs) ∧ fs.length < 900 ∧ Kinds ks ∧
  ∀ (kt : Addr) (H' : Hp), H kt = none → H' kt = some (.tup (ks.map V.str)) → H' x = some (.ins C dx (putF "kinds" (.ref kt) fs)) → (∀ b o, H b = some o → b ≠ x → H' b = some o) → Q .non H'
theorem rule_body {C f fIk fDt : Addr} {fdIk fdDt : FuncData} {cdv : Value} {A : Around} {outer : List Env} {s : Shared} {H : Hp} {vs : List V} {Q : VK} {E : XK} (g : Bi mg) (R : RC K C)
    (FIk : Def P w K mg base CX0 2 "is_kind" ["thing"] (spIsKind K) fIk fdIk) (FDt : Def P w K mg base CX0 1 "distinct" ["words"] (spDistinctT K) fDt fdDt)
    (hr : Room 2 (A.deeper (PyProof.Rows.envOfC "Rule.__init__" (defScope s_Rule_init) s.heap.objs.size f cdv))) (h : spRuleB C vs H Q E) :
    ∃ t, PSs (cxOf CX0 P w K mg base ["self", "kinds", "kind"] "Rule.__init__" (defScope s_Rule_init) f cdv A outer s H E).nox (defBody s_Rule_init) t ∧ t { nx := fun _ H' => Q .non H', rt := Q } (L2.start ["self", "kinds", "kind"] vs) H := by
  obtain ⟨GIk, mIk, _, bIk⟩ := id FIk
  obtain ⟨GDi, mDi, _, bDi⟩ := id FDt
  have FDi := FDt
  have hrIk : Room 2 _ := hr
  have hrDi : Room 1 _ := hr.mono (by decide)
  obtain ⟨x, kt, dx, fs, ks, rfl, hx, hfs, hkt, hK, k⟩ := h
  refine ⟨_, (pss_cons (ps_if (PW.pt (pw_or (pt_not (pt_chain op_le op_le pe_int (pe_callB call_len (by rfl) g.len PySem.boot_len (pa_cons (pv 1) pa_nil)) pe_int)) (pw_or1 (pt_not (pt_val (pe_callB (cr_all rfl) (by rfl) g.all (by decide +kernel) (pa_cons (pe_lc (own := [("kind", 2)]) (g := gName 2)  (by rfl) sc_Rule_init.nd (pi_tup (pv 1)) (blkOk_by (own := [("kind", 2)]) (N := ["self", "kinds", "kind"]) (sc := defScope s_Rule_init) (by decide +kernel)) (fun _ _ _ _ _ => (pg_name (i := 2) sc_Rule_init.nd rfl (Or.inl rfl))) (fun _ _ _ _ _ => pts_nil) (fun _ _ _ _ _ => (pe_call GIk hrIk rfl mIk FIk.kp bIk .nil pass0 (pa_cons (pv 2) pa_nil)))) pa_nil))))))) (pss_one ps_never) pss_nil)
      (pss_cons (ps_if (pt_cmpR op_lt (pe_callB call_len (by rfl) g.len PySem.boot_len (pa_cons (pe_call GDi hrDi rfl mDi FDi.kp bDi .nil pass0 (pa_cons (pv 1) pa_nil)) pa_nil)) (pe_callB call_len (by rfl) g.len PySem.boot_len (pa_cons (pv 1) pa_nil)) (nomark _)) (pss_one ps_never) pss_nil)
      (pss_one (ps_fld (pv 0) (pe_callTy call_tuple_of (by rfl) g.tuple (by decide +kernel) (pa_cons (pv 1) pa_nil)) rfl)))), ?_⟩
  have hl1 := hK.lo
  have hl2 := hK.hi
  refine ⟨_, rfl, _, _, rfl, .inr ⟨_, SqT.of hkt, rfl⟩, _, _, rfl, rfl, _, rfl, ?_⟩
  rw [List.length_map, decide_eq_true (show (1 : Int) ≤ (ks.length : Int) by omega)]
  refine iteT ⟨_, _, rfl, rfl, _, rfl, ?_⟩
  rw [decide_eq_true (show (ks.length : Int) ≤ 3 by omega)]
  refine iteF ?_
  refine ⟨_, rfl, kt, rfl, ⟨_, SqT.of hkt⟩, fun D hD => lc_valsT (ys := ks.map fun _ => V.bl true) (by rw [List.length_map, List.length_map]) hkt hD (by rw [List.length_map]; omega) (fun _ => rfl) (fun i a b ha hb H' s' Qe qk => ?_) fun H1 s1 hD1 => ?_⟩
  · rw [List.getElem?_map] at ha hb
    cases e : ks[i]? with
    | none => rw [e] at ha; cases ha
    | some z =>
      rw [e] at ha hb
      obtain rfl := Option.some.inj ha
      obtain rfl := Option.some.inj hb
      have hz := hK.kd z (List.mem_of_getElem? e)
      refine ⟨_, rfl, .inl ⟨z, rfl, Nat.le_trans hz.1.2.1 (by decide), fun H2 s2 => ?_⟩⟩
      rw [kindB_of hz]
      exact qk H2 s2
  refine ⟨D, ks.map fun _ => true, rfl, SqL.of (by rw [hD1, List.map_map]; rfl), ?_⟩
  rw [show (ks.map fun _ => true).all id = true by rw [List.all_map, List.all_eq_true]; intro _ _; rfl]
  refine ⟨_, rfl, iteF ?_⟩
  refine ⟨_, rfl, kt, ks, rfl, SqT.of (s1 _ _ hkt), by omega, fun p H2 ws hp s2 h2 ha hm hle => ?_⟩
  have hlen : ws.length = ks.length := Nat.le_antisymm hle (nd_len hK.nd fun z hz => (hm z).mpr hz)
  have s12 := s1.trans s2
  have hkt2 := s12 _ _ hkt
  refine ⟨_, _, rfl, .inl ⟨_, SqL.of h2, rfl⟩, _, rfl, _, _, rfl, .inr ⟨_, SqT.of hkt2, rfl⟩, _, _, rfl, rfl, _, rfl, ?_⟩
  rw [List.length_map, List.length_map, hlen, decide_eq_false (Int.lt_irrefl _)]
  refine iteF ?_
  have nxk : x ≠ kt := ne_of hx hkt (by intro z; cases z)
  refine ⟨_, rfl, kt, _, rfl, .inr ⟨SqT.of hkt2, _, rfl, x, C, dx, fs, rfl, s12 _ _ hx, R.cl, R.nk, by omega, ?_⟩⟩
  exact k _ upd_same fun b o e n => by rw [upd_ne n]; exact s12 _ _ e
theorem ok_rule {C f fIk fDt : Addr} {fdIk fdDt : FuncData} {oc od kV doc pm an cdv ct osl} (g : Bi mg) (R : RC K C) (FIk : Def P w K mg base CX0 2 "is_kind" ["thing"] (spIsKind K) fIk fdIk) (FDt : Def P w K mg base CX0 1 "distinct" ["words"] (spDistinctT K) fDt fdDt)
    (lk : K.lookup f = some ⟨oc, od, .func (PySem.W.fnOf "__init__" "Rule.__init__" (defArgs s_Rule_init) (defBody s_Rule_init) (defScope s_Rule_init) .none kV doc pm an cdv ct), osl⟩) (hcd : PySem.W.codeIn K cdv "Rule.__init__" = true) :
    FnR P w K mg base CX0 3 f (spRule C) := by
  have G := StX.fn_star (P := P) (w := w) (mg := mg) (base := base) (CX := CX0) (k := 2) (ps := ["self"]) (pv := "kinds") (sp := spRuleB C) lk hcd sc_Rule_init StX.cxUp_none
    (fun us rest hl => match us, rest, hl with | [a], [], _ => rfl | [a], r :: rs, _ => rfl)
    (fun A outer s H vs Q E hr h => by
      obtain ⟨t, a, b⟩ := rule_body (P := P) (w := w) (mg := mg) (base := base) (outer := outer) (s := s) g R FIk FDt hr h
      exact ⟨t, a.nox, b⟩)
  refine G.imp fun vs H Q E h => ?_
  obtain ⟨x, dx, fs, ks, rfl, hx, hfs, hK, k⟩ := h
  have hl2 := hK.hi
  refine ⟨[.ref x], ks.map V.str, rfl, rfl, by rw [List.length_map]; exact Nat.le_trans hl2 (by decide), fun p hp => ?_⟩
  have s1 : Same H (upd H p (.tup (ks.map V.str))) := Same.new hp
  refine ⟨x, p, dx, fs, ks, rfl, s1 _ _ hx, hfs, upd_same, hK, fun H' h1 h2 => k p H' hp ?_ h1 fun b o e n => h2 b o (s1 _ _ e) n⟩
  exact h2 _ _ upd_same (ne_of_none hx hp).symm
end
end Cs

set_option Elab.async false
set_option linter.all false
set_option maxRecDepth 100000
set_option maxHeartbeats 4000000
set_option pp.maxSteps 600
/-! AtMost, AtLeast, Between, Exactly: how they are made. -/
namespace Cs
open PySem L2 NdefX
theorem putF_len (f : Str) (v : V) : ∀ fs : List (Str × V), (putF f v fs).length ≤ fs.length + 1
  | [] => Nat.le_refl _
  | (g, x) :: r => by
    show (if g = f then (g, v) :: r else (g, x) :: putF f v r).length ≤ _
    split
    · exact Nat.le_succ _
    · have := putF_len f v r
      simp only [List.length_cons]
      omega
/-- what an __init__ leaves: the fields by F, the kinds' tuple new -/
def RulNew (C : Addr) (H : Hp) (Q : VK) (x dx : Addr) (ks : List Str) (F : Addr → List (Str × V)) : Prop :=
  ∀ (kt : Addr) (H' : Hp), H kt = none → H' kt = some (.tup (ks.map V.str)) → H' x = some (.ins C dx (F kt)) → (∀ b o, H b = some o → b ≠ x → H' b = some o) → Q .non H'
def Bnd9 (n : Int) : Prop := 0 ≤ n ∧ n ≤ 9
/-- __init__(self, n.., *kinds) behind the binding, and as it is called -/
def spIB (bd : Nat) (C : Addr) (ok : List Int → Prop) (F : List Int → List (Str × V) → Addr → List (Str × V)) : Sp := fun vs H Q _ => ∃ (x kt dx : Addr) (ns : List Int) (fs : List (Str × V)) (ks : List Str), vs = (.ref x :: ns.map V.int) ++ [.ref kt] ∧ ok ns ∧ H x = some (.ins C dx fs) ∧ fs.length < bd ∧ H kt = some (.tup (ks.map V.str)) ∧ Kinds ks ∧ RulNew C H Q x dx ks (F ns fs)
def spI (bd : Nat) (C : Addr) (ok : List Int → Prop) (F : List Int → List (Str × V) → Addr → List (Str × V)) : Sp := fun vs H Q _ => ∃ (x dx : Addr) (ns : List Int) (fs : List (Str × V)) (ks : List Str), vs = .ref x :: (ns.map V.int ++ ks.map V.str) ∧ ok ns ∧ H x = some (.ins C dx fs) ∧ fs.length < bd ∧ Kinds ks ∧ RulNew C H Q x dx ks (F ns fs)
def okAM (ns : List Int) : Prop := ∃ m, ns = [m] ∧ Bnd9 m
def fsAM (ns : List Int) (fs : List (Str × V)) (kt : Addr) : List (Str × V) := putF "most" (.int (ns.getD 0 0)) (putF "least" (.int 0) (putF "kinds" (.ref kt) fs))
def fsAL1 (ns : List Int) (fs : List (Str × V)) (kt : Addr) : List (Str × V) := putF "least" (.int (ns.getD 0 0)) (putF "kinds" (.ref kt) (putF "most" .non fs))
def okAL2 (ns : List Int) : Prop := ∃ l m, ns = [l, m] ∧ Bnd9 l ∧ Bnd9 m
def fsAL2 (ns : List Int) (fs : List (Str × V)) (kt : Addr) : List (Str × V) := putF "least" (.int (ns.getD 0 0)) (fsAM [ns.getD 1 0] (putF "most" .non fs) kt)
def okBt (ns : List Int) : Prop := ∃ l m, ns = [l, m] ∧ Bnd9 l ∧ Bnd9 m ∧ l ≤ m
def fsEx (ns : List Int) (fs : List (Str × V)) (kt : Addr) : List (Str × V) := fsAL2 [ns.getD 0 0, ns.getD 0 0] fs kt
theorem spI_of {P : Program} {w : World} {K : PySem.W.Frag} {mg : Str → Option Value} {base : Heap} {k : Nat} {f C : Addr} {ok : List Int → Prop} {F : List Int → List (Str × V) → Addr → List (Str × V)} {n bd : Nat} (hn : ∀ ns, ok ns → ns.length = n)
    (G : FnR P w K mg base CX0 k f (fun vs H Q E => ∃ ws rest, vs = ws ++ rest ∧ ws.length = n + 1 ∧ rest.length ≤ sizeLine ∧ ∀ p, H p = Option.none → spIB bd C ok F (ws ++ [V.ref p]) (upd H p (.tup rest)) Q E)) : FnR P w K mg base CX0 k f (spI bd C ok F) := by
  refine G.imp fun vs H Q E h => ?_
  obtain ⟨x, dx, ns, fs, ks, rfl, ho, hx, hfs, hK, k⟩ := h
  have h3 := hK.hi
  refine ⟨.ref x :: ns.map V.int, ks.map V.str, rfl, by rw [List.length_cons, List.length_map, hn ns ho], by rw [List.length_map]; exact Nat.le_trans h3 (by decide), fun p hp => ?_⟩
  have s1 : Same H (upd H p (.tup (ks.map V.str))) := Same.new hp
  refine ⟨x, p, dx, ns, fs, ks, rfl, ho, s1 _ _ hx, hfs, upd_same, hK, fun kt H' hk h1 h2 h4 => ?_⟩
  exact k kt H' (s1.free hk) h1 h2 fun b o e n => h4 b o (s1 _ _ e) n
section
variable {P : Program} {w : World} {K : PySem.W.Frag} {mg : Str → Option Value} {base : Heap} {kV doc pm ct : Value} {an : Option Addr} {f fIb fR C D cda cc : Addr} {fdIb : FuncData}
theorem ok_atmost (g : Bi mg) (R : RC K C) (FIb : Def P w K mg base CX0 2 "is_bound" ["thing"] (spIsBound K) fIb fdIb) (Fs : FunS K "__init__" "AtMost.__init__" s_AtMost_init f cda cc D kV doc pm ct an) (SG : SupG P K mg) (SD : SupD P K cda D)
    (S : Sup K C D "__init__" fR) (FR : FnR P w K mg base CX0 3 fR (spRule C)) : FnR P w K mg base CX0 4 f (spI 890 C okAM fsAM) := by
  obtain ⟨GIb, mIb, _, bIb⟩ := id FIb
  refine spI_of (n := 1) (fun ns ⟨m, e, _⟩ => by rw [e]; rfl) (fn_supS (ps := ["self", "most"]) (pv := "kinds") Fs sc_AtMost_init StX.cxUp_none (fun us rest hl => match us, rest, hl with | [a, b], [], _ => rfl | [a, b], r :: rs, _ => rfl) fun A outer s H vs Q E hr h => ?_)
  obtain ⟨x, kt, dx, ns, fs, ks, rfl, ⟨m, rfl, hm⟩, hx, hfs, hkt, hK, k⟩ := h
  have TS := supT_mk (CX := CX0) (w := w) (base := base) (N := ["self", "most", "kinds", "__class__"]) (A := A) (outer := outer) (s := s) (H := H) (E := E) (ar := "self") Fs SG SD rfl rfl rfl ⟨_, rfl, rfl⟩
  have hrIb : Room 2 _ := hr.mono (by decide)
  have hrS : Room 3 _ := hr
  refine ⟨_, (pssa_cons (PSA.of (ps_if (pt_not (pt_val (pe_call GIb hrIb rfl mIb FIb.kp bIb .nil pass0 (pa_cons (pv 1) pa_nil)))) (pss_one ps_never) pss_nil))
      (pssa_cons (psa_expr (pea_sup1 (i := 0) TS rfl hrS pass0 (pv 2)))
      (pssa_cons (PSA.of (ps_fld (pv 0) pe_int rfl))
      (pssa_one (PSA.of (ps_fld (pv 0) (pv 1) rfl)))))), ?_⟩
  refine ⟨_, rfl, .inl ⟨m, rfl, ?_⟩⟩
  rw [decide_eq_true hm.1, decide_eq_true hm.2]
  refine ⟨_, rfl, iteF ?_⟩
  refine ⟨x, spRule C, ⟨C, dx, fs, fR, rfl, hx, S, FR⟩, _, rfl, kt, _, rfl, .inl (SqT.of hkt), ?_⟩
  refine ⟨x, dx, fs, ks, rfl, hx, by omega, hK, fun kt2 H1 hk1 hk2 h1 kp1 => ?_⟩
  have nxk : x ≠ kt2 := ne_of_none hx hk1
  have l1 := putF_len "kinds" (.ref kt2) fs
  refine ⟨_, rfl, x, C, dx, _, rfl, h1, R.cl, R.nl, by omega, ?_⟩
  have l2 := putF_len "least" (.int 0) (putF "kinds" (.ref kt2) fs)
  refine ⟨_, rfl, _, rfl, x, C, dx, _, rfl, upd_same, R.cl, R.nm, by omega, ?_⟩
  refine k kt2 _ hk1 (by rw [upd_ne nxk.symm, upd_ne nxk.symm]; exact hk2) upd_same fun b o e n => ?_
  rw [upd_ne n, upd_ne n]
  exact kp1 b o e n
theorem ok_atleast1 (g : Bi mg) (R : RC K C) (FIb : Def P w K mg base CX0 2 "is_bound" ["thing"] (spIsBound K) fIb fdIb) (Fs : FunS K "__init__" "AtLeast.__init__" s_AtLeast_init f cda cc D kV doc pm ct an) (SG : SupG P K mg) (SD : SupD P K cda D)
    (S : Sup K C D "__init__" fR) (FR : FnR P w K mg base CX0 3 fR (spRule C)) : FnR P w K mg base CX0 4 f (spI 890 C okAM fsAL1) := by
  obtain ⟨GIb, mIb, _, bIb⟩ := id FIb
  refine spI_of (n := 1) (fun ns ⟨m, e, _⟩ => by rw [e]; rfl) (fn_supS (ps := ["self", "least"]) (pv := "rest") Fs sc_AtLeast_init StX.cxUp_none (fun us rest hl => match us, rest, hl with | [a, b], [], _ => rfl | [a, b], r :: rs, _ => rfl) fun A outer s H vs Q E hr h => ?_)
  obtain ⟨x, kt, dx, ns, fs, ks, rfl, ⟨m, rfl, hm⟩, hx, hfs, hkt, hK, k⟩ := h
  have TS := supT_mk (CX := CX0) (w := w) (base := base) (N := ["self", "least", "rest", "__class__"]) (A := A) (outer := outer) (s := s) (H := H) (E := E) (ar := "self") Fs SG SD rfl rfl rfl ⟨_, rfl, rfl⟩
  have hrIb : Room 2 _ := hr.mono (by decide)
  have hrS : Room 3 _ := hr
  refine ⟨_, (pssa_cons (PSA.of (ps_if (pt_not (pt_val (pe_call GIb hrIb rfl mIb FIb.kp bIb .nil pass0 (pa_cons (pv 1) pa_nil)))) (pss_one ps_never) pss_nil))
      (pssa_cons (PSA.of (ps_fld (pv 0) pe_non rfl))
      (pssa_cons (psa_expr (pea_sup1 (i := 0) TS rfl hrS pass0 (pv 2)))
      (pssa_one (PSA.of (ps_fld (pv 0) (pv 1) rfl)))))), ?_⟩
  refine ⟨_, rfl, .inl ⟨m, rfl, ?_⟩⟩
  rw [decide_eq_true hm.1, decide_eq_true hm.2]
  refine ⟨_, rfl, iteF ?_⟩
  have nxt : x ≠ kt := ne_of hx hkt (by intro z; cases z)
  refine ⟨_, rfl, x, C, dx, fs, rfl, hx, R.cl, R.nm, by omega, ?_⟩
  have l0 := putF_len "most" .non fs
  refine ⟨x, spRule C, ⟨C, dx, _, fR, rfl, upd_same, S, FR⟩, _, rfl, kt, _, rfl, .inl (SqT.of (by rw [upd_ne nxt.symm]; exact hkt)), ?_⟩
  refine ⟨x, dx, _, ks, rfl, upd_same, by omega, hK, fun kt2 H1 hk1 hk2 h1 kp1 => ?_⟩
  have nxk : x ≠ kt2 := ne_of_none upd_same hk1
  have hk0 : H kt2 = none := by rw [upd_ne nxk.symm] at hk1; exact hk1
  have l1 := putF_len "kinds" (.ref kt2) (putF "most" .non fs)
  refine ⟨_, rfl, _, rfl, x, C, dx, _, rfl, h1, R.cl, R.nl, by omega, ?_⟩
  refine k kt2 _ hk0 (by rw [upd_ne nxk.symm]; exact hk2) upd_same fun b o e n => ?_
  rw [upd_ne n]
  exact kp1 b o (by rw [upd_ne n]; exact e) n
theorem ok_atleast2 (g : Bi mg) (R : RC K C) (FIb : Def P w K mg base CX0 2 "is_bound" ["thing"] (spIsBound K) fIb fdIb) (Fs : FunS K "__init__" "AtLeast.__init__" s_AtLeast_init f cda cc D kV doc pm ct an) (SG : SupG P K mg) (SD : SupD P K cda D)
    (S : Sup K C D "__init__" fR) (FR : FnR P w K mg base CX0 4 fR (spI 890 C okAM fsAM)) : FnR P w K mg base CX0 5 f (spI 880 C okAL2 fsAL2) := by
  obtain ⟨GIb, mIb, _, bIb⟩ := id FIb
  have G := fn_supS (P := P) (w := w) (mg := mg) (base := base) (CX := CX0) (k := 4) (ps := ["self", "least"]) (pv := "rest") (sp := fun vs H Q _ => ∃ (x kt dx : Addr) (l m : Int) (fs : List (Str × V)) (ks : List Str), vs = [.ref x, .int l, .ref kt] ∧ Bnd9 l ∧ Bnd9 m ∧ H x = some (.ins C dx fs) ∧ fs.length < 880 ∧ H kt = some (.tup (.int m :: ks.map V.str)) ∧ Kinds ks ∧ RulNew C H Q x dx ks (fsAL2 [l, m] fs))
    Fs sc_AtLeast_init StX.cxUp_none (fun us rest hl => match us, rest, hl with | [a, b], [], _ => rfl | [a, b], r :: rs, _ => rfl) fun A outer s H vs Q E hr h => by
    obtain ⟨x, kt, dx, l, m, fs, ks, rfl, hl, hm, hx, hfs, hkt, hK, k⟩ := h
    have TS := supT_mk (CX := CX0) (w := w) (base := base) (N := ["self", "least", "rest", "__class__"]) (A := A) (outer := outer) (s := s) (H := H) (E := E) (ar := "self") Fs SG SD rfl rfl rfl ⟨_, rfl, rfl⟩
    have hrIb : Room 2 _ := hr.mono (by decide)
    have hrS : Room 4 _ := hr
    refine ⟨_, (pssa_cons (PSA.of (ps_if (pt_not (pt_val (pe_call GIb hrIb rfl mIb FIb.kp bIb .nil pass0 (pa_cons (pv 1) pa_nil)))) (pss_one ps_never) pss_nil))
      (pssa_cons (PSA.of (ps_fld (pv 0) pe_non rfl))
      (pssa_cons (psa_expr (pea_sup1 (i := 0) TS rfl hrS pass0 (pv 2)))
      (pssa_one (PSA.of (ps_fld (pv 0) (pv 1) rfl)))))), ?_⟩
    refine ⟨_, rfl, .inl ⟨l, rfl, ?_⟩⟩
    rw [decide_eq_true hl.1, decide_eq_true hl.2]
    refine ⟨_, rfl, iteF ?_⟩
    have nxt : x ≠ kt := ne_of hx hkt (by intro z; cases z)
    refine ⟨_, rfl, x, C, dx, fs, rfl, hx, R.cl, R.nm, by omega, ?_⟩
    have l0 := putF_len "most" .non fs
    refine ⟨x, spI 890 C okAM fsAM, ⟨C, dx, _, fR, rfl, upd_same, S, FR⟩, _, rfl, kt, _, rfl, .inl (SqT.of (by rw [upd_ne nxt.symm]; exact hkt)), ?_⟩
    · refine ⟨x, dx, [m], _, ks, rfl, ⟨m, rfl, hm⟩, upd_same, by omega, hK, fun kt2 H1 hk1 hk2 h1 kp1 => ?_⟩
      have nxk : x ≠ kt2 := ne_of_none upd_same hk1
      have hk0 : H kt2 = none := by rw [upd_ne nxk.symm] at hk1; exact hk1
      have l1 := putF_len "kinds" (.ref kt2) (putF "most" .non fs)
      have l2 := putF_len "least" (.int 0) (putF "kinds" (.ref kt2) (putF "most" .non fs))
      have l3 := putF_len "most" (.int m) (putF "least" (.int 0) (putF "kinds" (.ref kt2) (putF "most" .non fs)))
      refine ⟨_, rfl, _, rfl, x, C, dx, _, rfl, h1, R.cl, R.nl, Nat.lt_of_le_of_lt l3 (by omega), ?_⟩
      refine k kt2 _ hk0 (by rw [upd_ne nxk.symm]; exact hk2) upd_same fun b o e n => ?_
      rw [upd_ne n]
      exact kp1 b o (by rw [upd_ne n]; exact e) n
  refine G.imp fun vs H Q E h => ?_
  obtain ⟨x, dx, ns, fs, ks, rfl, ⟨l, m, rfl, hl, hm⟩, hx, hfs, hK, k⟩ := h
  have h3 := hK.hi
  refine ⟨[.ref x, .int l], .int m :: ks.map V.str, rfl, rfl, by rw [List.length_cons, List.length_map]; exact Nat.le_trans (show ks.length + 1 ≤ 4 by omega) (by decide), fun p hp => ?_⟩
  have s1 : Same H (upd H p (.tup (.int m :: ks.map V.str))) := Same.new hp
  exact ⟨x, p, dx, l, m, fs, ks, rfl, hl, hm, s1 _ _ hx, hfs, upd_same, hK, fun kt H' hk h1 h2 h4 => k kt H' (s1.free hk) h1 h2 fun b o e n => h4 b o (s1 _ _ e) n⟩
theorem ok_between (g : Bi mg) (R : RC K C) (FIb : Def P w K mg base CX0 2 "is_bound" ["thing"] (spIsBound K) fIb fdIb) (Fs : FunS K "__init__" "Between.__init__" s_Between_init f cda cc D kV doc pm ct an) (SG : SupG P K mg) (SD : SupD P K cda D)
    (S : Sup K C D "__init__" fR) (FR : FnR P w K mg base CX0 5 fR (spI 880 C okAL2 fsAL2)) : FnR P w K mg base CX0 6 f (spI 880 C okBt fsAL2) := by
  obtain ⟨GIb, mIb, _, bIb⟩ := id FIb
  refine spI_of (n := 2) (fun ns ⟨l, m, e, _⟩ => by rw [e]; rfl) (fn_supS (ps := ["self", "least", "most"]) (pv := "kinds") Fs sc_Between_init StX.cxUp_none (fun us rest hl => match us, rest, hl with | [a, b, c], [], _ => rfl | [a, b, c], r :: rs, _ => rfl) fun A outer s H vs Q E hr h => ?_)
  obtain ⟨x, kt, dx, ns, fs, ks, rfl, ⟨l, m, rfl, hl, hm, hlm⟩, hx, hfs, hkt, hK, k⟩ := h
  have TS := supT_mk (CX := CX0) (w := w) (base := base) (N := ["self", "least", "most", "kinds", "__class__"]) (A := A) (outer := outer) (s := s) (H := H) (E := E) (ar := "self") Fs SG SD rfl rfl rfl ⟨_, rfl, rfl⟩
  have hrIb : Room 2 _ := hr.mono (by decide)
  have hrS : Room 5 _ := hr
  refine ⟨_, (pssa_cons (PSA.of (ps_if (PW.pt (pw_or (pt_not (pt_val (pe_call GIb hrIb rfl mIb FIb.kp bIb .nil pass0 (pa_cons (pv 1) pa_nil)))) (pw_or (pt_not (pt_val (pe_call GIb hrIb rfl mIb FIb.kp bIb .nil pass0 (pa_cons (pv 2) pa_nil)))) (pw_or1 (pt_cmpR op_gt (pv 1) (pv 2) (nomark _)))))) (pss_one ps_never) pss_nil))
      (pssa_one (psa_expr (pea_sup2 (i := 0) TS rfl hrS pass0 (pa_cons (pv 1) (pa_cons (pv 2) (StX.pa_star (pv 3) pa_nil))))))), ?_⟩
  refine ⟨_, rfl, .inl ⟨l, rfl, ?_⟩⟩
  rw [decide_eq_true hl.1, decide_eq_true hl.2]
  refine ⟨_, rfl, iteF ⟨_, rfl, .inl ⟨m, rfl, ?_⟩⟩⟩
  rw [decide_eq_true hm.1, decide_eq_true hm.2]
  refine ⟨_, rfl, iteF ⟨_, rfl, _, rfl, _, _, rfl, rfl, _, rfl, ?_⟩⟩
  rw [decide_eq_false (show ¬ m < l by omega)]
  refine iteF ?_
  refine ⟨x, spI 880 C okAL2 fsAL2, ⟨C, dx, fs, fR, rfl, hx, S, FR⟩, _, rfl, _, rfl, _, rfl, kt, _, rfl, .inl (SqT.of hkt), ?_⟩
  refine ⟨x, dx, [l, m], fs, ks, ?_, ⟨l, m, rfl, hl, hm⟩, hx, hfs, hK, k⟩
  simp
theorem ok_exactly (g : Bi mg) (Fs : FunS K "__init__" "Exactly.__init__" s_Exactly_init f cda cc D kV doc pm ct an) (SG : SupG P K mg) (SD : SupD P K cda D)
    (S : Sup K C D "__init__" fR) (FR : FnR P w K mg base CX0 6 fR (spI 880 C okBt fsAL2)) : FnR P w K mg base CX0 7 f (spI 880 C okAM fsEx) := by
  refine spI_of (n := 1) (fun ns ⟨m, e, _⟩ => by rw [e]; rfl) (fn_supS (ps := ["self", "number"]) (pv := "kinds") Fs sc_Exactly_init StX.cxUp_none (fun us rest hl => match us, rest, hl with | [a, b], [], _ => rfl | [a, b], r :: rs, _ => rfl) fun A outer s H vs Q E hr h => ?_)
  obtain ⟨x, kt, dx, ns, fs, ks, rfl, ⟨m, rfl, hm⟩, hx, hfs, hkt, hK, k⟩ := h
  have TS := supT_mk (CX := CX0) (w := w) (base := base) (N := ["self", "number", "kinds", "__class__"]) (A := A) (outer := outer) (s := s) (H := H) (E := E) (ar := "self") Fs SG SD rfl rfl rfl ⟨_, rfl, rfl⟩
  have hrS : Room 6 _ := hr
  refine ⟨_, (pssa_one (psa_expr (pea_sup2 (i := 0) TS rfl hrS pass0 (pa_cons (pv 1) (pa_cons (pv 1) (StX.pa_star (pv 2) pa_nil)))))), ?_⟩
  refine ⟨x, spI 880 C okBt fsAL2, ⟨C, dx, fs, fR, rfl, hx, S, FR⟩, _, rfl, _, rfl, _, rfl, kt, _, rfl, .inl (SqT.of hkt), ?_⟩
  refine ⟨x, dx, [m, m], fs, ks, ?_, ⟨m, m, rfl, hm, hm, Int.le_refl _⟩, hx, hfs, hK, k⟩
  simp
end
end Cs

set_option Elab.async false
set_option linter.all false
set_option maxRecDepth 100000
set_option maxHeartbeats 8000000
set_option pp.maxSteps 600
/-! The law's kinds: drawn words, moved on by their last letter until they are free. -/
namespace Cs
open PySem L2
/-- a text by its codes -/
abbrev Tx (l : List Nat) : Str := ⟨l.toArray⟩
theorem let_range : LET.cps.toList = (List.range 26).map (97 + ·) := by decide +kernel
theorem mem_let {c : Nat} : c ∈ LET.cps.toList ↔ ∃ i, i < 26 ∧ c = 97 + i := by
  rw [let_range, List.mem_map]
  constructor
  · rintro ⟨i, hi, e⟩
    exact ⟨i, List.mem_range.mp hi, e.symm⟩
  · rintro ⟨i, hi, e⟩
    exact ⟨i, List.mem_range.mpr hi, e.symm⟩
theorem let_at {i : Nat} (h : i < 26) : LET.cps.toList[i]? = some (97 + i) := by
  rw [let_range, List.getElem?_map, List.getElem?_range h]
  rfl
theorem let_index : ∀ i, i < 26 → Builtin.Str.occurrences LET ⟨#[97 + i]⟩ 0 LET.length 1 = [i] := by decide +kernel
/-- the word with its last letter moved on -/
def rot (l : List Nat) (i m : Nat) : Str := Tx (l ++ [97 + (i + m) % 26])
theorem rot_word {l : List Nat} (i m : Nat) (h7 : l.length ≤ 7) (hl : ∀ c ∈ l, c ∈ LET.cps.toList) : Word (rot l i m) := by
  refine ⟨?_, ?_, fun c hc => ?_⟩
  · show 1 ≤ (l ++ [97 + (i + m) % 26]).toArray.size
    simp
  · show (l ++ [97 + (i + m) % 26]).toArray.size ≤ 8
    simp
    omega
  · have hc : c ∈ l ++ [97 + (i + m) % 26] := hc
    rcases List.mem_append.mp hc with q | q
    · exact hl c q
    · rw [List.mem_singleton.mp q]
      exact mem_let.mpr ⟨_, Nat.mod_lt _ (by decide), rfl⟩
theorem word_rot {z : Str} (h : Word z) : ∃ l i, i < 26 ∧ z = rot l i 0 ∧ l.length ≤ 7 ∧ ∀ c ∈ l, c ∈ LET.cps.toList := by
  obtain ⟨⟨ls⟩, ez⟩ : ∃ a, z = ⟨a⟩ := ⟨_, rfl⟩
  subst ez
  obtain ⟨h1, h2, h3⟩ := h
  have h1 : 1 ≤ ls.length := h1
  have h2 : ls.length ≤ 8 := h2
  have ne : ls ≠ [] := by
    rintro rfl
    simp at h1
  have e := List.dropLast_concat_getLast ne
  obtain ⟨i, hi, ei⟩ := mem_let.mp (h3 (ls.getLast ne) (List.getLast_mem ne))
  refine ⟨ls.dropLast, i, hi, ?_, by rw [List.length_dropLast]; omega, fun c hc => h3 c ((List.dropLast_sublist ls).subset hc)⟩
  unfold rot Tx
  rw [Nat.add_zero, Nat.mod_eq_of_lt hi, ← ei, e]
theorem rot_inj {l : List Nat} {i a b : Nat} (ha : a < 26) (hb : b < 26) (h : rot l i a = rot l i b) : a = b := by
  unfold rot Tx at h
  have h := congrArg (fun z : Str => z.cps.toList) h
  have h : l ++ [97 + (i + a) % 26] = l ++ [97 + (i + b) % 26] := h
  have h := List.append_cancel_left h
  have h : 97 + (i + a) % 26 = 97 + (i + b) % 26 := List.cons.inj h |>.1
  omega
theorem rot_free {l : List Nat} {i : Nat} {bs : List Str} (hb : bs.length ≤ 25) (h : ∀ j, j < 26 → rot l i j ∈ bs) : False := by
  have nd : ((List.range 26).map (rot l i)).Nodup := by
    rw [List.Nodup, List.pairwise_map]
    refine List.nodup_range.imp_of_mem fun {a b} ha hb' ne e => ne (rot_inj (List.mem_range.mp ha) (List.mem_range.mp hb') e)
  have := nd_len nd (ys := bs) fun z hz => by
    obtain ⟨j, hj, rfl⟩ := List.mem_map.mp hz
    exact h j (List.mem_range.mp hj)
  rw [List.length_map, List.length_range] at this
  omega
theorem rot_cut (l : List Nat) (c : Nat) : cutS (Tx (l ++ [c])) none (some (-1)) = Tx l := by
  unfold cutS
  have h1 : (Tx (l ++ [c])).length = l.length + 1 := by show (l ++ [c]).toArray.size = _; simp
  have h2 : HT.sIx (l.length + 1) 0 none = 0 := rfl
  have h3 : HT.sIx (l.length + 1) (l.length + 1) (some (-1)) = l.length := by
    unfold HT.sIx
    first
    | (simp; omega)
    | omega
    | simp
  rw [h1, h2, h3]
  show Tx (((l ++ [c]).drop 0).take (l.length - 0)) = Tx l
  simp
theorem tx_cat (a b : List Nat) : Tx a ++ Tx b = Tx (a ++ b) := str_ext (by rw [PySem.Str.cps_append]; simp)
def spKind : Sp := fun vs H Q _ => ∃ (p c tk : Addr) (ts : List Str), vs = [.ref p, .ref tk] ∧ Src H p c ∧ H tk = some (.lst (ts.map V.str)) ∧ ts.length ≤ 9 ∧ tk ≠ p ∧ ∀ (z : Str) (H' : Hp), Kind z → z ∉ ts → Src H' p c → Kp p H H' → Q (.str z) H'
def spKinds : Sp := fun vs H Q _ => ∃ (p c : Addr) (n : Nat), vs = [.ref p, .int n] ∧ Src H p c ∧ n ≤ 9 ∧ ∀ (q : Addr) (H' : Hp) (ks : List Str), H q = none → H' q = some (.lst (ks.map V.str)) → ks.length = n → ks.Nodup → (∀ z ∈ ks, Kind z) → Src H' p c → Kp p H H' → Q (.ref q) H'
def W13 : List Str := ["self", "at", "to", "exactly", "least", "most", "from", "rule", "door", "limit", "begin", "store", "loose"]
theorem w13 : ∀ j : Nat, j < 13 → ∃ z : Str, (W13.map V.str)[j]? = some (.str z) ∧ Word z := by
  intro j hj
  have key : ∀ z ∈ W13, Word z := by
    unfold W13
    intro z hz
    simp only [List.mem_cons, List.not_mem_nil, or_false] at hz
    rcases hz with rfl | rfl | rfl | rfl | rfl | rfl | rfl | rfl | rfl | rfl | rfl | rfl | rfl <;> exact ⟨by decide, by decide, by decide +kernel⟩
  have hl : j < W13.length := hj
  exact ⟨W13[j], by rw [List.getElem?_map, List.getElem?_eq_getElem hl]; rfl, key _ (List.getElem_mem hl)⟩
section
variable {P : Program} {w : World} {K : PySem.W.Frag} {mg : Str → Option Value} {base : Heap}
theorem ok_kind {f fD : Addr} {fd fdD : FuncData} (F : Fun K "_law_kind" "_law_kind" s_l_kind f fd) (g : Bi mg) (FD : Def P w K mg base CX0 2 "_law_draw" ["_law_source_here", "_law_size"] spDraw fD fdD) : FnOk P w K mg base CX0 3 f fd ["_law_source_here", "_law_taken"] spKind := by
  obtain ⟨GD, mD, _, bD⟩ := id FD
  refine F.ok sc_l_kind (fun vs H Q E h => ?_) (fun cdv A outer s H vs Q E hr h => ?_)
  · obtain ⟨_, _, _, _, rfl, _⟩ := h
    rfl
  · obtain ⟨p, c, tk, ts, rfl, S0, htk, hts, ntp, k⟩ := h
    have hrD : Room 2 _ := hr.mono (by decide)
    refine ⟨_, (pss_cons (ps_set (i := 2) sc_l_kind.nd rfl (Or.inl rfl) pe_str)
      (pss_cons (ps_set (i := 3) sc_l_kind.nd rfl (Or.inl rfl) (pe_lst (pa_cons pe_str (pa_cons pe_str (pa_cons pe_str (pa_cons pe_str (pa_cons pe_str (pa_cons pe_str (pa_cons pe_str (pa_cons pe_str (pa_cons pe_str (pa_cons pe_str (pa_cons pe_str (pa_cons pe_str (pa_cons pe_str (pa_cons pe_str pa_nil))))))))))))))))
      (pss_cons (ps_set (i := 3) sc_l_kind.nd rfl (Or.inl rfl) (pe_op op_cat (pv 3) (pe_lst (pa_cons pe_str (pa_cons pe_str pa_nil)))))
      (pss_cons (ps_set (i := 4) sc_l_kind.nd rfl (Or.inl rfl) (pe_lst (pa_cons pe_str (pa_cons pe_str (pa_cons pe_str (pa_cons pe_str (pa_cons pe_str (pa_cons pe_str (pa_cons pe_str (pa_cons pe_str (pa_cons pe_str (pa_cons pe_str (pa_cons pe_str (pa_cons pe_str (pa_cons pe_str pa_nil)))))))))))))))
      (pss_cons (ps_set (i := 5) sc_l_kind.nd rfl (Or.inl rfl) pe_str)
      (pss_cons (ps_for PassesOwn.never rfl (pi_range1 rfl g.range (pa_cons (pe_op op_add pe_int (pe_call GD hrD rfl mD FD.kp bD .nil pass0 (pa_cons (pv 0) (pa_cons pe_int pa_nil)))) pa_nil)) (pg_name (i := 6) sc_l_kind.nd rfl (Or.inl rfl)) (pss_one (ps_set (i := 5) sc_l_kind.nd rfl (Or.inl rfl) (pe_op op_add_str (pv 5) (pe_ix ix_str (pv 2) (pe_call GD hrD rfl mD FD.kp bD .nil pass0 (pa_cons (pv 0) (pa_cons pe_int pa_nil))) (fun _ _ => rfl))))))
      (C8.pss_cut (ps_if (pt_cmpR op_eq (pe_call GD hrD rfl mD FD.kp bD .nil pass0 (pa_cons (pv 0) (pa_cons pe_int pa_nil))) pe_int (nomark _)) (pss_one (ps_set (i := 5) sc_l_kind.nd rfl (Or.inl rfl) (pe_ix ix_list (pv 4) (pe_call GD hrD rfl mD FD.kp bD .nil pass0 (pa_cons (pv 0) (pa_cons pe_int pa_nil))) (fun _ _ => rfl)))) pss_nil)
      (pss_cons (ps_for PassesOwn.never rfl (pi_range1 rfl g.range (pa_cons pe_int pa_nil)) (pg_name (i := 6) sc_l_kind.nd rfl (Or.inl rfl)) (pss_one (ps_if (PW.pt (pw_or (pt_cmpR op_in_seq (pv 5) (pv 1) (by rfl)) (pw_or1 (pt_cmpR op_in_seq (pv 5) (pv 3) (by rfl))))) (pss_one (ps_set (i := 5) sc_l_kind.nd rfl (Or.inl rfl) (pe_op op_add_str (pe_slice sl_str (pv 5) po_none (po_some (pe_un un_neg pe_int))) (pe_ix ix_str (pv 2) (pe_op op_mod (pe_op op_add (pe_m1 PySem.F.slot_str_index PySem.F.type_str_index mt_sindex (pv 2) (pe_ix ix_str (pv 5) (pe_un un_neg pe_int) (fun _ _ => rfl))) pe_int) pe_int) (fun _ _ => rfl))))) pss_nil)))
      (pss_one (ps_ret (pv 5))))))))))), ?_⟩
    refine ⟨by show 14 ≤ sizeLine; decide, fun b1 hb1 => ?_⟩
    generalize hB1 : ([V.str "hold", .str "look", .str "do", .str "row", .str "one", .str "all", .str "new", .str "give", .str "take", .str "join", .str "other", .str "if", .str "and", .str "or"] : List V) = B1
    have s1 : Same H (upd H b1 (.lst B1)) := Same.new hb1
    have h1 : (upd H b1 (.lst B1)) b1 = some (.lst B1) := upd_same
    generalize upd H b1 (.lst B1) = H1 at s1 h1
    refine ⟨_, rfl, by show 2 ≤ sizeLine; decide, fun b2 hb2 => ?_⟩
    have s2 : Same H1 (upd H1 b2 (.lst [.str "then", .str "gone"])) := Same.new hb2
    have h2 : (upd H1 b2 (.lst [.str "then", .str "gone"])) b2 = some (.lst [.str "then", .str "gone"]) := upd_same
    generalize upd H1 b2 (.lst [.str "then", .str "gone"]) = H2 at s2 h2
    refine ⟨b1, b2, _, _, rfl, rfl, s2 _ _ h1, h2, by rw [← hB1]; show 14 + 2 ≤ sizeLine; decide, fun b3 hb3 => ?_⟩
    have eR : B1 ++ [.str "then", .str "gone"] = RES.map V.str := by rw [← hB1]; rfl
    rw [eR]
    have s3 : Same H2 (upd H2 b3 (.lst (RES.map V.str))) := Same.new hb3
    have h3 : (upd H2 b3 (.lst (RES.map V.str))) b3 = some (.lst (RES.map V.str)) := upd_same
    have n3p : b3 ≠ p := (S0.same (s1.trans s2)).new_p hb3
    generalize upd H2 b3 (.lst (RES.map V.str)) = H3 at s3 h3
    refine ⟨by show 13 ≤ sizeLine; decide, fun b4 hb4 => ?_⟩
    have s4 : Same H3 (upd H3 b4 (.lst (W13.map V.str))) := Same.new hb4
    have h4 : (upd H3 b4 (.lst (W13.map V.str))) b4 = some (.lst (W13.map V.str)) := upd_same
    have s14 := ((s1.trans s2).trans s3).trans s4
    have n4p : b4 ≠ p := (S0.same ((s1.trans s2).trans s3)).new_p hb4
    have eU : upd H3 b4 (.lst (W13.map V.str)) = upd H3 b4 (.lst [V.str "self", .str "at", .str "to", .str "exactly", .str "least", .str "most", .str "from", .str "rule", .str "door", .str "limit", .str "begin", .str "store", .str "loose"]) := rfl
    rw [eU] at s4 h4 s14
    generalize upd H3 b4 (.lst [V.str "self", .str "at", .str "to", .str "exactly", .str "least", .str "most", .str "from", .str "rule", .str "door", .str "limit", .str "begin", .str "store", .str "loose"]) = H4 at s4 h4 s14
    have S4 := S0.same s14
    have h34 := s4 _ _ h3
    have ht4 := s14 _ _ htk
    clear eU eR hB1 h1 h2 h3 s1 s2 s3 s4 hb1 hb2 hb3 hb4
    refine ⟨_, rfl, p, c, 8, rfl, S4, by decide, by decide, fun v1 H5 v10 v11 S5 k5 => ⟨_, _, rfl, rfl, _, rfl, by omega, by omega, ?_⟩⟩
    have kA := Kp.of (p := p) s14
    -- the letters
    refine for_range (lo := 0) (n := (1 + v1).toNat) (fun i σ' H' => ∃ (z : Str) (x6 : Option V), σ' = [some (.ref p), some (.ref tk), some (.str LET), some (.ref b3), some (.ref b4), some (.str z), x6] ∧ z.length = i ∧ (∀ c ∈ z.cps.toList, c ∈ LET.cps.toList) ∧ Src H' p c ∧ Kp p H4 H')
      ⟨Str.empty, _, rfl, rfl, (fun _ h => by cases h), S5, k5⟩ ?_ ?_
    · rintro i σ' H' hi ⟨z, x6, rfl, hz, hzl, S', k'⟩
      refine ⟨_, rfl, _, rfl, _, rfl, p, c, 26, rfl, S', by decide, by decide, fun v2 H6 v20 v21 S6 k6 => ?_⟩
      obtain ⟨j, ej⟩ : ∃ j : Nat, v2 = j := ⟨v2.toNat, by omega⟩
      subst ej
      have hj : j < 26 := by omega
      refine ⟨LET, (j : Int), 97 + j, rfl, rfl, by decide, atI_nat (let_at hj), ?_⟩
      refine ⟨z, _, rfl, rfl, ?_, ?_⟩
      · show z.length + 1 ≤ sizeLine
        exact Nat.le_trans (show z.length + 1 ≤ 100 by omega) (by decide)
      · refine ⟨_, _, rfl, ?_, fun d hd => ?_, S6, k'.trans k6⟩
        · rw [len_add]
          show z.length + 1 = i + 1
          omega
        · rw [PySem.Str.cps_append, Array.toList_append] at hd
          rcases List.mem_append.mp hd with q | q
          · exact hzl d q
          · have : d = 97 + j := by simpa using q
            rw [this]
            exact mem_let.mpr ⟨j, hj, rfl⟩
    rintro σ' H' ⟨z, x6, rfl, hz, hzl, S', k'⟩
    have hw0 : Word z := ⟨by omega, by omega, hzl⟩
    clear hz hzl
    -- a known word
    refine ⟨fun σ2 H2 => ∃ z : Str, σ2 = [some (.ref p), some (.ref tk), some (.str LET), some (.ref b3), some (.ref b4), some (.str z), x6] ∧ Word z ∧ Src H2 p c ∧ Kp p H4 H2, ?_, ?_⟩
    · refine ⟨_, rfl, p, c, 8, rfl, S', by decide, by decide, fun v2 H6 v20 v21 S6 k6 => ⟨rfl, _, rfl, ite2 (fun z1 => ?_) (fun z1 => ?_)⟩⟩
      · refine ⟨_, rfl, _, rfl, p, c, 13, rfl, S6, by decide, by decide, fun v3 H7 v30 v31 S7 k7 => ?_⟩
        have k47 := (k'.trans k6).trans k7
        obtain ⟨y, ey, hy⟩ := w13 v3.toNat (by omega)
        refine ⟨b4, _, v3, _, rfl, rfl, SqL.of (k47 _ _ h4 n4p), at_of (z := v3) (j := v3.toNat) (by omega) ey, ?_⟩
        exact ⟨y, rfl, hy, S7, k47⟩
      · exact ⟨z, rfl, hw0, S6, k'.trans k6⟩
    clear S' k' hw0
    rintro σ2 H6 ⟨z, rfl, hw, S6, k6⟩
    obtain ⟨l, i0, hi0, rfl, hl7, hll⟩ := word_rot hw
    have h36 := k6 _ _ h34 n3p
    have ht6 := k6 _ _ ht4 ntp
    have fl : (ts.map V.str).all flatV = true := flat_str ts
    have fr : (RES.map V.str).all flatV = true := flat_str RES
    refine ⟨26, rfl, by decide, by decide, ?_⟩
    refine for_range (lo := 0) (n := 26) (fun i σ' H' => H' = H6 ∧ ∃ (m : Nat) (x6 : Option V), σ' = [some (.ref p), some (.ref tk), some (.str LET), some (.ref b3), some (.ref b4), some (.str (rot l i0 m)), x6] ∧ m ≤ i ∧ (m < i → rot l i0 m ∉ ts ∧ rot l i0 m ∉ RES) ∧ ∀ j, j < m → rot l i0 j ∈ ts ++ RES)
      ⟨rfl, 0, _, rfl, Nat.le_refl _, (fun h => absurd h (Nat.lt_irrefl _)), fun j h => absurd h (Nat.not_lt_zero _)⟩ ?_ ?_
    · rintro i σ' H' hi ⟨rfl, m, x6, rfl, hm, hf, hb⟩
      have stop : rot l i0 m ∉ ts → rot l i0 m ∉ RES → ∃ (m' : Nat) (x6' : Option V), ([some (.ref p), some (.ref tk), some (.str LET), some (.ref b3), some (.ref b4), some (.str (rot l i0 m)), some (.int (0 + (i : Int)))] : L2.St) = [some (.ref p), some (.ref tk), some (.str LET), some (.ref b3), some (.ref b4), some (.str (rot l i0 m')), x6'] ∧ m' ≤ i + 1 ∧ (m' < i + 1 → rot l i0 m' ∉ ts ∧ rot l i0 m' ∉ RES) ∧ ∀ j, j < m' → rot l i0 j ∈ ts ++ RES :=
        fun a b => ⟨m, _, rfl, by omega, fun _ => ⟨a, b⟩, hb⟩
      have next : rot l i0 m ∈ ts ++ RES → m = i := fun q => by
        by_cases e : m = i
        · exact e
        · obtain ⟨a, b⟩ := hf (by omega)
          rcases List.mem_append.mp q with q | q
          · exact absurd q a
          · exact absurd q b
      have body : ∀ {D : Ends}, rot l i0 m ∈ ts ++ RES → True := fun _ => trivial
      refine ⟨_, rfl, _, rfl, tk, _, rfl, .inl (SqL.of ht6), rfl, fl, _, rfl, ?_⟩
      have hr1 : (rot l i0 m).length ≤ sizeLine := Nat.le_trans (rot_word i0 m hl7 hll).2.1 (by decide)
      have hmod : (i0 + m) % 26 < 26 := Nat.mod_lt _ (by decide)
      have hlast : atI (rot l i0 m).cps.toList (-1) = some (97 + (i0 + m) % 26) := atI_last l _
      have hsucc : Tx l ++ (⟨#[97 + ((i0 + m) % 26 + 1) % 26]⟩ : Str) = rot l i0 (m + 1) := by
        show Tx l ++ Tx [97 + ((i0 + m) % 26 + 1) % 26] = _
        rw [tx_cat]
        unfold rot
        rw [show ((i0 + m) % 26 + 1) % 26 = (i0 + (m + 1)) % 26 by omega]
      have hmod2 : ((i0 + m) % 26 + 1) % 26 < 26 := Nat.mod_lt _ (by decide)
      have ecut : cutS (rot l i0 m) none (some (-1)) = Tx l := rot_cut l _
      have eix : ((((i0 + m) % 26 : Nat) : Int) + 1) % 26 = ((((i0 + m) % 26 + 1) % 26 : Nat) : Int) := by omega
      have hl8 : (Tx l).length = l.length := by show l.toArray.size = _; simp
      rw [in_str]
      refine ite2 (fun z1 => ?_) (fun z1 => ?_)
      · have hin := of_decide_eq_true z1
        have hmem : rot l i0 m ∈ ts ++ RES := List.mem_append.mpr (.inl hin)
        refine ⟨_, rfl, _, rfl, _, rfl, rot l i0 m, rfl, hr1, ?_⟩

        refine ⟨_, rfl, _, rfl, ⟨_, rfl⟩, _, rfl, _, rfl, rot l i0 m, -1, _, rfl, rfl, hr1, hlast, LET, _, _, [], rfl, rfl, let_index _ hmod, _, _, rfl, rfl, _, _, rfl, rfl, (by show (0 : Int) < 26; decide), LET, _, 97 + ((i0 + m) % 26 + 1) % 26, rfl, rfl, by decide, (by rw [eix]; exact atI_nat (let_at hmod2)), ?_⟩
        refine ⟨_, _, rfl, rfl, ?_, ?_⟩
        · rw [ecut, hl8]
          exact Nat.le_trans (show l.length + 1 ≤ 100 by omega) (by decide)
        · rw [ecut, hsucc]
          exact ⟨rfl, m + 1, _, rfl, by omega, fun h => by have := next hmem; omega, fun j hj => by
            rcases Nat.lt_succ_iff_lt_or_eq.mp hj with q | q
            · exact hb j q
            · rw [q]; exact hmem⟩
      · have hno : rot l i0 m ∉ ts := fun q => z1 (decide_eq_true q)
        refine ⟨_, rfl, _, rfl, b3, _, rfl, .inl (SqL.of h36), rfl, fr, _, rfl, ?_⟩
        rw [in_str]
        refine ite2 (fun z2 => ?_) (fun z2 => ?_)
        · have hin := of_decide_eq_true z2
          have hmem : rot l i0 m ∈ ts ++ RES := List.mem_append.mpr (.inr hin)
          refine ⟨_, rfl, _, rfl, _, rfl, rot l i0 m, rfl, hr1, ?_⟩
          refine ⟨_, rfl, _, rfl, ⟨_, rfl⟩, _, rfl, _, rfl, rot l i0 m, -1, _, rfl, rfl, hr1, hlast, LET, _, _, [], rfl, rfl, let_index _ hmod, _, _, rfl, rfl, _, _, rfl, rfl, (by show (0 : Int) < 26; decide), LET, _, 97 + ((i0 + m) % 26 + 1) % 26, rfl, rfl, by decide, (by rw [eix]; exact atI_nat (let_at hmod2)), ?_⟩
          refine ⟨_, _, rfl, rfl, ?_, ?_⟩
          · rw [ecut, hl8]
            exact Nat.le_trans (show l.length + 1 ≤ 100 by omega) (by decide)
          · rw [ecut, hsucc]
            exact ⟨rfl, m + 1, _, rfl, by omega, fun h => by have := next hmem; omega, fun j hj => by
              rcases Nat.lt_succ_iff_lt_or_eq.mp hj with q | q
              · exact hb j q
              · rw [q]; exact hmem⟩
        · have hno2 : rot l i0 m ∉ RES := fun q => z2 (decide_eq_true q)
          exact ⟨rfl, stop hno hno2⟩
    · rintro σ' H' ⟨rfl, m, x6, rfl, hm, hf, hb⟩
      have hm26 : m < 26 := by
        by_cases e : m = 26
        · subst e
          exact (rot_free (bs := ts ++ RES) (by rw [List.length_append]; show ts.length + 16 ≤ 25; omega) hb).elim
        · omega
      obtain ⟨a, b⟩ := hf hm26
      refine ⟨_, rfl, ?_⟩
      exact k _ _ ⟨rot_word i0 m hl7 hll, b⟩ a S6 (kA.trans k6)
theorem ok_kinds {f fK : Addr} {fd fdK : FuncData} (F : Fun K "_law_kinds" "_law_kinds" s_l_kinds f fd) (g : Bi mg) (FK : Def P w K mg base CX0 3 "_law_kind" ["_law_source_here", "_law_taken"] spKind fK fdK) : FnOk P w K mg base CX0 4 f fd ["_law_source_here", "_law_many"] spKinds := by
  obtain ⟨GK, mK, _, bK⟩ := id FK
  refine F.ok sc_l_kinds (fun vs H Q E h => ?_) (fun cdv A outer s H vs Q E hr h => ?_)
  · obtain ⟨_, _, _, rfl, _⟩ := h
    rfl
  · obtain ⟨p, c, n, rfl, S0, hn, k⟩ := h
    have hrK : Room 3 _ := hr.mono (by decide)
    refine ⟨_, (pss_cons (ps_set (i := 2) sc_l_kinds.nd rfl (Or.inl rfl) (pe_lst pa_nil))
      (pss_cons (ps_for PassesOwn.never rfl (pi_range1 rfl g.range (pa_cons (pv 1) pa_nil)) (pg_name (i := 3) sc_l_kinds.nd rfl (Or.inl rfl)) (pss_one (ps_expr (pe_bm PySem.F.plainAttrs_list PySem.F.slot_list_append PySem.F.type_list_append mt_append (pv 2) (pa_cons (pe_call GK hrK rfl mK FK.kp bK .nil pass0 (pa_cons (pv 0) (pa_cons (pv 2) pa_nil))) pa_nil)))))
      (pss_one (ps_ret (pv 2))))), ?_⟩
    refine ⟨Nat.zero_le _, fun q hq => ?_⟩
    have s1 : Same H (upd H q (.lst [])) := Same.new hq
    have h1 : (upd H q (.lst [])) q = some (.lst []) := upd_same
    have nqp : q ≠ p := S0.new_p hq
    have nqc : q ≠ c := S0.new_c hq
    generalize upd H q (.lst []) = H1 at s1 h1
    refine ⟨_, rfl, _, rfl, by omega, by omega, ?_⟩
    refine for_range (lo := 0) (n := ((n : Int)).toNat) (fun i σ' H' => ∃ (ks : List Str) (x3 : Option V), σ' = [some (.ref p), some (.int n), some (.ref q), x3] ∧ H' q = some (.lst (ks.map V.str)) ∧ ks.length = i ∧ ks.Nodup ∧ (∀ z ∈ ks, Kind z) ∧ Src H' p c ∧ Kp p H H')
      ⟨[], _, rfl, h1, rfl, List.nodup_nil, (fun _ h => nomatch h), S0.same s1, Kp.of s1⟩ ?_ ?_
    · rintro i σ' H' hi ⟨ks, x3, rfl, hq', hl, hnd, hkd, S', k'⟩
      refine ⟨_, rfl, .inl ⟨rfl, _, SqL.of hq'⟩, _, rfl, _, rfl, p, c, q, ks, rfl, S', hq', by omega, nqp, fun z H2 hz hzn S2 k2 => ?_⟩
      have hq2 := k2 _ _ hq' nqp
      refine ⟨q, _, _, rfl, rfl, hq2, ?_, ?_⟩
      · rw [List.length_map]
        exact Nat.lt_of_le_of_lt (show ks.length ≤ 100 by omega) (by decide)
      have kq : ∀ b o, H2 b = some o → b ≠ q → (upd H2 q (.lst (ks.map V.str ++ [.str z]))) b = some o := fun b o e n => by rw [upd_ne n]; exact e
      refine ⟨ks ++ [z], _, rfl, ?_, ?_, ?_, fun y hy => ?_, S2.keep (fun b o hb e => kq b o e (by rcases hb with rfl | rfl; exact nqp.symm; exact nqc.symm)), fun b o e n => kq _ _ (k2 _ _ (k' b o e n) n) (ne_of_none e hq)⟩
      · rw [upd_same, List.map_append]
        rfl
      · rw [List.length_append, hl]
        rfl
      · exact List.nodup_append.mpr ⟨hnd, List.pairwise_singleton _ _, fun a ha b hb e => by rw [List.mem_singleton.mp hb] at e; exact hzn (e ▸ ha)⟩
      · rcases List.mem_append.mp hy with e | e
        · exact hkd y e
        · rw [List.mem_singleton.mp e]
          exact hz
    · rintro σ' H' ⟨ks, x3, rfl, hq', hl, hnd, hkd, S', k'⟩
      exact ⟨_, rfl, k q H' ks hq hq' (by omega) hnd hkd S' k'⟩
end
end Cs

set_option Elab.async false
set_option linter.all false
set_option maxRecDepth 100000
set_option maxHeartbeats 4000000
set_option pp.maxSteps 600
/-! The five classes of rules, their objects, and how they are made. -/
namespace Cs
open PySem L2
inductive RCl where
  | al | am | bt | ex
/-- the classes' places -/
structure RAd where
  R : Addr
  al : Addr
  am : Addr
  bt : Addr
  ex : Addr
def RAd.at (a : RAd) : RCl → Addr
  | .al => a.al
  | .am => a.am
  | .bt => a.bt
  | .ex => a.ex
/-- which of the four a rule is, too -/
def isA : RCl → RCl → Bool
  | .al, .al => true
  | .al, _ => false
  | .am, .am => true
  | .am, _ => false
  | .bt, .ex => false
  | .bt, _ => true
  | .ex, _ => true
/-- what isinstance asks of an object of the class -/
structure RI (K : PySem.W.Frag) (C : Addr) : Prop where
  cl : Cls K C
  ha : PySem.W.findIn K (.ref C) "__class__" = some (some (.builtin "object.__class__"))
  hn : PySem.W.specialIn K (.builtin "object.__class__") "__get__" = some (some (.builtin "getset_descriptor.__get__"))
  htk : PySem.W.takesIn K (.builtin "object.__class__") = some true
  hm : PySem.W.mroIn K C (.type "object") = some true
theorem RI.ty {K : PySem.W.Frag} {C : Addr} {H : Hp} {p dx : Addr} {fs : List (Str × V)} (c : RI K C) (h : H p = some (.ins C dx fs)) : TyX K H (.ref p) (.ref C) := .base (.ins h c.cl c.ha c.hn c.htk c.hm)
theorem kitR_self {K : PySem.W.Frag} {C : Addr} : PySem.W.kitOne K (.ref C) (.ref C) = some true := by
  unfold PySem.W.kitOne
  rw [if_pos (beq_self_eq_true _)]
theorem kitR_by {K : PySem.W.Frag} {C : Addr} {t : Value} {b : Bool} (h1 : PySem.W.isClsIn K C = true) (h2 : PySem.W.typeIn K (.ref C) = some (.type "type")) (h : PySem.W.subIn K t (.ref C) = some b) (hn : (t == Value.ref C) = false) : PySem.W.kitOne K t (.ref C) = some b := by
  have h1' : (PySem.W.clsIn K C).isSome = true := h1
  unfold PySem.W.kitOne PySem.W.kitCls
  simp [hn, h1', h2, h]
/-- .. where the answer is yes -/
theorem kitR_yes {K : PySem.W.Frag} {C : Addr} {t : Value} (h1 : PySem.W.isClsIn K C = true) (h2 : PySem.W.typeIn K (.ref C) = some (.type "type")) (h : PySem.W.subIn K t (.ref C) = some true) : PySem.W.kitOne K t (.ref C) = some true := by
  cases e : (t == Value.ref C) with
  | false => exact kitR_by h1 h2 h e
  | true =>
    unfold PySem.W.kitOne
    rw [if_pos e]
theorem kitR_no {K : PySem.W.Frag} {C D : Addr} (h1 : PySem.W.isClsIn K C = true) (h2 : PySem.W.typeIn K (.ref C) = some (.type "type")) (h : PySem.W.subIn K (.ref D) (.ref C) = some false) (hn : D ≠ C) : PySem.W.kitOne K (.ref D) (.ref C) = some false :=
  kitR_by h1 h2 h (beq_eq_false_iff_ne.mpr fun e => hn (by cases e; rfl))
structure RWo (K : PySem.W.Frag) (mg : Str → Option Value) (a : RAd) : Prop where
  mR : mg "Rule" = some (.ref a.R)
  mal : mg "AtLeast" = some (.ref a.al)
  mam : mg "AtMost" = some (.ref a.am)
  mbt : mg "Between" = some (.ref a.bt)
  mex : mg "Exactly" = some (.ref a.ex)
  rc : ∀ c, RC K (a.at c)
  ri : ∀ c, RI K (a.at c)
  kitR : ∀ c, PySem.W.kitOne K (.ref (a.at c)) (.ref a.R) = some true
  kit : ∀ c d, PySem.W.kitOne K (.ref (a.at c)) (.ref (a.at d)) = some (isA c d)
/-- how the four are made -/
structure RMk (P : Program) (w : World) (K : PySem.W.Frag) (mg : Str → Option Value) (base : Heap) (a : RAd) : Prop where
  wo : RWo K mg a
  al : ∃ f, Mk K a.al f ∧ FnR P w K mg base CX0 7 f (spI 880 a.al okAM fsAL1)
  am : ∃ f, Mk K a.am f ∧ FnR P w K mg base CX0 7 f (spI 880 a.am okAM fsAM)
  bt : ∃ f, Mk K a.bt f ∧ FnR P w K mg base CX0 7 f (spI 880 a.bt okBt fsAL2)
  ex : ∃ f, Mk K a.ex f ∧ FnR P w K mg base CX0 7 f (spI 880 a.ex okAM fsEx)
theorem FnR.less {P : Program} {w : World} {K : PySem.W.Frag} {mg : Str → Option Value} {base : Heap} {k bd bd' : Nat} {f C : Addr} {ok : List Int → Prop} {F : List Int → List (Str × V) → Addr → List (Str × V)} (G : FnR P w K mg base CX0 k f (spI bd C ok F)) (h : bd' ≤ bd) : FnR P w K mg base CX0 k f (spI bd' C ok F) := by
  refine G.imp fun vs H Q E q => ?_
  obtain ⟨x, dx, ns, fs, ks, rfl, ho, hx, hfs, hK, k⟩ := q
  exact ⟨x, dx, ns, fs, ks, rfl, ho, hx, Nat.lt_of_lt_of_le hfs h, hK, k⟩
/-- an integer or None -/
def optV : Option Int → V
  | none => .non
  | some n => .int n
/-- no field has a method's name -/
def NoM (fs : List (Str × V)) : Prop := ∀ g ∈ (["total_of", "holds", "lacks", "sum_text"] : List Str), fs.lookup g = none
theorem nom {fs : List (Str × V)} (h1 : fs.lookup ("total_of" : Str) = none) (h2 : fs.lookup ("holds" : Str) = none) (h3 : fs.lookup ("lacks" : Str) = none) (h4 : fs.lookup ("sum_text" : Str) = none) : NoM fs := by
  intro g hg
  simp only [List.mem_cons, List.not_mem_nil, or_false] at hg
  rcases hg with rfl | rfl | rfl | rfl <;> assumption
/-- a rule -/
def RulAt (a : RAd) (H : Hp) (p : Addr) (c : RCl) (l : Int) (m : Option Int) (ks : List Str) : Prop :=
  ∃ dx kt fs, H p = some (.ins (a.at c) dx fs) ∧ H kt = some (.tup (ks.map V.str)) ∧ fs.lookup ("kinds" : Str) = some (.ref kt) ∧ fs.lookup ("least" : Str) = some (.int l) ∧ fs.lookup ("most" : Str) = some (optV m) ∧ NoM fs
theorem RulAt.same {a : RAd} {H H' : Hp} {p : Addr} {c : RCl} {l : Int} {m : Option Int} {ks : List Str} (s : Same H H') (h : RulAt a H p c l m ks) : RulAt a H' p c l m ks := by
  obtain ⟨dx, kt, fs, h1, h2, h3⟩ := h
  exact ⟨dx, kt, fs, s _ _ h1, s _ _ h2, h3⟩
theorem RulAt.kp {a : RAd} {H H' : Hp} {p q d : Addr} {c : RCl} {l : Int} {m : Option Int} {ks : List Str} (S : Src H q d) (k : Kp q H H') (h : RulAt a H p c l m ks) : RulAt a H' p c l m ks := by
  obtain ⟨dx, kt, fs, h1, h2, h3⟩ := h
  obtain ⟨o, ho⟩ := S.at_p
  exact ⟨dx, kt, fs, k _ _ h1 (ne_of h1 ho (by intro z; cases z)), k _ _ h2 (ne_of h2 ho (by intro z; cases z)), h3⟩
/-- a new object, made from its integers and kinds -/
def NewR (C : Addr) (F : Addr → List (Str × V)) (ks : List Str) (H : Hp) (Q : Addr → Hp → Prop) : Prop :=
  ∀ (x dx kt : Addr) (H' : Hp), H x = none → H kt = none → Same H H' → H' x = some (.ins C dx (F kt)) → H' kt = some (.tup (ks.map V.str)) → Q x H'
theorem mk_rule {bd : Nat} {C : Addr} {ok : List Int → Prop} {F : List Int → List (Str × V) → Addr → List (Str × V)} {ns : List Int} {ks : List Str} {H : Hp} {Q : Addr → Hp → Prop} {E : XK} (hb : 0 < bd) (ho : ok ns) (hK : Kinds ks) (k : NewR C (F ns []) ks H Q) :
    ∀ x dx, H x = none → H dx = none → dx ≠ x → spI bd C ok F (V.ref x :: (ns.map V.int ++ ks.map V.str)) (upd (upd H dx (.own x)) x (.ins C dx [])) (fun v H2 => v = .non ∧ Q x H2) E := by
  intro x dx hx hdx ne
  refine ⟨x, dx, ns, [], ks, rfl, ho, upd_same, hb, hK, fun kt H' h1 h2 h3 h4 => ⟨rfl, ?_⟩⟩
  have nkx : kt ≠ x := fun e => by rw [e, upd_same] at h1; cases h1
  have hkt : H kt = none := by
    rw [upd_ne nkx] at h1
    have nkd : kt ≠ dx := fun e => by rw [e, upd_same] at h1; cases h1
    rw [upd_ne nkd] at h1
    exact h1
  refine k x dx kt H' hx hkt (fun b o e => h4 b o ?_ (ne_of_none e hx)) h3 h2
  rw [upd_ne (ne_of_none e hx), upd_ne (ne_of_none e hdx)]
  exact e
section
variable {a : RAd} {l m n : Int} {ks : List Str} {H : Hp} {Q : Addr → Hp → Prop} {E : XK}
theorem mk_al (hl : Bnd9 l) (hK : Kinds ks) (k : ∀ x H', H x = none → Same H H' → RulAt a H' x .al l none ks → Q x H') :
    ∀ x dx, H x = none → H dx = none → dx ≠ x → spI 880 a.al okAM fsAL1 (V.ref x :: ([l].map V.int ++ ks.map V.str)) (upd (upd H dx (.own x)) x (.ins a.al dx [])) (fun v H2 => v = .non ∧ Q x H2) E :=
  mk_rule (by decide) ⟨l, rfl, hl⟩ hK fun x dx kt H' hx _ s h1 h2 => k x H' hx s ⟨dx, kt, _, h1, h2, rfl, rfl, rfl, nom rfl rfl rfl rfl⟩
theorem mk_am (hm : Bnd9 m) (hK : Kinds ks) (k : ∀ x H', H x = none → Same H H' → RulAt a H' x .am 0 (some m) ks → Q x H') :
    ∀ x dx, H x = none → H dx = none → dx ≠ x → spI 880 a.am okAM fsAM (V.ref x :: ([m].map V.int ++ ks.map V.str)) (upd (upd H dx (.own x)) x (.ins a.am dx [])) (fun v H2 => v = .non ∧ Q x H2) E :=
  mk_rule (by decide) ⟨m, rfl, hm⟩ hK fun x dx kt H' hx _ s h1 h2 => k x H' hx s ⟨dx, kt, _, h1, h2, rfl, rfl, rfl, nom rfl rfl rfl rfl⟩
theorem mk_bt (hl : Bnd9 l) (hm : Bnd9 m) (hlm : l ≤ m) (hK : Kinds ks) (k : ∀ x H', H x = none → Same H H' → RulAt a H' x .bt l (some m) ks → Q x H') :
    ∀ x dx, H x = none → H dx = none → dx ≠ x → spI 880 a.bt okBt fsAL2 (V.ref x :: ([l, m].map V.int ++ ks.map V.str)) (upd (upd H dx (.own x)) x (.ins a.bt dx [])) (fun v H2 => v = .non ∧ Q x H2) E :=
  mk_rule (by decide) ⟨l, m, rfl, hl, hm, hlm⟩ hK fun x dx kt H' hx _ s h1 h2 => k x H' hx s ⟨dx, kt, _, h1, h2, rfl, rfl, rfl, nom rfl rfl rfl rfl⟩
theorem mk_ex (hn : Bnd9 n) (hK : Kinds ks) (k : ∀ x H', H x = none → Same H H' → RulAt a H' x .ex n (some n) ks → Q x H') :
    ∀ x dx, H x = none → H dx = none → dx ≠ x → spI 880 a.ex okAM fsEx (V.ref x :: ([n].map V.int ++ ks.map V.str)) (upd (upd H dx (.own x)) x (.ins a.ex dx [])) (fun v H2 => v = .non ∧ Q x H2) E :=
  mk_rule (by decide) ⟨n, rfl, hn⟩ hK fun x dx kt H' hx _ s h1 h2 => k x H' hx s ⟨dx, kt, _, h1, h2, rfl, rfl, rfl, nom rfl rfl rfl rfl⟩
end
theorem kinds_cases {ks : List Str} (h : Kinds ks) : (∃ x, ks = [x]) ∨ (∃ x y, ks = [x, y]) ∨ (∃ x y z, ks = [x, y, z]) := by
  have h1 := h.lo
  have h2 := h.hi
  match ks, h1, h2 with
  | [x], _, _ => exact .inl ⟨x, rfl⟩
  | [x, y], _, _ => exact .inr (.inl ⟨x, y, rfl⟩)
  | [x, y, z], _, _ => exact .inr (.inr ⟨x, y, z, rfl⟩)
/-! ### a tuple of words as data -/
def pts (zs : List Str) : PyData := .tuple (zs.map .str)
theorem wordR_ok {z : Str} (h : Word z) : PyData.strOk z = true := by
  unfold PyData.strOk
  rw [← Array.all_toList, List.all_eq_true]
  intro c hc
  have h1 := h.2.2 c hc
  have h2 : ∀ c ∈ LET.cps.toList, c < 0x110000 := by decide +kernel
  exact decide_eq_true (h2 c h1)
theorem strs_can : ∀ {zs : List Str}, (∀ z ∈ zs, Word z) → PyData.canLayAll0 (zs.map .str) = true
  | [], _ => rfl
  | z :: zs, h => by
    rw [List.map_cons, PyData.canLayAll0, strs_can fun y m => h y (List.mem_cons_of_mem _ m), PyData.canLay0, wordR_ok (h z List.mem_cons_self)]
    rfl
theorem strs_depth : ∀ zs : List Str, PyData.depthAll (zs.map .str) = 0
  | [] => rfl
  | z :: zs => by
    rw [List.map_cons, PyData.depthAll, strs_depth zs, PyData.depth]
    rfl
theorem pts_shaped {zs : List Str} (h : ∀ z ∈ zs, Word z) : SeqAt.shaped (pts zs) = true := by
  unfold SeqAt.shaped pts
  rw [Bool.and_eq_true]
  refine ⟨by rw [PyData.canLay0]; exact strs_can h, decide_eq_true ?_⟩
  rw [PyData.depth, strs_depth]
  decide
theorem pts_refl {zs : List Str} (h : ∀ z ∈ zs, Word z) : PyData.eqv (pts zs) (pts zs) = true := SeqAt.eqv_refl _ (SeqAt.canLay_of_shaped (pts_shaped h))
theorem strs_dp {K : PySem.W.Frag} {H : Hp} : ∀ zs : List Str, DpAll K H (zs.map V.str) (zs.map .str)
  | [] => .nil
  | z :: zs => .cons (.str z) (strs_dp zs)
def spLawR (K : PySem.W.Frag) : Sp := fun vs H Q _ => ∃ (a : Addr) (ns : List Int), vs = [.ref a] ∧ SqL K H a (ns.map V.int) ∧ ns.length ≤ 63 ∧ ∀ H', Q (.bl true) H'
end Cs

set_option Elab.async false
set_option linter.all false
set_option maxRecDepth 100000
set_option maxHeartbeats 8000000
set_option pp.maxSteps 600
/-! The law of rules made: its helpers. -/
namespace Cs
open PySem L2
/-! ### the four rules of two ends -/
def rowC : Nat → RCl
  | 0 => .al
  | 1 => .am
  | 2 => .bt
  | _ => .ex
def rowL (lo : Int) : Nat → Int
  | 1 => 0
  | _ => lo
def rowM (lo hi : Int) : Nat → Option Int
  | 0 => none
  | 1 => some hi
  | 2 => some hi
  | _ => some lo
def FourAt (a : RAd) (H : Hp) (q : Addr) (lo hi : Int) (ks : List Str) : Prop := ∃ ps : List Addr, H q = some (.lst (ps.map V.ref)) ∧ ps.length = 4 ∧ ∀ j p, ps[j]? = some p → RulAt a H p (rowC j) (rowL lo j) (rowM lo hi j) ks
theorem FourAt.same {a : RAd} {H H' : Hp} {q : Addr} {lo hi : Int} {ks : List Str} (s : Same H H') (h : FourAt a H q lo hi ks) : FourAt a H' q lo hi ks := by
  obtain ⟨ps, h1, h2, h3⟩ := h
  exact ⟨ps, s _ _ h1, h2, fun j p e => (h3 j p e).same s⟩
theorem FourAt.mk {a : RAd} {H : Hp} {q p1 p2 p3 p4 : Addr} {lo hi : Int} {ks : List Str} (h : H q = some (.lst [.ref p1, .ref p2, .ref p3, .ref p4])) (r1 : RulAt a H p1 .al lo none ks) (r2 : RulAt a H p2 .am 0 (some hi) ks) (r3 : RulAt a H p3 .bt lo (some hi) ks) (r4 : RulAt a H p4 .ex lo (some lo) ks) : FourAt a H q lo hi ks := by
  refine ⟨[p1, p2, p3, p4], h, rfl, fun j p e => ?_⟩
  match j, e with
  | 0, e => cases e; exact r1
  | 1, e => cases e; exact r2
  | 2, e => cases e; exact r3
  | 3, e => cases e; exact r4
def spFour (a : RAd) : Sp := fun vs H Q _ => ∃ (lo hi : Int) (kl : Addr) (ks : List Str), vs = [.int lo, .int hi, .ref kl] ∧ Bnd9 lo ∧ Bnd9 hi ∧ lo ≤ hi ∧ H kl = some (.lst (ks.map V.str)) ∧ Kinds ks ∧ ∀ (q : Addr) (H' : Hp), H q = none → Same H H' → FourAt a H' q lo hi ks → Q (.ref q) H'
def EndsAt (H : Hp) (e : Addr) (lo hi : Int) : Prop := ∃ ts : List Addr, H e = some (.lst (ts.map V.ref)) ∧ ts.length = 4 ∧ ∀ j t, ts[j]? = some t → H t = some (.tup [.int (rowL lo j), optV (rowM lo hi j)])
theorem EndsAt.same {H H' : Hp} {e : Addr} {lo hi : Int} (s : Same H H') (h : EndsAt H e lo hi) : EndsAt H' e lo hi := by
  obtain ⟨ts, h1, h2, h3⟩ := h
  exact ⟨ts, s _ _ h1, h2, fun j t e => s _ _ (h3 j t e)⟩
def spEnds : Sp := fun vs H Q _ => ∃ lo hi : Int, vs = [.int lo, .int hi] ∧ ∀ (e : Addr) (H' : Hp), H e = none → Same H H' → EndsAt H' e lo hi → Q (.ref e) H'
section
variable {P : Program} {w : World} {K : PySem.W.Frag} {mg : Str → Option Value} {base : Heap}
theorem ok_four {f : Addr} {fd : FuncData} {a : RAd} (F : Fun K "_law_four" "_law_four" s_l_four f fd) (g : Bi mg) (W : RMk P w K mg base a) : FnOk P w K mg base CX0 9 f fd ["_law_low", "_law_high", "_law_kinds_here"] (spFour a) := by
  obtain ⟨fL, mkL, iL⟩ := W.al
  obtain ⟨fM, mkM, iM⟩ := W.am
  obtain ⟨fB, mkB, iB⟩ := W.bt
  obtain ⟨fX, mkX, iX⟩ := W.ex
  have Wo := W.wo
  refine F.ok sc_l_four (fun vs H Q E h => ?_) (fun cdv A outer s H vs Q E hr h => ?_)
  · obtain ⟨_, _, _, _, rfl, _⟩ := h
    rfl
  · obtain ⟨lo, hi, kl, ks, rfl, hlo, hhi, hle, hk, hK, k⟩ := h
    have hrMk : Room 8 _ := hr
    refine ⟨_, (pss_cons (ps_set (i := 3) sc_l_four.nd rfl (Or.inl rfl) (pe_ix ix_list (pv 2) pe_int (fun _ _ => rfl)))
      (pss_cons (ps_if (pt_cmpR op_eq (pe_callB call_len (by rfl) g.len PySem.boot_len (pa_cons (pv 2) pa_nil)) pe_int (nomark _)) (pss_one (ps_ret (pe_lst (pa_cons (StX.pe_makeR mkL iL hrMk rfl Wo.mal pass0 (pa_cons (pv 0) (pa_cons (pv 3) pa_nil))) (pa_cons (StX.pe_makeR mkM iM hrMk rfl Wo.mam pass0 (pa_cons (pv 1) (pa_cons (pv 3) pa_nil))) (pa_cons (StX.pe_makeR mkB iB hrMk rfl Wo.mbt pass0 (pa_cons (pv 0) (pa_cons (pv 1) (pa_cons (pv 3) pa_nil)))) (pa_cons (StX.pe_makeR mkX iX hrMk rfl Wo.mex pass0 (pa_cons (pv 0) (pa_cons (pv 3) pa_nil))) pa_nil))))))) pss_nil)
      (pss_cons (ps_set (i := 4) sc_l_four.nd rfl (Or.inl rfl) (pe_ix ix_list (pv 2) pe_int (fun _ _ => rfl)))
      (pss_cons (ps_if (pt_cmpR op_eq (pe_callB call_len (by rfl) g.len PySem.boot_len (pa_cons (pv 2) pa_nil)) pe_int (nomark _)) (pss_one (ps_ret (pe_lst (pa_cons (StX.pe_makeR mkL iL hrMk rfl Wo.mal pass0 (pa_cons (pv 0) (pa_cons (pv 3) (pa_cons (pv 4) pa_nil)))) (pa_cons (StX.pe_makeR mkM iM hrMk rfl Wo.mam pass0 (pa_cons (pv 1) (pa_cons (pv 3) (pa_cons (pv 4) pa_nil)))) (pa_cons (StX.pe_makeR mkB iB hrMk rfl Wo.mbt pass0 (pa_cons (pv 0) (pa_cons (pv 1) (pa_cons (pv 3) (pa_cons (pv 4) pa_nil))))) (pa_cons (StX.pe_makeR mkX iX hrMk rfl Wo.mex pass0 (pa_cons (pv 0) (pa_cons (pv 3) (pa_cons (pv 4) pa_nil)))) pa_nil))))))) pss_nil)
      (pss_cons (ps_set (i := 5) sc_l_four.nd rfl (Or.inl rfl) (pe_ix ix_list (pv 2) pe_int (fun _ _ => rfl)))
      (pss_cons (ps_set (i := 6) sc_l_four.nd rfl (Or.inl rfl) (pe_lst (pa_cons (StX.pe_makeR mkL iL hrMk rfl Wo.mal pass0 (pa_cons (pv 0) (pa_cons (pv 3) (pa_cons (pv 4) (pa_cons (pv 5) pa_nil))))) (pa_cons (StX.pe_makeR mkM iM hrMk rfl Wo.mam pass0 (pa_cons (pv 1) (pa_cons (pv 3) (pa_cons (pv 4) (pa_cons (pv 5) pa_nil))))) pa_nil))))
      (pss_one (ps_ret (pe_op op_cat (pv 6) (pe_lst (pa_cons (StX.pe_makeR mkB iB hrMk rfl Wo.mbt pass0 (pa_cons (pv 0) (pa_cons (pv 1) (pa_cons (pv 3) (pa_cons (pv 4) (pa_cons (pv 5) pa_nil)))))) (pa_cons (StX.pe_makeR mkX iX hrMk rfl Wo.mex pass0 (pa_cons (pv 0) (pa_cons (pv 3) (pa_cons (pv 4) (pa_cons (pv 5) pa_nil))))) pa_nil)))))))))))), ?_⟩
    rcases kinds_cases hK with ⟨x, rfl⟩ | ⟨x, y, rfl⟩ | ⟨x, y, z, rfl⟩
    · refine ⟨_, rfl, kl, _, _, _, rfl, rfl, SqL.of hk, at_of (z := 0) (j := 0) (by omega) rfl, ?_⟩
      refine ⟨_, rfl, _, _, rfl, .inl ⟨_, SqL.of hk, rfl⟩, rfl, _, rfl, iteT ?_⟩
      refine ⟨_, rfl, _, rfl, mk_al (ks := [x]) hlo hK fun p1 H1 n1 s1 r1 => ?_⟩
      refine ⟨_, rfl, _, rfl, mk_am (ks := [x]) hhi hK fun p2 H2 n2 s2 r2 => ?_⟩
      refine ⟨_, rfl, _, rfl, _, rfl, mk_bt (ks := [x]) hlo hhi hle hK fun p3 H3 n3 s3 r3 => ?_⟩
      refine ⟨_, rfl, _, rfl, mk_ex (ks := [x]) hlo hK fun p4 H4 n4 s4 r4 => ?_⟩
      refine ⟨by show 4 ≤ sizeLine; decide, fun q hq => ?_⟩
      have s5 : Same H4 (upd H4 q (.lst [.ref p1, .ref p2, .ref p3, .ref p4])) := Same.new hq
      have s14 := ((s1.trans s2).trans s3).trans s4
      exact k q _ (s14.free hq) (s14.trans s5) (.mk upd_same (r1.same (((s2.trans s3).trans s4).trans s5)) (r2.same ((s3.trans s4).trans s5)) (r3.same (s4.trans s5)) (r4.same s5))
    · refine ⟨_, rfl, kl, _, _, _, rfl, rfl, SqL.of hk, at_of (z := 0) (j := 0) (by omega) rfl, ?_⟩
      refine ⟨_, rfl, _, _, rfl, .inl ⟨_, SqL.of hk, rfl⟩, rfl, _, rfl, iteF ?_⟩
      refine ⟨_, rfl, kl, _, _, _, rfl, rfl, SqL.of hk, at_of (z := 1) (j := 1) (by omega) rfl, ?_⟩
      refine ⟨_, rfl, _, _, rfl, .inl ⟨_, SqL.of hk, rfl⟩, rfl, _, rfl, iteT ?_⟩
      refine ⟨_, rfl, _, rfl, _, rfl, mk_al (ks := [x, y]) hlo hK fun p1 H1 n1 s1 r1 => ?_⟩
      refine ⟨_, rfl, _, rfl, _, rfl, mk_am (ks := [x, y]) hhi hK fun p2 H2 n2 s2 r2 => ?_⟩
      refine ⟨_, rfl, _, rfl, _, rfl, _, rfl, mk_bt (ks := [x, y]) hlo hhi hle hK fun p3 H3 n3 s3 r3 => ?_⟩
      refine ⟨_, rfl, _, rfl, _, rfl, mk_ex (ks := [x, y]) hlo hK fun p4 H4 n4 s4 r4 => ?_⟩
      refine ⟨by show 4 ≤ sizeLine; decide, fun q hq => ?_⟩
      have s5 : Same H4 (upd H4 q (.lst [.ref p1, .ref p2, .ref p3, .ref p4])) := Same.new hq
      have s14 := ((s1.trans s2).trans s3).trans s4
      exact k q _ (s14.free hq) (s14.trans s5) (.mk upd_same (r1.same (((s2.trans s3).trans s4).trans s5)) (r2.same ((s3.trans s4).trans s5)) (r3.same (s4.trans s5)) (r4.same s5))
    · refine ⟨_, rfl, kl, _, _, _, rfl, rfl, SqL.of hk, at_of (z := 0) (j := 0) (by omega) rfl, ?_⟩
      refine ⟨_, rfl, _, _, rfl, .inl ⟨_, SqL.of hk, rfl⟩, rfl, _, rfl, iteF ?_⟩
      refine ⟨_, rfl, kl, _, _, _, rfl, rfl, SqL.of hk, at_of (z := 1) (j := 1) (by omega) rfl, ?_⟩
      refine ⟨_, rfl, _, _, rfl, .inl ⟨_, SqL.of hk, rfl⟩, rfl, _, rfl, iteF ?_⟩
      refine ⟨_, rfl, kl, _, _, _, rfl, rfl, SqL.of hk, at_of (z := 2) (j := 2) (by omega) rfl, ?_⟩
      refine ⟨_, rfl, _, rfl, _, rfl, _, rfl, mk_al (ks := [x, y, z]) hlo hK fun p1 H1 n1 s1 r1 => ?_⟩
      refine ⟨_, rfl, _, rfl, _, rfl, _, rfl, mk_am (ks := [x, y, z]) hhi hK fun p2 H2 n2 s2 r2 => ?_⟩
      refine ⟨by show 2 ≤ sizeLine; decide, fun b1 hb1 => ?_⟩
      have t1 : Same H2 (upd H2 b1 (.lst [.ref p1, .ref p2])) := Same.new hb1
      have g1 : (upd H2 b1 (.lst [.ref p1, .ref p2])) b1 = some (.lst [.ref p1, .ref p2]) := upd_same
      generalize upd H2 b1 (.lst [.ref p1, .ref p2]) = H2' at t1 g1
      refine ⟨_, rfl, ?_⟩
      refine ⟨_, rfl, _, rfl, _, rfl, _, rfl, _, rfl, mk_bt (ks := [x, y, z]) hlo hhi hle hK fun p3 H3 n3 s3 r3 => ?_⟩
      refine ⟨_, rfl, _, rfl, _, rfl, _, rfl, mk_ex (ks := [x, y, z]) hlo hK fun p4 H4 n4 s4 r4 => ?_⟩
      refine ⟨by show 2 ≤ sizeLine; decide, fun b2 hb2 => ?_⟩
      have t2 : Same H4 (upd H4 b2 (.lst [.ref p3, .ref p4])) := Same.new hb2
      have g2 : (upd H4 b2 (.lst [.ref p3, .ref p4])) b2 = some (.lst [.ref p3, .ref p4]) := upd_same
      generalize upd H4 b2 (.lst [.ref p3, .ref p4]) = H4' at t2 g2
      refine ⟨b1, b2, _, _, rfl, rfl, ((s3.trans s4).trans t2) _ _ g1, g2, by show 4 ≤ sizeLine; decide, fun q hq => ?_⟩
      have s5 : Same H4' (upd H4' q (.lst ([.ref p1, .ref p2] ++ [.ref p3, .ref p4]))) := Same.new hq
      have s14 := (((((s1.trans s2).trans t1).trans s3).trans s4).trans t2)
      exact k q _ (s14.free hq) (s14.trans s5) (.mk upd_same (r1.same (((((s2.trans t1).trans s3).trans s4).trans t2).trans s5)) (r2.same ((((t1.trans s3).trans s4).trans t2).trans s5)) (r3.same ((s4.trans t2).trans s5)) (r4.same (t2.trans s5)))
theorem ok_ends {f : Addr} {fd : FuncData} (F : Fun K "_law_ends" "_law_ends" s_l_ends f fd) (g : Bi mg) : FnOk P w K mg base CX0 1 f fd ["_law_low", "_law_high"] spEnds := by
  refine F.ok sc_l_ends (fun vs H Q E h => ?_) (fun cdv A outer s H vs Q E hr h => ?_)
  · obtain ⟨_, _, rfl, _⟩ := h
    rfl
  · obtain ⟨lo, hi, rfl, k⟩ := h
    refine ⟨_, (pss_one (ps_ret (pe_lst (pa_cons (pe_tup (pa_cons (pv 0) (pa_cons pe_non pa_nil))) (pa_cons (pe_tup (pa_cons pe_int (pa_cons (pv 1) pa_nil))) (pa_cons (pe_tup (pa_cons (pv 0) (pa_cons (pv 1) pa_nil))) (pa_cons (pe_tup (pa_cons (pv 0) (pa_cons (pv 0) pa_nil))) pa_nil))))))), ?_⟩
    refine ⟨_, rfl, by show 2 ≤ sizeLine; decide, fun t1 ht1 => ?_⟩
    have s1 : Same H (upd H t1 (.tup [.int lo, .non])) := Same.new ht1
    have g1 : (upd H t1 (.tup [.int lo, .non])) t1 = some (.tup [.int lo, .non]) := upd_same
    generalize upd H t1 (.tup [.int lo, .non]) = H1 at s1 g1
    refine ⟨_, rfl, by show 2 ≤ sizeLine; decide, fun t2 ht2 => ?_⟩
    have s2 : Same H1 (upd H1 t2 (.tup [.int 0, .int hi])) := Same.new ht2
    have g2 : (upd H1 t2 (.tup [.int 0, .int hi])) t2 = some (.tup [.int 0, .int hi]) := upd_same
    generalize upd H1 t2 (.tup [.int 0, .int hi]) = H2 at s2 g2
    refine ⟨_, rfl, _, rfl, by show 2 ≤ sizeLine; decide, fun t3 ht3 => ?_⟩
    have s3 : Same H2 (upd H2 t3 (.tup [.int lo, .int hi])) := Same.new ht3
    have g3 : (upd H2 t3 (.tup [.int lo, .int hi])) t3 = some (.tup [.int lo, .int hi]) := upd_same
    generalize upd H2 t3 (.tup [.int lo, .int hi]) = H3 at s3 g3
    refine ⟨_, rfl, _, rfl, by show 2 ≤ sizeLine; decide, fun t4 ht4 => ?_⟩
    have s4 : Same H3 (upd H3 t4 (.tup [.int lo, .int lo])) := Same.new ht4
    have g4 : (upd H3 t4 (.tup [.int lo, .int lo])) t4 = some (.tup [.int lo, .int lo]) := upd_same
    generalize upd H3 t4 (.tup [.int lo, .int lo]) = H4 at s4 g4
    refine ⟨by show 4 ≤ sizeLine; decide, fun q hq => ?_⟩
    have s5 : Same H4 (upd H4 q (.lst [.ref t1, .ref t2, .ref t3, .ref t4])) := Same.new hq
    have s14 := ((s1.trans s2).trans s3).trans s4
    refine k q _ (s14.free hq) (s14.trans s5) ⟨[t1, t2, t3, t4], upd_same, rfl, fun j t e => ?_⟩
    match j, e with
    | 0, e => cases e; exact (((s2.trans s3).trans s4).trans s5) _ _ g1
    | 1, e => cases e; exact ((s3.trans s4).trans s5) _ _ g2
    | 2, e => cases e; exact (s4.trans s5) _ _ g3
    | 3, e => cases e; exact s5 _ _ g4
end
end Cs

set_option Elab.async false
set_option linter.all false
set_option maxRecDepth 100000
set_option maxHeartbeats 4000000
/-! a and super().m(..). -/
namespace Cs
open PySem PySem.W PySem.Spec L2 NdefX
theorem pea_and {X : Cx} {b : List Stmt} {e1 e2 : Expr} {t1 t2 : TE} {pos : Pos} (h1 : PE X e1 t1) (h2 : PEA X b e2 t2) : PEA X b (.BoolOp .And [e1, e2] pos) (tAndV t1 t2) := by
  refine ⟨fun pins s σ H Q I h => ?_⟩
  show PySem.wpAt (model X.prog X.w) X.A (.func b X.env) (do
    let v ← eval e1 X.env
    standAt pos
    let c ← holding [v] (truthy v)
    match BoolOp.And, c with
    | .And, false | .Or, true => pure v
    | _, _ => boolOp pos .And [eval e2 X.env]) (EP X pins σ Q) X.xe s
  refine PySem.wpAt_bind (wpAt_of_wpAny (thn (h1.run pins s σ H _ I h) fun v s1 ⟨x, H1, I1, r1, q1⟩ => ?_))
  obtain ⟨c, rfl, q1⟩ := q1
  cases r1
  refine PySem.wpAt_bind (wpAt_of_wpAny (wpAny_standAt ?_))
  refine PySem.wpAt_bind (wpAt_of_wpAny (wpAny_holding (wpAny_truthy_bool ?_)))
  cases c with
  | true => exact h2.run pins s1 σ H1 Q I1 q1
  | false => exact wpAt_of_wpAny (wpAny_pure ⟨.bl false, H1, I1, rfl, q1⟩)
end Cs

set_option Elab.async false
set_option linter.all false
set_option maxRecDepth 100000
set_option maxHeartbeats 8000000
set_option pp.maxSteps 600
/-! What rules hold for: total_of, holds, lacks. -/
namespace Cs
open PySem L2 NdefX
/-! ### o.m(..) of a rule of any of the four classes -/
structure MW (P : Program) (w : World) (K : PySem.W.Frag) (mg : Str → Option Value) (base : Heap) (CX : CXT) (k : Nat) (a : RAd) (m : Str) (sp : RCl → Sp) : Prop where
  ex : ∀ c, ∃ f, Cls K (a.at c) ∧ Meth K (a.at c) m f ∧ FnR P w K mg base CX k f (sp c)
def tMethP (a : RAd) (m : Str) (sp : RCl → Sp) (E : XK) (ta : TE) (t : TA) : TE := fun σ H Q => ta σ H fun x H1 => ∃ p c dx fs, x = .ref p ∧ H1 p = some (.ins (a.at c) dx fs) ∧ fs.lookup m = none ∧ t σ H1 fun vs H2 => sp c (.ref p :: vs) H2 Q E
theorem pe_methP {X : Cx} {CX : CXT} {k : Nat} {a : RAd} {m : Str} {sp : RCl → Sp} {E : XK} {o e : Expr} {es : List Expr} {ta : TE} {t : TA} {apos pos : Pos} {pl : Sem Bool} (he : PE X o ta) (W : MW X.prog X.w X.K X.mg X.base CX k a m sp) (hr : Room k X.A) (hx : Passes CX X E) (ha : PA X (e :: es) t)
    (hst : starEach (e :: es) X.env = (false, eval e X.env) :: starEach es X.env := by rfl) (hpl : (backTo pos (starEach es X.env)).any (·.1) = false := by rfl)
    (ht : eval (.Call (.Attribute o m apos) (e :: es) [] pos) X.env = (do
      let ov ← eval o X.env
      standAt apos.atName
      let (f, first) ← holding [ov] (getMethod ov m pl)
      callWith pos f first (backTo pos (starEach (e :: es) X.env)) (backToKw pos (keywordEach [] X.env))) := by rfl) :
    PE X (.Call (.Attribute o m apos) (e :: es) [] pos) (tMethP a m sp E ta t) := by
  refine ⟨fun pins s σ H Q I h => ?_⟩
  refine PySem.W.methodCall_KW (pl := pl) (thn (he.run pins s σ H _ I h) fun u s1 ⟨x, H1, I1, rx, p, c, dx, fs, ex, ea, l, q⟩ => ?_) ht
  subst ex
  obtain rfl : u = Value.ref p := rx
  obtain ⟨f, hc, hm, F⟩ := W.ex c
  refine getmeth_ok I1 ea hc hm l ?_
  refine PySem.W.callWith_K (first := [.ref p]) (h₀ := X.base) I.ok.mod.kin hm.kp (thn (ha.run pos pins s1 σ H1 _ I1 q) fun us s2 ⟨vs, H2, I2, r, q2⟩ => ⟨I2.kIn, ?_⟩) hst hpl
  exact wpAny_call (run_fnR (us := .ref p :: us) (vs := .ref p :: vs) F hr hx I2 (.cons rfl r) q2)
/-! ### the promises -/
def tot (t : Tab) (ks : List Str) : Int := (ks.map (val t)).sum
/-- a rule, counts -/
def RCat (a : RAd) (c : RCl) (C : Addr) (H : Hp) (p q : Addr) (l : Int) (m : Option Int) (ks : List Str) (t : Tab) : Prop := RulAt a H p c l m ks ∧ (∃ d, Cnt C H q d t) ∧ Kinds ks
def spTot (a : RAd) (c : RCl) (C : Addr) : Sp := fun vs H Q _ => ∃ (p q : Addr) (l : Int) (m : Option Int) (ks : List Str) (t : Tab), vs = [.ref p, .ref q] ∧ RCat a c C H p q l m ks t ∧ ∀ H', Same H H' → Q (.int (tot t ks)) H'
def spH (a : RAd) (c : RCl) (C : Addr) (PM : Option Int → Prop) (G : Int → Option Int → Int → Bool) : Sp := fun vs H Q _ => ∃ (p q : Addr) (l : Int) (m : Option Int) (ks : List Str) (t : Tab), vs = [.ref p, .ref q] ∧ RCat a c C H p q l m ks t ∧ PM m ∧ ∀ H', Same H H' → Q (.bl (G l m (tot t ks))) H'
def spL (a : RAd) (c : RCl) (C : Addr) (PM : Option Int → Prop) (G : Int → Option Int → Int → Tab) : Sp := fun vs H Q _ => ∃ (p q : Addr) (l : Int) (m : Option Int) (ks : List Str) (t : Tab), vs = [.ref p, .ref q] ∧ RCat a c C H p q l m ks t ∧ PM m ∧
  ∀ (r : Addr) (H' : Hp) (xs : List V), H r = none → Same H H' → H' r = some (.lst xs) → PrL H' xs (G l m (tot t ks)) → Q (.ref r) H'
def g0 (l : Int) (_ : Option Int) (T : Int) : Bool := decide (l ≤ T)
def g1 (l : Int) (m : Option Int) (T : Int) : Bool := decide (T ≤ m.getD 0) && decide (l ≤ T)
def k0 (l : Int) (_ : Option Int) (T : Int) : Tab := if l - T > 0 then [("few", l - T)] else []
def k1 (l : Int) (m : Option Int) (T : Int) : Tab := k0 l m T ++ (if T - m.getD 0 > 0 then ([("many", T - m.getD 0)] : Tab) else [])
def PS1 (m : Option Int) : Prop := ∃ n, m = some n
def spPass (C : Addr) (sp : Sp) : Sp := fun vs H Q _ => ∃ (p : Addr) (x : V) (dx : Addr) (fs : List (Str × V)), vs = [.ref p, x] ∧ H p = some (.ins C dx fs) ∧ sp [.ref p, x] H Q E0
theorem RCat.same {a : RAd} {c : RCl} {C : Addr} {H H' : Hp} {p q : Addr} {l : Int} {m : Option Int} {ks : List Str} {t : Tab} (s : Same H H') (h : RCat a c C H p q l m ks t) : RCat a c C H' p q l m ks t := by
  obtain ⟨h1, ⟨d, h2⟩, h3⟩ := h
  exact ⟨h1.same s, ⟨d, h2.same s⟩, h3⟩
section
variable {P : Program} {w : World} {K : PySem.W.Frag} {mg : Str → Option Value} {base : Heap}
theorem ok_total_of {C f fI fGe : Addr} {fd fdGe : FuncData} {a : RAd} {c : RCl} (F : Fun K "total_of" "Rule.total_of" s_Rule_total_of f fd) (g : Bi mg) (Wo : RWo K mg a) (T : CT P w K mg base C fI) (SGe : GDef P w K mg base CX0 2 C "__getitem__" ["self", "word"] (spGet C) fGe fdGe) : FnOk P w K mg base CX0 4 f fd ["self", "counts"] (spTot a c C) := by
  refine F.ok sc_Rule_total_of (fun vs H Q E h => ?_) (fun cdv A outer s H vs Q E hr h => ?_)
  · obtain ⟨_, _, _, _, _, _, rfl, _⟩ := h
    rfl
  · obtain ⟨p, q, l, m, ks, t, rfl, ⟨⟨dx, kt, fs, hp, hkt, f1, f2, f3, f4⟩, ⟨d, hc⟩, hK⟩, k⟩ := h
    have hrGe : Room 3 _ := hr
    have rc := Wo.rc c
    have hl2 := hK.hi
    refine ⟨_, (pss_one (ps_ret (pe_callB (cr_sum rfl) (by rfl) g.sum (by decide +kernel) (pa_cons (pe_lc (own := [("kind", 2)]) (g := gName 2)  (by rfl) sc_Rule_total_of.nd (pi_tup (pe_fld (pv 0) rfl)) (blkOk_by (own := [("kind", 2)]) (N := ["self", "counts", "kind"]) (sc := defScope s_Rule_total_of) (by decide +kernel)) (fun _ _ _ _ _ => (pg_name (i := 2) sc_Rule_total_of.nd rfl (Or.inl rfl))) (fun _ _ _ _ _ => pts_nil) (fun _ _ _ _ _ => (pe_callTy call_int1 (by rfl) g.int (by decide +kernel) (pa_cons (pe_ixO SGe.c SGe.fi SGe.ok hrGe SGe.b pass0 (pv 1) (pv 2)) pa_nil)))) pa_nil)))), ?_⟩
    refine ⟨_, rfl, p, _, dx, fs, _, rfl, hp, rc.cl, rc.nk, f1, kt, rfl, ⟨_, SqT.of hkt⟩, fun D hD => lc_valsT (ys := ks.map fun z => V.int (val t z)) (by rw [List.length_map, List.length_map]) hkt hD (by rw [List.length_map]; omega) (fun _ => rfl) (fun i x y hx hy H' s' Qe qk => ?_) fun H1 s1 hD1 => ?_⟩
    · rw [List.getElem?_map] at hx hy
      cases e : ks[i]? with
      | none => rw [e] at hx; cases hx
      | some z =>
        rw [e] at hx hy
        obtain rfl := Option.some.inj hx
        obtain rfl := Option.some.inj hy
        have hz := hK.kd z (List.mem_of_getElem? e)
        have hc' := hc.same s'
        obtain ⟨dxc, hob⟩ := hc'.ob
        exact ⟨_, rfl, _, rfl, q, dxc, _, rfl, hob, q, d, t, z, rfl, hz.1, hc', fun H2 s2 => .inl ⟨_, rfl, qk H2 s2⟩⟩
    · exact ⟨D, ks.map (val t), rfl, SqL.of (by rw [hD1, List.map_map]; rfl), k H1 s1⟩
structure MTo (P : Program) (w : World) (K : PySem.W.Frag) (mg : Str → Option Value) (base : Heap) (a : RAd) (c : RCl) (C f : Addr) (fd : FuncData) : Prop where
  me : Meth K (a.at c) "total_of" f
  ok : FnOk P w K mg base CX0 4 f fd ["self", "counts"] (spTot a c C)
  b : Binds K fd ["self", "counts"] []
theorem ok_holds0 {C f fTo : Addr} {fd fdTo : FuncData} {a : RAd} {c : RCl} (F : Fun K "holds" "Rule.holds" s_Rule_holds f fd) (g : Bi mg) (Wo : RWo K mg a) (To : MTo P w K mg base a c C fTo fdTo) : FnOk P w K mg base CX0 5 f fd ["self", "counts"] (spH a c C (fun _ => True) g0) := by
  refine F.ok sc_Rule_holds (fun vs H Q E h => ?_) (fun cdv A outer s H vs Q E hr h => ?_)
  · obtain ⟨_, _, _, _, _, _, rfl, _⟩ := h
    rfl
  · obtain ⟨p, q, l, m, ks, t, rfl, hR, _, k⟩ := h
    obtain ⟨⟨dx, kt, fs, hp, hkt, f1, f2, f3, f4⟩, _⟩ := id hR
    have hrTo : Room 4 _ := hr
    have rc := Wo.rc c
    refine ⟨_, (pss_one (ps_ret (pe_cmpR op_le (pe_fld (pv 0) rfl) (pe_meth (pv 0) rc.cl To.me To.ok hrTo To.b .nil pass0 (pa_cons (pv 1) pa_nil)) (nomark _)))), ?_⟩
    exact ⟨_, rfl, p, _, dx, fs, _, rfl, hp, rc.cl, rc.nl, f2, _, rfl, p, dx, fs, rfl, hp, f4 _ (by decide), _, rfl, p, q, l, m, ks, t, rfl, hR, fun H1 s1 => ⟨_, _, rfl, rfl, k H1 s1⟩⟩
theorem ok_holds_al {C f fR D cda cc : Addr} {k : Nat} {kV doc pm ct : Value} {an : Option Addr} {sp : Sp} (Fs : FunS K "holds" "AtLeast.holds" s_AtLeast_holds f cda cc D kV doc pm ct an) (SG : SupG P K mg) (SD : SupD P K cda D)
    (S : Sup K C D "holds" fR) (FR : FnR P w K mg base CX0 k fR sp) : FnR P w K mg base CX0 (k + 1) f (spPass C sp) := by
  refine fn_sup (ps := ["self", "counts"]) Fs sc_AtLeast_holds (fun vs H Q E ⟨_, _, _, _, e, _⟩ => by rw [e]; rfl) (fun us hl => match us, hl with | [_, _], _ => rfl) fun A outer s H vs Q E hr h => ?_
  obtain ⟨p, x, dx, fs, rfl, hp, q⟩ := h
  have TS := supT_mk (CX := CX0) (w := w) (base := base) (N := ["self", "counts", "__class__"]) (A := A) (outer := outer) (s := s) (H := H) (E := E) (ar := "self") Fs SG SD rfl rfl rfl ⟨_, rfl, rfl⟩
  have hrS : Room k _ := hr
  refine ⟨_, (pssa_one (psa_ret (pea_sup (i := 0) TS rfl hrS pass0 (pa_cons (pv 1) pa_nil)))), ?_⟩
  exact ⟨p, sp, ⟨C, dx, fs, fR, rfl, hp, S, FR⟩, _, rfl, q⟩
theorem ok_holds_bt {C f fR D cda cc : Addr} {k : Nat} {kV doc pm ct : Value} {an : Option Addr} {sp : Sp} (Fs : FunS K "holds" "Between.holds" s_Between_holds f cda cc D kV doc pm ct an) (SG : SupG P K mg) (SD : SupD P K cda D)
    (S : Sup K C D "holds" fR) (FR : FnR P w K mg base CX0 k fR sp) : FnR P w K mg base CX0 (k + 1) f (spPass C sp) := by
  refine fn_sup (ps := ["self", "counts"]) Fs sc_Between_holds (fun vs H Q E ⟨_, _, _, _, e, _⟩ => by rw [e]; rfl) (fun us hl => match us, hl with | [_, _], _ => rfl) fun A outer s H vs Q E hr h => ?_
  obtain ⟨p, x, dx, fs, rfl, hp, q⟩ := h
  have TS := supT_mk (CX := CX0) (w := w) (base := base) (N := ["self", "counts", "__class__"]) (A := A) (outer := outer) (s := s) (H := H) (E := E) (ar := "self") Fs SG SD rfl rfl rfl ⟨_, rfl, rfl⟩
  have hrS : Room k _ := hr
  refine ⟨_, (pssa_one (psa_ret (pea_sup (i := 0) TS rfl hrS pass0 (pa_cons (pv 1) pa_nil)))), ?_⟩
  exact ⟨p, sp, ⟨C, dx, fs, fR, rfl, hp, S, FR⟩, _, rfl, q⟩
theorem ok_holds_ex {C f fR D cda cc : Addr} {k : Nat} {kV doc pm ct : Value} {an : Option Addr} {sp : Sp} (Fs : FunS K "holds" "Exactly.holds" s_Exactly_holds f cda cc D kV doc pm ct an) (SG : SupG P K mg) (SD : SupD P K cda D)
    (S : Sup K C D "holds" fR) (FR : FnR P w K mg base CX0 k fR sp) : FnR P w K mg base CX0 (k + 1) f (spPass C sp) := by
  refine fn_sup (ps := ["self", "counts"]) Fs sc_Exactly_holds (fun vs H Q E ⟨_, _, _, _, e, _⟩ => by rw [e]; rfl) (fun us hl => match us, hl with | [_, _], _ => rfl) fun A outer s H vs Q E hr h => ?_
  obtain ⟨p, x, dx, fs, rfl, hp, q⟩ := h
  have TS := supT_mk (CX := CX0) (w := w) (base := base) (N := ["self", "counts", "__class__"]) (A := A) (outer := outer) (s := s) (H := H) (E := E) (ar := "self") Fs SG SD rfl rfl rfl ⟨_, rfl, rfl⟩
  have hrS : Room k _ := hr
  refine ⟨_, (pssa_one (psa_ret (pea_sup (i := 0) TS rfl hrS pass0 (pa_cons (pv 1) pa_nil)))), ?_⟩
  exact ⟨p, sp, ⟨C, dx, fs, fR, rfl, hp, S, FR⟩, _, rfl, q⟩
theorem ok_holds_am {C f fR fTo D cda cc : Addr} {fdTo : FuncData} {kV doc pm ct : Value} {an : Option Addr} {a : RAd} {c : RCl} (Wo : RWo K mg a) (To : MTo P w K mg base a c C fTo fdTo) (Fs : FunS K "holds" "AtMost.holds" s_AtMost_holds f cda cc D kV doc pm ct an) (SG : SupG P K mg) (SD : SupD P K cda D)
    (S : Sup K (a.at c) D "holds" fR) (FR : FnR P w K mg base CX0 5 fR (spH a c C (fun _ => True) g0)) : FnR P w K mg base CX0 6 f (spH a c C PS1 g1) := by
  refine fn_sup (ps := ["self", "counts"]) Fs sc_AtMost_holds (fun vs H Q E ⟨_, _, _, _, _, _, e, _⟩ => by rw [e]; rfl) (fun us hl => match us, hl with | [_, _], _ => rfl) fun A outer s H vs Q E hr h => ?_
  obtain ⟨p, q, l, m, ks, t, rfl, hR, ⟨n, rfl⟩, k⟩ := h
  obtain ⟨⟨dx, kt, fs, hp, hkt, f1, f2, f3, f4⟩, _⟩ := id hR
  have TS := supT_mk (CX := CX0) (w := w) (base := base) (N := ["self", "counts", "__class__"]) (A := A) (outer := outer) (s := s) (H := H) (E := E) (ar := "self") Fs SG SD rfl rfl rfl ⟨_, rfl, rfl⟩
  have hrS : Room 5 _ := hr
  have hrTo : Room 4 _ := hr.mono (by decide)
  have rc := Wo.rc c
  refine ⟨_, (pssa_one (psa_ret (pea_and (pe_cmpR op_le (pe_meth (pv 0) rc.cl To.me To.ok hrTo To.b .nil pass0 (pa_cons (pv 1) pa_nil)) (pe_fld (pv 0) rfl) (nomark _)) (pea_sup (i := 0) TS rfl hrS pass0 (pa_cons (pv 1) pa_nil))))), ?_⟩
  refine ⟨_, rfl, p, dx, fs, rfl, hp, f4 _ (by decide), _, rfl, p, q, l, some n, ks, t, rfl, hR, fun H1 s1 => ?_⟩
  refine ⟨_, rfl, p, _, dx, fs, _, rfl, s1 _ _ hp, rc.cl, rc.nm, f3, _, _, rfl, rfl, _, rfl, ?_⟩
  have k' : ∀ H', Same H H' → Q (.bl (decide (tot t ks ≤ n) && decide (l ≤ tot t ks))) H' := k
  by_cases e : tot t ks ≤ n
  · rw [decide_eq_true e] at k' ⊢
    refine iteT ⟨p, spH a c C (fun _ => True) g0, ⟨a.at c, dx, fs, fR, rfl, s1 _ _ hp, S, FR⟩, _, rfl, p, q, l, some n, ks, t, rfl, hR.same s1, trivial, fun H2 s2 => ?_⟩
    exact k' H2 (s1.trans s2)
  · rw [decide_eq_false e] at k' ⊢
    exact iteF (k' H1 s1)
end
end Cs

set_option Elab.async false
set_option linter.all false
set_option maxRecDepth 100000
set_option maxHeartbeats 4000000
/-! def f(self, *v, k): made by C(*y, k=e) and C(e, .., k=e). -/
namespace Cs
open PySem PySem.Spec PyProof.Rows L2
/-- a promise by positional values and one keyword, told ahead of them -/
def FnL (P : Program) (w : World) (K : PySem.W.Frag) (mg : Str → Option Value) (base : Heap) (CX : CXT) (k : Nat) (f : Addr) (nm : Str) (sp : Sp) : Prop :=
  ∀ (A : Around) (outer : List Env) (s : Shared) (H : Hp) (us : List Value) (vs : List V) (u : Value) (v : V) (Q : VK) (E : XK), Room k A → Env0 P w K mg base A outer s H → Vals vs us → RelV v u → sp (v :: vs) H Q E →
    codeAny (model P w) A (.call (.ref f) ⟨us, [(nm, u)]⟩) (CR CX outer P w H s Q E) s
theorem FnL.imp {P : Program} {w : World} {K : PySem.W.Frag} {mg : Str → Option Value} {base : Heap} {CX : CXT} {k : Nat} {f : Addr} {nm : Str} {sp sp' : Sp} (F : FnL P w K mg base CX k f nm sp) (h : ∀ vs H Q E, sp' vs H Q E → sp vs H Q E) : FnL P w K mg base CX k f nm sp' :=
  fun A outer s H us vs u v Q E hr e0 r ru hs => F A outer s H us vs u v Q E hr e0 r ru (h _ _ _ _ hs)
section
variable {CX : CXT} {P : Program} {w : World} {K : PySem.W.Frag} {mg : Str → Option Value} {base : Heap} {k : Nat} {f : Addr} {name qual : Str} {params : Arguments} {body : List Stmt} {scope : Scope} {dV kV doc pm cdv ct oc : Value} {an od : Option Addr}
  {osl : Array (Option Value)} {N ps : List Str} {sp : Sp}
theorem fn_kwstar {pv nm : Str} (lk : K.lookup f = some ⟨oc, od, .func (PySem.W.fnOf name qual params body scope dV kV doc pm an cdv ct), osl⟩) (hcd : PySem.W.codeIn K cdv qual = true) (S : FnScope N (ps ++ [nm, pv]) scope) (hCX : StX.CXUp CX)
    (hb : ∀ (us rest : List Value) (u : Value), us.length = ps.length → bindArgs (PySem.W.fnOf name qual params body scope dV kV doc pm an cdv ct) ⟨us ++ rest, [(nm, u)]⟩ = (newTuple rest >>= fun t => pure (ps.zip us ++ [(nm, u), (pv, t)])))
    (hbody : ∀ (A : Around) (outer : List Env) (s : Shared) (H : Hp) (vs : List V) (Q : VK) (E : XK), Room k (A.deeper (envOfC qual scope s.heap.objs.size f cdv)) → sp vs H Q E →
      ∃ t, PSs (cxOf CX P w K mg base N qual scope f cdv A outer s H E) body t ∧ t { nx := fun _ H' => Q .non H', rt := Q } (start N vs) H) :
    FnL P w K mg base CX (k + 1) f nm (fun vs H Q E => ∃ l ws rest, vs = l :: (ws ++ rest) ∧ ws.length = ps.length ∧ rest.length ≤ sizeLine ∧ ∀ p, H p = Option.none → sp (ws ++ [l, V.ref p]) (upd H p (.tup rest)) Q E) := by
  intro A outer s H us vs u v Q E hr e0 r ru hsp
  obtain ⟨l, ws, rest, ev, hl, hz, hq⟩ := hsp
  obtain ⟨rfl, rfl⟩ := List.cons.inj ev
  obtain ⟨u1, u2, eu, r1, r2⟩ := StX.vals_split r
  subst eu
  have free : H s.heap.objs.size = Option.none := e0.hok.fresh (Nat.le_refl _)
  have n1 : u1.length = ps.length := by rw [← r1.length]; exact hl
  have n2 : u2.length ≤ sizeLine := by rw [← r2.length]; exact hz
  refine StX.run_bnd lk hcd S hr e0 (G := fun xs H2 => ∃ p, H p = Option.none ∧ xs = ws ++ [v, V.ref p] ∧ H2 = upd H p (.tup rest)) (fun A' Ex Q' h => ?_) fun s2 H2 xs ⟨p, hp, ex, eH⟩ hr' => ?_
  · rw [hb u1 u2 u n1]
    refine wpAny_bind (wpAny_newTuple (wpAny_pure ?_) n2)
    have laid : ObjOk P w (upd H s.heap.objs.size (.tup rest)) (s.heap.push ({ cls := .type "tuple", data := .seq u2.toArray } : Obj)) s.heap.objs.size (.tup rest) := ⟨hz, u2, r2, ⟨_, Heap.get?_push_size _ rfl, rfl, _, rfl⟩⟩
    have un := StX.un_laid (fs := frs outer) (s := s) (o := ({ cls := .type "tuple", data := .seq u2.toArray } : Obj)) (u := .tup rest) free
    have z := h _ _ (ws ++ [v, V.ref s.heap.objs.size]) (u1 ++ [u, Value.ref s.heap.objs.size]) (StX.env0_laid e0 laid) un rfl (fun e s' => hCX outer s H _ _ E e s' un (fun b o q => Heap.get?_push_of_some _ q) rfl) (r1.append (.cons ru (.cons rfl .nil)))
      (by rw [List.length_append, List.length_append, hl] <;> rfl) ⟨_, free, rfl, rfl⟩
    rw [List.zip_append n1.symm] at z
    exact z
  · subst ex eH
    exact hbody A outer s2 _ _ Q E hr' (hq p hp)
end
section
variable {X : Cx} {CX : CXT} {k i : Nat} {f C : Addr} {nm : Str} {sp : Sp} {E : XK} {x : Str} {e e2 : Expr} {es : List Expr} {te te2 : TE} {t : TA} {p p2 pos sp_ kp : Pos}
theorem run_makeL {pins : List (Addr × Obj)} {σ : L2.St} {H : Hp} {s : Shared} {Q : VK} {us : List Value} {vs : List V} {u : Value} {v : V} (M : Mk X.K C f) (F : FnL X.prog X.w X.K X.mg X.base CX k f nm sp) (hr : Room (k + 1) X.A) (hx : Passes CX X E) (I : Inv X pins σ H s) (r : Vals vs us) (ru : RelV v u)
    (h : ∀ x dx, H x = Option.none → H dx = Option.none → dx ≠ x → sp (v :: V.ref x :: vs) (upd (upd H dx (.own x)) x (.ins C dx [])) (fun v H2 => v = .non ∧ Q (.ref x) H2) E) :
    wpAny (model X.prog X.w) X.A (call (.ref C) us [(nm, u)]) (EP X pins σ Q) X.xe s := by
  have hq := h (s.heap.objs.size + 1) s.heap.objs.size (I.hok.fresh (Nat.le_succ _)) (I.hok.fresh (Nat.le_refl _)) (Nat.ne_of_lt (Nat.lt_succ_self _))
  have J := Inv.made (C := C) I
  refine wpAny_call (make_map (f := f) I.kIn M.makes M.init (beq_iff_eq.mp M.fn) (codeAny_mono (F _ X.stack _ _ (Value.ref (s.heap.objs.size + 1) :: us) (V.ref (s.heap.objs.size + 1) :: vs) u v _ E (hr.make C us [(nm, u)]) (J.env0.make C us [(nm, u)]) (.cons rfl r) ru hq) fun r s' hq' => ?_))
  cases r with
  | error e => exact hx pins σ _ _ e s' J hq'
  | ok fl =>
    cases fl with
    | ret u =>
      obtain ⟨v, H', I3, rv, ev, q3⟩ := J.after hq'
      subst ev
      exact ⟨rv, ⟨V.ref (s.heap.objs.size + 1), H', I3, rfl, q3⟩⟩
    | next => exact False.elim hq'
    | brk => exact False.elim hq'
    | cont => exact False.elim hq'
/-- the arguments of c(*y, k=e) -/
theorem args_starkw {M : Model} {A : Around} {E : Value → Shared → Prop} {s : Shared} {g : Value} {y : Sem Value} {pos : Pos} {kws : List (Option Str × Sem Value)} {Q : Args → Shared → Prop} (hall : kws.all (·.1.isSome) = true)
    (h : wpAny M A y (fun v s₁ => wpAny M A (evalAll (kws.map (·.2))) (fun ks s₂ => PySem.W.StarOf M A E v (fun vs s₃ => Q ⟨vs, (kws.filterMap (·.1)).zip ks⟩ s₃) s₂) E s₁) E s) :
    wpAny M A (evalArgs g true [(true, (do let v ← y; standAt pos; pure v))] kws) Q E s := by
  unfold evalArgs
  refine wpAny_bind (wpAny_bind (wpAny_mono h (fun v s₁ h₁ => wpAny_bind (wpAny_standAt (wpAny_pure (wpAny_bind (wpAny_pure (wpAny_holding ?_)))))) fun _ _ z => z))
  simp only [hall, if_true]
  refine wpAny_bind (wpAny_mono h₁ (fun ks s₂ h₂ => ?_) fun _ _ z => z)
  unfold PySem.W.StarOf at h₂
  refine wpAny_bind (wpAny_bind (wpAny_mono h₂ (fun b s₃ h₃ => ?_) fun _ _ z => z))
  obtain ⟨rfl, h₃⟩ := h₃
  simp only [Bool.false_eq_true, if_false]
  exact wpAny_holding (wpAny_mono h₃ (fun vs s₄ h₄ => wpAny_pure h₄) fun _ _ z => z)
theorem call_star_kw {M : Model} {A : Around} {E : Value → Shared → Prop} {s : Shared} {K : PySem.W.Frag} {g : Value} {y : Sem Value} {pos : Pos} {kws : List (Option Str × Sem Value)} {Q : Value → Shared → Prop} (hk : PySem.W.keepIn K g = true) (hall : kws.all (·.1.isSome) = true)
    (h : wpAny M A y (fun v s₁ => wpAny M A (evalAll (kws.map (·.2))) (fun ks s₂ => PySem.W.StarOf M A E v (fun vs s₃ => K.In s₃.heap ∧ wpAny M A (call g vs ((kws.filterMap (·.1)).zip ks)) Q E s₃) s₂) E s₁) E s) :
    wpAny M A (callWith pos g [] [(true, (do let v ← y; standAt pos; pure v))] kws) Q E s := by
  unfold callWith
  refine wpAny_bind (wpAny_holding (wpAny_mono (args_starkw (Q := fun a s₁ => K.In s₁.heap ∧ wpAny M A (call g a.pos a.kw) Q E s₁) hall h) (fun a s₁ h₁ => wpAny_bind (wpAny_standAt ?_)) fun _ _ z => z))
  obtain ⟨kk, hk', L⟩ := PySem.W.keeps_K hk _ h₁.1
  refine wpAny_bind (L.here ?_)
  have tail : ∀ {t : Sem Value}, wpAny M A t Q E s₁ → wpAny M A (t >>= fun r => holding [r] point >>= fun _ => pure r) Q E s₁ :=
    fun ht => wpAny_bind (wpAny_mono ht (fun r s₂ hr => wpAny_bind (wpAny_holding (wpAny_point (wpAny_pure hr)))) fun _ _ z => z)
  have marked (mk : Value) : wpAny M A (callMarked mk g ([] ++ a.pos) a.kw) Q E s₁ := by
    unfold callMarked
    exact Calls.wpAny_keep h₁.2
  rcases hk' with rfl | rfl | rfl
  · exact tail (marked _)
  · exact tail (wpAny_operating h₁.2)
  · exact tail (wpAny_operating h₁.2)
/-- c(*y, k=e), c a local name that holds the class -/
def tMkL (K : PySem.W.Frag) (C : Addr) (sp : Sp) (E : XK) (te te2 : TE) : TE := fun σ H Q => te σ H fun y H1 => te2 σ H1 fun v H2 => ∃ a xs, y = V.ref a ∧ (SqT K H2 a xs ∨ SqL K H2 a xs) ∧ ∀ x dx, H2 x = none → H2 dx = none → dx ≠ x →
  sp (v :: V.ref x :: xs) (upd (upd H2 dx (.own x)) x (.ins C dx [])) (fun v H3 => v = .non ∧ Q (.ref x) H3) E
theorem pe_mkSLk (M : Mk X.K C f) (F : FnL X.prog X.w X.K X.mg X.base CX k f nm sp) (hr : Room (k + 1) X.A) (hN : X.N[i]? = some x) (hv : Vis X.env.scope x) (hx : Passes CX X E) (he : PE X e te) (he2 : PE X e2 te2) (hdb : (x == ("__debug__" : Str)) = false := by decide)
    (hcd : (x == ("__classdict__" : Str)) = false := by decide) (hst : starEach [.Starred e sp_] X.env = [(true, eval e X.env)] := by rfl) (hks : (backToKw pos (keywordEach [⟨some nm, e2, kp⟩] X.env)).filterMap (·.1) = [nm] := by rfl) (hall : (backToKw pos (keywordEach [⟨some nm, e2, kp⟩] X.env)).all (·.1.isSome) = true := by rfl) :
    PE X (.Call (.Name x p) [.Starred e sp_] [⟨some nm, e2, kp⟩] pos) (fun σ H Q => σ[i]? = some (some (.ref C)) ∧ tMkL X.K C sp E te te2 σ H Q) := by
  refine ⟨fun pins s σ H Q I h => ?_⟩
  obtain ⟨hs, h⟩ := h
  refine wpAny_Call_Name_kw (thn ((pe_var (pos := p) hN hv hdb hcd).run pins s σ H (fun v H1 => v = .ref C ∧ H1 = H) I ⟨.ref C, hs, rfl, rfl⟩) fun u s0 ⟨v, H0, I0, r0, q0⟩ => ?_)
  obtain ⟨rfl, rfl⟩ := q0
  cases r0
  rw [hst]
  refine call_star_kw (K := X.K) M.kp hall (thn (he.run pins s0 σ _ _ I0 h) fun v s1 ⟨y, H1, I1, ry, h1⟩ => ?_)
  refine thn ((pk_cons (kpos := kp) (nm := some nm) he2 pk_nil).run pos pins s1 σ H1 (fun zs H2 => match zs with
    | [z] => ∃ a xs, y = V.ref a ∧ (SqT X.K H2 a xs ∨ SqL X.K H2 a xs) ∧ ∀ x dx, H2 x = none → H2 dx = none → dx ≠ x → sp (z :: V.ref x :: xs) (upd (upd H2 dx (.own x)) x (.ins C dx [])) (fun v H3 => v = .non ∧ Q (.ref x) H3) E
    | _ => False) I1 h1) fun ws s2 ⟨zs, H2, I2, rz, q⟩ => ?_
  match zs, q, rz with
  | [z], ⟨a, xs, ey, hxs, q3⟩, .cons ru .nil =>
    subst ey
    obtain rfl : v = Value.ref a := ry
    rw [hks]
    exact StX.star_any I2 hxs fun us s3 I3 rv => ⟨I3.kIn, run_makeL M F hr hx I3 rv ru q3⟩
/-- C(e, .., k=e), C a class of the module -/
def tMkC1k (C : Addr) (sp : Sp) (E : XK) (t : TA) (te2 : TE) : TE := fun σ H Q => t σ H fun vs H1 => te2 σ H1 fun v H2 => ∀ x dx, H2 x = none → H2 dx = none → dx ≠ x →
  sp (v :: V.ref x :: vs) (upd (upd H2 dx (.own x)) x (.ins C dx [])) (fun v H3 => v = .non ∧ Q (.ref x) H3) E
theorem pe_mkC1k (M : Mk X.K C f) (F : FnL X.prog X.w X.K X.mg X.base CX k f nm sp) (hr : Room (k + 1) X.A) (hg : Gl X x) (hm : X.mg x = some (.ref C)) (hx : Passes CX X E) (ha : PA X (e :: es) t) (he2 : PE X e2 te2)
    (hall : (backToKw pos (keywordEach [⟨some nm, e2, kp⟩] X.env)).all (·.1.isSome) = true := by rfl) (hks : (backToKw pos (keywordEach [⟨some nm, e2, kp⟩] X.env)).filterMap (·.1) = [nm] := by rfl) (hdb : (x == ("__debug__" : Str)) = false := by decide)
    (he : starEach (e :: es) X.env = (false, eval e X.env) :: starEach es X.env := by rfl) (hpl : ((backTo pos (starEach (e :: es) X.env)).any (·.1) || (backToKw pos (keywordEach [⟨some nm, e2, kp⟩] X.env)).any (·.1.isNone)) = false := by rfl) :
    PE X (.Call (.Name x p) (e :: es) [⟨some nm, e2, kp⟩] pos) (tMkC1k C sp E t te2) := by
  refine ⟨fun pins s σ H Q I h => ?_⟩
  refine wpAny_Call_Name_kw (ld_glob I hg hm ?_ hdb)
  refine PySem.W.callWith_KW (h₀ := X.base) I.ok.mod.kin M.kp hall (thn (ha.run pos pins s σ H _ I h) fun us s1 ⟨vs, H1, I1, r, h1⟩ => ?_) hpl he
  refine thn ((pk_cons (kpos := kp) (nm := some nm) he2 pk_nil).run pos pins s1 σ H1 (fun zs H2 => match zs with
    | [z] => ∀ x dx, H2 x = none → H2 dx = none → dx ≠ x → sp (z :: V.ref x :: vs) (upd (upd H2 dx (.own x)) x (.ins C dx [])) (fun v H3 => v = .non ∧ Q (.ref x) H3) E
    | _ => False) I1 h1) fun ws s2 ⟨zs, H2, I2, rz, q⟩ => ?_
  match zs, q, rz with
  | [z], q3, .cons ru .nil =>
    rw [hks]
    exact ⟨I2.kIn, run_makeL M F hr hx I2 r ru q3⟩
end
end Cs

set_option Elab.async false
set_option linter.all false
set_option maxRecDepth 100000
set_option maxHeartbeats 4000000
/-! zip of a list and a tuple. -/
namespace Cs
open PySem PySem.Spec PyProof.Rows L2
section
variable {prog : Program} {w : World} {A : Around} {E : Value → Shared → Prop} {s : Shared} {z TI TO i1 i2 l1 l2 : Addr} {k1 k2 : Nat} {xs ys : Array Value} {x y a b : Value}
/-- all but the zip's own four objects stays -/
def ZKeep (z TO i1 i2 : Addr) (h h' : Heap) : Prop := ∀ c o, c ≠ z → c ≠ TO → c ≠ i1 → c ≠ i2 → h.get? c = some o → h'.get? c = some o
theorem zm_item {Q : Value → Shared → Prop} (D : ZipApart z TI TO i1 i2 l1 l2) (hz : IsZip s.heap z TI TO .none) (hTI : IsPair s.heap TI (.ref i1) (.ref i2)) (hTO : IsPair s.heap TO a b) (h1 : s.heap.IsListIter i1 l1 k1) (h2 : s.heap.IsTupleIter i2 l2 k2)
    (hl1 : s.heap.IsList l1 xs) (hl2 : s.heap.IsTuple l2 ys) (hx : xs[k1]? = some x) (hy : ys[k2]? = some y)
    (hQ : ∀ h', IsZip h' z TI TO (rawInt s.heap.objs.size) → IsPair h' TO x y → h'.IsListIter i1 l1 (k1 + 1) → h'.IsTupleIter i2 l2 (k2 + 1) → IsPair h' s.heap.objs.size x y → h'.objs.size = s.heap.objs.size + 1 → ZKeep z TO i1 i2 s.heap h' → Q (.ref s.heap.objs.size) { s with heap := h' }) :
    wpAny (model prog w) A (Builtin.«zip.__next__» ⟨[.ref z], []⟩) (fun fin s' => ∃ v, fin = .done (.ret v) ∧ Q v s') E s := by
  show wpAny _ _ (field (.ref z) 2 >>= _) _ _ _; refine wpAny_bind (wpAny_field hz rfl (x := .bool false) rfl ?_)
  show wpAny _ _ (field (.ref z) 3 >>= _) _ _ _; refine wpAny_bind (wpAny_field hz rfl (x := .ref TI) rfl (wpAny_bind (wpAny_seqItems hTI rfl ?_)))
  show wpAny _ _ (Builtin.SmallTypes.ownedTupleIsFree (.ref z) >>= _) _ _ _; refine wpAny_bind ?_; unfold Builtin.SmallTypes.ownedTupleIsFree
  refine wpAny_bind (wpAny_field hz rfl (x := .none) rfl (wpAny_pure ?_)); simp only [if_true]
  refine wpAny_bind (wpAny_rule (wpAny_bind (wpAny_field hz rfl (x := .ref TO) rfl (wpAny_bind (wpAny_setField_rec hz (by simp) fun g1 z1 b1 => ?_)))))
  replace z1 : IsZip g1 z TI TO .ellipsis := z1; refine wpAny_bind ?_; simp only [List.zipIdx_cons, List.zipIdx_nil, List.forIn_cons, List.forIn_nil]
  refine wpAny_bind (wpAny_bind (wpAny_onRaise ?_)); show wpAny _ _ (Builtin.SmallTypes.nextOf (.ref i1) >>= _) _ _ _
  refine wpAny_bind (wpAny_nextOf_list_item (s := { s with heap := g1 }) (h1.extBut b1.extBut D.i1z) (hl1.extBut b1.extBut D.l1z) hx fun g2 j2 b2 => wpAny_pure ?_)
  have p2 : IsPair g2 TO a b := b2.extBut _ _ D.TOi1 (b1.extBut _ _ D.TOz hTO)
  refine wpAny_bind (wpAny_seqItems p2 rfl (wpAny_bind (wpAny_updateSeq_pair p2 fun g3 p3 b3 => wpAny_bind (wpAny_letGo (wpAny_pure ?_)))))
  replace p3 : IsPair g3 TO x b := p3; refine wpAny_bind (wpAny_bind (wpAny_onRaise ?_)); show wpAny _ _ (Builtin.SmallTypes.nextOf (.ref i2) >>= _) _ _ _
  refine wpAny_bind (RZ.nextOf_tuple_item (((h2.extBut b1.extBut D.i2z).extBut b2.extBut D.i12.symm).extBut b3.extBut D.TOi2.symm) (((hl2.extBut b1.extBut D.l2z).extBut b2.extBut D.l2i1).extBut b3.extBut D.l2TO) hy fun g4 j4 b4 => wpAny_pure ?_)
  have p4 : IsPair g4 TO x b := b4.extBut _ _ D.TOi2 p3
  refine wpAny_bind (wpAny_seqItems p4 rfl (wpAny_bind (wpAny_updateSeq_pair p4 fun g5 p5 b5 => wpAny_bind (wpAny_letGo (wpAny_pure (wpAny_pure ?_))))))
  replace p5 : IsPair g5 TO x y := p5; refine wpAny_bind (wpAny_seqItems p5 rfl (wpAny_bind (wpAny_newTuple ?_)))
  have sz : g5.objs.size = s.heap.objs.size := by rw [b5.1, b4.1, b3.1, b2.1, b1.1]
  have z5 : IsZip g5 z TI TO .ellipsis := b5.extBut _ _ D.TOz.symm (b4.extBut _ _ D.i2z.symm (b3.extBut _ _ D.TOz.symm (b2.extBut _ _ D.i1z.symm z1)))
  have kp : ZKeep z TO i1 i2 s.heap g5 := fun c o c1 c2 c3 c4 e => b5.extBut _ _ c2 (b4.extBut _ _ c4 (b3.extBut _ _ c2 (b2.extBut _ _ c3 (b1.extBut _ _ c1 e))))
  have q1 : g5.IsListIter i1 l1 (k1 + 1) := ((j2.extBut b3.extBut D.TOi1.symm).extBut b4.extBut D.i12).extBut b5.extBut D.TOi1.symm
  have q2 : g5.IsTupleIter i2 l2 (k2 + 1) := j4.extBut b5.extBut D.TOi2.symm
  have zlt : z < g5.objs.size := Heap.lt_size z5
  show wpAny _ _ (Builtin.SmallTypes.ownedTupleHandOut (.ref z) (.ref g5.objs.size) >>= _) _ _ _; refine wpAny_bind ?_; unfold Builtin.SmallTypes.ownedTupleHandOut
  have z6 : IsZip (g5.push { cls := .type "tuple", data := .seq #[x, y] }) z TI TO .ellipsis := Heap.get?_push_of_some _ z5
  refine wpAny_bind (wpAny_setField_rec z6 (by simp) fun g7 z7 b7 => ?_); replace z7 : IsZip g7 z TI TO (rawInt g5.objs.size) := z7
  refine wpAny_setField_rec z7 (by simp) fun g8 z8 b8 => ?_; replace z8 : IsZip g8 z TI TO (rawInt g5.objs.size) := z8
  have up : ∀ c o, c ≠ z → g5.get? c = some o → g8.get? c = some o := fun c o c1 e => b8.extBut _ _ c1 (b7.extBut _ _ c1 (Heap.get?_push_of_some _ e))
  have t8 : IsPair g8 g5.objs.size x y := b8.extBut _ _ (Nat.ne_of_gt zlt) (b7.extBut _ _ (Nat.ne_of_gt zlt) (Heap.get?_push_size _ rfl))
  have n8 : g8.objs.size = g5.objs.size + 1 := by rw [b8.1, b7.1, Heap.size_push]
  rw [sz] at z8 t8 n8; refine wpAny_pure ⟨_, rfl, ?_⟩; show Q (.ref g5.objs.size) _; rw [sz]
  exact hQ g8 z8 (up _ _ D.TOz p5) (q1.at fun o e => up _ o D.i1z e) (q2.at fun o e => up _ o D.i2z e) t8 n8 fun c o c1 c2 c3 c4 e => up c o c1 (kp c o c1 c2 c3 c4 e)
theorem zm_end {Q : Fin → Shared → Prop} (hh : A.handled = none) (D : ZipApart z TI TO i1 i2 l1 l2) (hz : IsZip s.heap z TI TO .none) (hTI : IsPair s.heap TI (.ref i1) (.ref i2)) (hTO : IsPair s.heap TO a b) (h1 : s.heap.IsListIter i1 l1 k1) (h2 : s.heap.IsTupleIter i2 l2 k2)
    (hl1 : s.heap.IsList l1 xs) (hl2 : s.heap.IsTuple l2 ys) (hend : xs[k1]? = none ∨ ys[k2]? = none)
    (hE : ∀ h' e, ZKeep z TO i1 i2 s.heap h' → (∃ o, h'.get? e = some o ∧ o.cls = .type "StopIteration") → E (.ref e) { s with heap := h' }) : wpAny (model prog w) A (Builtin.«zip.__next__» ⟨[.ref z], []⟩) Q E s := by
  show wpAny _ _ (field (.ref z) 2 >>= _) _ _ _; refine wpAny_bind (wpAny_field hz rfl (x := .bool false) rfl ?_)
  show wpAny _ _ (field (.ref z) 3 >>= _) _ _ _; refine wpAny_bind (wpAny_field hz rfl (x := .ref TI) rfl (wpAny_bind (wpAny_seqItems hTI rfl ?_)))
  show wpAny _ _ (Builtin.SmallTypes.ownedTupleIsFree (.ref z) >>= _) _ _ _; refine wpAny_bind ?_; unfold Builtin.SmallTypes.ownedTupleIsFree
  refine wpAny_bind (wpAny_field hz rfl (x := .none) rfl (wpAny_pure ?_)); simp only [if_true]
  refine wpAny_bind (wpAny_rule (wpAny_bind (wpAny_field hz rfl (x := .ref TO) rfl (wpAny_bind (wpAny_setField_rec hz (by simp) fun g1 z1 b1 => ?_)))))
  replace z1 : IsZip g1 z TI TO .ellipsis := z1; refine wpAny_bind ?_; simp only [List.zipIdx_cons, List.zipIdx_nil, List.forIn_cons, List.forIn_nil]
  refine wpAny_bind (wpAny_bind (wpAny_onRaise ?_)); show wpAny _ _ (Builtin.SmallTypes.nextOf (.ref i1) >>= _) _ _ _
  cases hx : xs[k1]? with
  | none =>
    refine wpAny_bind (wpAny_nextOf_list_end (s := { s with heap := g1 }) hh (h1.extBut b1.extBut D.i1z) (hl1.extBut b1.extBut D.l1z) hx fun g2 e b2 he => ?_)
    obtain ⟨oe, hoe, hce⟩ := he
    have z2 : IsZip g2 z TI TO .ellipsis := b2 _ _ D.i1z.symm z1
    have ne : e ≠ z := fun q => by subst q; rw [z2] at hoe; cases hoe; simp at hce
    exact wpAny_setField_rec z2 (by simp) fun g3 _ b3 => hE g3 e (fun c o c1 _ c3 _ q => b3.extBut _ _ c1 (b2 _ _ c3 (b1.extBut _ _ c1 q))) ⟨oe, b3.extBut _ _ ne hoe, hce⟩
  | some x =>
    have hy : ys[k2]? = none := by rcases hend with q | q; rw [hx] at q; cases q; exact q
    refine wpAny_bind (wpAny_nextOf_list_item (s := { s with heap := g1 }) (h1.extBut b1.extBut D.i1z) (hl1.extBut b1.extBut D.l1z) hx fun g2 j2 b2 => wpAny_pure ?_)
    have p2 : IsPair g2 TO a b := b2.extBut _ _ D.TOi1 (b1.extBut _ _ D.TOz hTO)
    refine wpAny_bind (wpAny_seqItems p2 rfl (wpAny_bind (wpAny_updateSeq_pair p2 fun g3 p3 b3 => wpAny_bind (wpAny_letGo (wpAny_pure ?_)))))
    refine wpAny_bind (wpAny_bind (wpAny_onRaise ?_)); show wpAny _ _ (Builtin.SmallTypes.nextOf (.ref i2) >>= _) _ _ _
    refine wpAny_bind (RZ.nextOf_tuple_end hh (((h2.extBut b1.extBut D.i2z).extBut b2.extBut D.i12.symm).extBut b3.extBut D.TOi2.symm) (((hl2.extBut b1.extBut D.l2z).extBut b2.extBut D.l2i1).extBut b3.extBut D.l2TO) hy fun g4 e b4 he => ?_)
    obtain ⟨oe, hoe, hce⟩ := he
    have z4 : IsZip g4 z TI TO .ellipsis := b4 _ _ D.i2z.symm (b3.extBut _ _ D.TOz.symm (b2.extBut _ _ D.i1z.symm z1))
    have ne : e ≠ z := fun q => by subst q; rw [z4] at hoe; cases hoe; simp at hce
    exact wpAny_setField_rec z4 (by simp) fun g5 _ b5 => hE g5 e (fun c o c1 c2 c3 c4 q => b5.extBut _ _ c1 (b4 _ _ c4 (b3.extBut _ _ c2 (b2.extBut _ _ c3 (b1.extBut _ _ c1 q))))) ⟨oe, b5.extBut _ _ ne hoe, hce⟩
theorem zm_next {Q : Option Value → Shared → Prop} (D : ZipApart z TI TO i1 i2 l1 l2) (hz : IsZip s.heap z TI TO .none) (hTI : IsPair s.heap TI (.ref i1) (.ref i2)) (hTO : IsPair s.heap TO a b) (h1 : s.heap.IsListIter i1 l1 k1) (h2 : s.heap.IsTupleIter i2 l2 k2)
    (hl1 : s.heap.IsList l1 xs) (hl2 : s.heap.IsTuple l2 ys) (hx : xs[k1]? = some x) (hy : ys[k2]? = some y)
    (hQ : ∀ h', IsZip h' z TI TO (rawInt s.heap.objs.size) → IsPair h' TO x y → h'.IsListIter i1 l1 (k1 + 1) → h'.IsTupleIter i2 l2 (k2 + 1) → IsPair h' s.heap.objs.size x y → h'.objs.size = s.heap.objs.size + 1 → ZKeep z TO i1 i2 s.heap h' → Q (some (.ref s.heap.objs.size)) { s with heap := h' }) : wpAny (model prog w) A (pyNext (.ref z)) Q E s := by
  have T : s.TypeIs (.ref z) "zip" := ⟨_, hz, rfl⟩
  unfold pyNext; exact wpAny_bind (wpAny_attempt (wpAny_callSpecial?_slot (name := Str.ofString "__next__") T F.slot_zip_next (wpAny_call_entry F.slot_zip_next T F.entry_zip_next (zm_item D hz hTI hTO h1 h2 hl1 hl2 hx hy fun h' a1 a2 a3 a4 a5 a6 a7 => wpAny_pure (hQ h' a1 a2 a3 a4 a5 a6 a7)) (F.args_zip_next_1 _))))
theorem zm_stop {Q : Option Value → Shared → Prop} (hh : A.handled = none) (D : ZipApart z TI TO i1 i2 l1 l2) (hz : IsZip s.heap z TI TO .none) (hTI : IsPair s.heap TI (.ref i1) (.ref i2)) (hTO : IsPair s.heap TO a b) (h1 : s.heap.IsListIter i1 l1 k1) (h2 : s.heap.IsTupleIter i2 l2 k2)
    (hl1 : s.heap.IsList l1 xs) (hl2 : s.heap.IsTuple l2 ys) (hend : xs[k1]? = none ∨ ys[k2]? = none) (hQ : ∀ h', ZKeep z TO i1 i2 s.heap h' → Q none { s with heap := h' }) : wpAny (model prog w) A (pyNext (.ref z)) Q E s := by
  have T : s.TypeIs (.ref z) "zip" := ⟨_, hz, rfl⟩
  unfold pyNext; refine wpAny_bind (wpAny_attempt (wpAny_callSpecial?_slot (name := Str.ofString "__next__") T F.slot_zip_next (wpAny_call_entry F.slot_zip_next T F.entry_zip_next (zm_end hh D hz hTI hTO h1 h2 hl1 hl2 hend fun h' e hk he => ?_) (F.args_zip_next_1 _))))
  obtain ⟨o, ho, hc⟩ := he; exact wpAny_bind (wpAny_isInstance (T := "StopIteration") (b := true) ⟨o, ho, hc⟩ isSubtype_stop (wpAny_pure (hQ _ hk)))
end
/-! ### zip(list, tuple) made -/
abbrev zmA (h : Heap) (l1 : Addr) : Heap := h.push { cls := .type "list_iterator", data := .fields #[.ref l1, .int 0 0] }
abbrev zmB (h : Heap) (l1 l2 : Addr) : Heap := (zmA h l1).push { cls := .type "tuple_iterator", data := .fields #[.ref l2, .int 0 0] }
abbrev zmC (h : Heap) (l1 l2 : Addr) : Heap := (zmB h l1 l2).push { cls := .type "tuple", data := .seq #[.ref h.objs.size, .ref (zmA h l1).objs.size] }
abbrev zmD (h : Heap) (l1 l2 : Addr) : Heap := (zmC h l1 l2).push { cls := .type "tuple", data := .seq #[.none, .none] }
abbrev zmE (h : Heap) (l1 l2 : Addr) : Heap := (zmD h l1 l2).push { cls := .type "zip", data := .fields #[.none, .bool false, .bool false, .ref (zmB h l1 l2).objs.size, .ref (zmC h l1 l2).objs.size] }
theorem zm_new (l1 l2 : Addr) (xs ys : Array Value) : Meets (Builtin.«zip.__new__» ⟨[.type "zip", .ref l1, .ref l2], []⟩) (fun _ R s => s.heap.IsList l1 xs ∧ s.heap.IsTuple l2 ys ∧ R (.ok (.ret (.ref (zmD s.heap l1 l2).objs.size))) { s with heap := zmE s.heap l1 l2 }) :=
  .of_wp fun prog w A R s h => by
    obtain ⟨hp, g, d, tk, os⟩ := s; obtain ⟨hl1, hl2, h⟩ := h; have hsub := sub_zip
    have L1 : Heap.IsList (Shared.heap ⟨hp, g, d, tk, os⟩) l1 xs := hl1
    have L2 : Heap.IsTuple (Shared.heap ⟨hp.push { cls := .type "list_iterator", data := .fields #[.ref l1, .int 0 0] }, g, d, tk, os⟩) l2 ys := Heap.IsTuple.push hl2 _
    wp_walk using wpAny_pyIter_list L1, wpAny_pyIter_tuple L2
    exact ⟨_, rfl, h⟩
theorem call_zm {prog : Program} {w : World} {A : Around} {E : Value → Shared → Prop} {s : Shared} {l1 l2 : Addr} {xs ys : Array Value} {Q : Value → Shared → Prop} (hl1 : s.heap.IsList l1 xs) (hl2 : s.heap.IsTuple l2 ys)
    (h : ∀ h', IsZip h' (s.heap.objs.size + 4) (s.heap.objs.size + 2) (s.heap.objs.size + 3) .none → IsPair h' (s.heap.objs.size + 2) (.ref s.heap.objs.size) (.ref (s.heap.objs.size + 1)) → IsPair h' (s.heap.objs.size + 3) .none .none → h'.IsListIter s.heap.objs.size l1 0 → h'.IsTupleIter (s.heap.objs.size + 1) l2 0 →
      (∀ c o, s.heap.get? c = some o → h'.get? c = some o) → Q (.ref (s.heap.objs.size + 4)) { s with heap := h' }) : wpAny (model prog w) A (call (.type "zip") [.ref l1, .ref l2]) Q E s := by
  refine callType_new F.called_zip (by decide) (F.typeCall_zip_2 _ _) (F.newCall_zip_2 _ _) (fun obj => F.args_object_init_3 obj _ _) F.entry_zip_new (zm_new l1 l2 xs ys) ⟨hl1, hl2, ?_⟩
  have n1 : (zmA s.heap l1).objs.size = s.heap.objs.size + 1 := Heap.size_push ..
  have n2 : (zmB s.heap l1 l2).objs.size = s.heap.objs.size + 2 := by rw [Heap.size_push, n1]
  have n3 : (zmC s.heap l1 l2).objs.size = s.heap.objs.size + 3 := by rw [Heap.size_push, n2]
  have n4 : (zmD s.heap l1 l2).objs.size = s.heap.objs.size + 4 := by rw [Heap.size_push, n3]
  have k5 : (zmE s.heap l1 l2).get? (zmD s.heap l1 l2).objs.size = some _ := Heap.get?_push_size _ rfl
  have k4 : (zmE s.heap l1 l2).get? (zmC s.heap l1 l2).objs.size = some _ := Heap.get?_push_of_some _ (Heap.get?_push_size _ rfl)
  have k3 : (zmE s.heap l1 l2).get? (zmB s.heap l1 l2).objs.size = some _ := Heap.get?_push_of_some _ (Heap.get?_push_of_some _ (Heap.get?_push_size _ rfl))
  have k2 : (zmE s.heap l1 l2).get? (zmA s.heap l1).objs.size = some _ := Heap.get?_push_of_some _ (Heap.get?_push_of_some _ (Heap.get?_push_of_some _ (Heap.get?_push_size _ rfl)))
  have k1 : (zmE s.heap l1 l2).get? s.heap.objs.size = some _ := Heap.get?_push_of_some _ (Heap.get?_push_of_some _ (Heap.get?_push_of_some _ (Heap.get?_push_of_some _ (Heap.get?_push_size _ rfl))))
  show _ ∧ _
  rw [n2, n3, n4] at k5; rw [n1, n2] at k3; rw [n3] at k4; rw [n1] at k2; rw [n4]
  exact ⟨⟨_, k5, rfl⟩, h _ k5 k3 k4 ⟨_, k1, rfl, rfl⟩ ⟨_, k2, rfl, rfl⟩ fun c o q => Heap.get?_push_of_some _ (Heap.get?_push_of_some _ (Heap.get?_push_of_some _ (Heap.get?_push_of_some _ (Heap.get?_push_of_some _ q))))⟩
/-! ### over the layer -/
def ItzM (K : PySem.W.Frag) (a b : Addr) : It :=
  ⟨fun i H => ∃ (xs ys : List V) (x y : V), SqL K H a xs ∧ SqT K H b ys ∧ xs[i]? = some x ∧ ys[i]? = some y, fun i H v H' => ∃ T x y, v = .ref T ∧ H T = none ∧ H' = upd H T (.tup [x, y]) ∧ (∀ xs, SqL K H a xs → xs[i]? = some x) ∧ ∀ ys, SqT K H b ys → ys[i]? = some y,
    fun i H => ∃ xs ys : List V, SqL K H a xs ∧ SqT K H b ys ∧ (xs.length ≤ i ∨ ys.length ≤ i)⟩
theorem turn_zm {P : Program} {w : World} {K : PySem.W.Frag} {elts : List Expr} {kk : Nat} {tpos : Pos} {a b z TI TO i1 i2 : Addr} (D : ZipApart z TI TO i1 i2 a b) :
    Turn P w K (.Tuple elts kk tpos) (ItzM K a b) [z, TI, TO, i1, i2] z (fun i h => IsZip h z TI TO .none ∧ IsPair h TI (.ref i1) (.ref i2) ∧ (∃ x y, IsPair h TO x y) ∧ h.IsListIter i1 a i ∧ h.IsTupleIter i2 b i) where
  mem := by simp
  obj := fun i h st c hc => by
    obtain ⟨hz, hTI, ⟨x, y, hTO⟩, ⟨o1, e1, _, d1⟩, ⟨o2, e2, _, d2⟩⟩ := st
    rcases (show c = z ∨ c = TI ∨ c = TO ∨ c = i1 ∨ c = i2 by simpa using hc) with q | q | q | q | q
    · rw [q]; exact ⟨_, hz, nofun⟩
    · rw [q]; exact ⟨_, hTI, nofun⟩
    · rw [q]; exact ⟨_, hTO, nofun⟩
    · rw [q]; exact ⟨o1, e1, fun v r => by rw [d1] at r; cases r⟩
    · rw [q]; exact ⟨o2, e2, fun v r => by rw [d2] at r; cases r⟩
  keep := fun i h h' ⟨hz, hTI, ⟨x, y, hTO⟩, h1, h2⟩ k => ⟨k z (by simp) _ hz, k TI (by simp) _ hTI, ⟨x, y, k TO (by simp) _ hTO⟩, h1.at fun o q => k i1 (by simp) o q, h2.at fun o q => k i2 (by simp) o q⟩
  item := by
    intro X hP hw hK hc i pins s σ H E I hf st hg
    subst hP hw hK
    obtain ⟨hz, hTI, ⟨x0, y0, hTO⟩, h1, h2⟩ := st
    obtain ⟨xs, ys, x, y, hqx, hqy, hx, hy⟩ := hg
    obtain ⟨its, rv, pl, _⟩ := I.list hqx
    obtain ⟨its2, rv2, pt, _⟩ := I.tuple hqy
    obtain ⟨u, hu, ru⟩ := rv.get hx
    obtain ⟨u2, hu2, ru2⟩ := rv2.get hy
    have zlt : z < s.heap.objs.size := Heap.lt_size hz
    refine zm_next D hz hTI hTO h1 h2 pl.isList pt (x := u) (y := u2) (by simpa using hu) (by simpa using hu2) fun h' z' TO' h1' h2' hT hsz hk => ⟨_, rfl, wpAny_letOwnedTupleGo_zip (s := { s with heap := h' }) z' fun h'' z'' sb => ?_⟩
    have T2 : h''.get? s.heap.objs.size = some { cls := .type "tuple", data := .seq #[u, u2] } := (sb.2 _ (Nat.ne_of_gt zlt)).trans hT
    have I1 : Inv X pins σ (upd H s.heap.objs.size (.tup [x, y])) { s with heap := h'' } := I.turnedNew (t' := s.toks) (ch := [z, TI, TO, i1, i2]) (fun c o hb q => (sb.2 c (fun r => hb (by simp [r]))).trans (hk c o (fun r => hb (by simp [r])) (fun r => hb (by simp [r])) (fun r => hb (by simp [r])) (fun r => hb (by simp [r])) q)) hf (Nat.le_refl _)
      ⟨by show 2 ≤ sizeLine; decide, [u, u2], .cons ru (.cons ru2 .nil), ⟨_, T2, rfl, _, rfl⟩⟩
    refine ⟨.ref s.heap.objs.size, _, I1, rfl, ⟨_, x, y, rfl, I.hok.fresh (Nat.le_refl _), rfl, fun l hl => by rw [I.list_inj hl hqx]; exact hx, fun l hl => by rw [I.tuple_inj hl hqy]; exact hy⟩, ⟨z'', (sb.2 _ D.TIz).trans (hk _ _ D.TIz D.TITO D.TIi1 D.TIi2 hTI), ⟨u, u2, (sb.2 _ D.TOz).trans TO'⟩, h1'.at fun o q => (sb.2 _ D.i1z).trans q, h2'.at fun o q => (sb.2 _ D.i2z).trans q⟩, fun c hcm => ?_⟩
    have lt : c < s.heap.objs.size := by
      rcases (show c = z ∨ c = TI ∨ c = TO ∨ c = i1 ∨ c = i2 by simpa using hcm) with q | q | q | q | q
      · rw [q]; exact zlt
      · rw [q]; exact Heap.lt_size hTI
      · rw [q]; exact Heap.lt_size hTO
      · rw [q]; obtain ⟨_, e, _⟩ := h1; exact Heap.lt_size e
      · rw [q]; obtain ⟨_, e, _⟩ := h2; exact Heap.lt_size e
    rw [upd_ne (Nat.ne_of_lt lt)]; exact (hf c hcm).1
  done := by
    intro X hP hw hK hc i pins s σ H E I hf st hg
    subst hP hw hK
    obtain ⟨hz, hTI, ⟨x0, y0, hTO⟩, h1, h2⟩ := st
    obtain ⟨xs, ys, hqx, hqy, hend⟩ := hg
    obtain ⟨its, rv, pl, _⟩ := I.list hqx
    obtain ⟨its2, rv2, pt, _⟩ := I.tuple hqy
    have n1 := rv.length; have n2 := rv2.length
    refine zm_stop (I.ok.hd hc) D hz hTI hTO h1 h2 pl.isList pt (hend.elim (fun q => .inl (by simp; omega)) fun q => .inr (by simp; omega)) fun h' hk => ⟨rfl, I.turnedL (t' := s.toks) (ch := [z, TI, TO, i1, i2]) (fun c o hb q => hk c o (fun r => hb (by simp [r])) (fun r => hb (by simp [r])) (fun r => hb (by simp [r])) (fun r => hb (by simp [r])) q) hf⟩
  self := fun A i s Q E st h => wpAny_pyIter_zip st.1 h
def iZipM (K : PySem.W.Frag) (ta : TA) : TI := fun σ H R => ta σ H fun vs H1 => ∃ a b xs ys, vs = [.ref a, .ref b] ∧ SqL K H1 a xs ∧ SqT K H1 b ys ∧ R (ItzM K a b) H1
theorem pi_zipM {X : Cx} {e e2 : Expr} {ta : TA} {p pos tpos : Pos} {elts : List Expr} {kk : Nat} (hg : Gl X "zip") (hm : X.mg "zip" = none) (ha : PA X [e, e2] ta) (hs : starEach [e, e2] X.env = (false, eval e X.env) :: starEach [e2] X.env := by rfl)
    (hpl : (backTo pos (starEach [e2] X.env)).any (·.1) = false := by rfl) : PI X (.Tuple elts kk tpos) (.Call (.Name "zip" p) [e, e2] [] pos) (iZipM X.K ta) := by
  refine ⟨fun pins s σ H R I h => ?_⟩
  refine Call_ (ld_blt I hg hm PyProof.Rows.boot_zip (PyProof.Rows.callWith_type1 (thn (ha.run pos pins s σ H _ I h) fun us s1 ⟨vs, H1, I1, r1, q1⟩ => ?_) hs hpl))
  obtain ⟨a, b, xs, ys, ex, hqx, hqy, q⟩ := q1
  subst ex
  cases r1 with
  | cons r rr =>
    cases rr with
    | cons r' rr =>
      cases rr; cases r; cases r'
      have fr : ∀ c, c ∈ [s1.heap.objs.size + 4, s1.heap.objs.size + 2, s1.heap.objs.size + 3, s1.heap.objs.size, s1.heap.objs.size + 1] → FpOk X pins H1 c := fun c hcm => by
        have le : s1.heap.objs.size ≤ c := by
          simp only [List.mem_cons, List.not_mem_nil, or_false] at hcm
          omega
        exact I1.fpOk le (I1.hok.fresh le)
      obtain ⟨its, rv, pl, _⟩ := I1.list hqx
      obtain ⟨its2, rv2, pt, _⟩ := I1.tuple hqy
      obtain ⟨o2, ho2, _⟩ := id pt
      refine call_zm pl.isList (show s1.heap.IsTuple b its2.toArray from pt) fun h' hz hTI hTO h1 h2 hk => wpAny_pyIter_zip hz ?_
      exact ⟨s1.heap.objs.size + 4, [s1.heap.objs.size + 4, s1.heap.objs.size + 2, s1.heap.objs.size + 3, s1.heap.objs.size, s1.heap.objs.size + 1], _, _, H1, rfl, I1.kept (t' := s1.toks) hk, turn_zm (PySem.W.ktu_apart s1.heap.objs.size a b pl.lt (Heap.lt_size ho2)), ⟨hz, hTI, ⟨_, _, hTO⟩, h1, h2⟩, fr, q⟩
end Cs

set_option Elab.async false
set_option linter.all false
set_option maxRecDepth 100000
set_option maxHeartbeats 4000000
/-! [e for x in xs if t] by the values of e and t. -/
namespace Cs
open PySem L2
def fil (n : Nat) (ok : Nat → Bool) (vl : Nat → V) : List V := ((List.range n).filter ok).map vl
theorem fil_succ (n : Nat) (ok : Nat → Bool) (vl : Nat → V) : fil (n + 1) ok vl = if ok n = true then fil n ok vl ++ [vl n] else fil n ok vl := by
  unfold fil
  rw [List.range_succ, List.filter_append, List.map_append]
  by_cases h : ok n = true
  · rw [if_pos h]
    simp [h]
  · rw [if_neg h]
    simp [h]
theorem fil_len (n : Nat) (ok : Nat → Bool) (vl : Nat → V) : (fil n ok vl).length ≤ n := by
  unfold fil
  rw [List.length_map]
  exact Nat.le_trans (List.length_filter_le _ _) (by rw [List.length_range]; exact Nat.le_refl _)
theorem lc_fil {J : It} {n : Nat} {G : Hp → Prop} {Y : Nat → Hp → V → Hp → Prop} (wk : Walk J n G Y) {g : TG} {tt : TT} {te : TE} {vs : List Nat} {σ : L2.St} {H1 : Hp} {D : Addr} {Qd : Hp → Prop} (ok : Nat → Bool) (vl : Nat → V) (hD : H1 D = none) (hn : n ≤ 100000)
    (hG : ∀ H', Same H1 H' → G H')
    (hs : ∀ (i : Nat) (x : V) (Ha Hb : Hp), i < n → Same H1 Ha → Y i Ha x Hb → ∀ (N1 : V → Hp → Prop) (N0 : Hp → Prop), (ok i = true → ∀ H4, Same Ha H4 → N1 (vl i) H4) → (ok i = false → ∀ H4, Same Ha H4 → N0 H4) →
      g x (wipe σ vs) Hb fun σ2 H2 => wipe σ2 vs = wipe σ vs ∧ tt σ2 H2 fun b H3 => if b = true then te σ2 H3 N1 else N0 H3)
    (k : ∀ H', Same H1 H' → H' D = some (.lst (fil n ok vl)) → Qd H') :
    ∃ W : Nat → Nat → Hp → Prop, (∃ m, W 0 m (upd H1 D (.lst []))) ∧ ∀ i m H, W i m H →
      (J.stop i H ∧ Qd H) ∨ (J.go i H ∧ ∃ Nx : Hp → Prop, (∀ H', Nx H' → ∃ m', m' < m ∧ W (i + 1) m' H') ∧ ∀ x H', J.yld i H x H' → g x (wipe σ vs) H' fun σ2 H2 => wipe σ2 vs = wipe σ vs ∧ tt σ2 H2 fun b H3 =>
        if b = true then te σ2 H3 fun y H4 => ∃ acc, H4 D = some (.lst acc) ∧ acc.length < sizeLine ∧ Nx (upd H4 D (.lst (acc ++ [y]))) else Nx H3) := by
  refine lc_it wk (fun i H' => Same H1 H' ∧ H' D = some (.lst (fil i ok vl))) ⟨same_new hD, upd_same⟩ (fun i H' _ h => hG H' h.1) ?_ fun H' h => k H' h.1 h.2
  rintro i x Ha Hb hi ⟨s', hD'⟩ hy
  refine hs i x Ha Hb hi s' hy _ _ (fun e H4 s4 => ⟨_, s4 _ _ hD', ?_, fun b o q => ?_, ?_⟩) fun e H4 s4 => ⟨s'.trans s4, ?_⟩
  · have := fil_len i ok vl
    exact Nat.lt_of_le_of_lt (show _ ≤ 100000 by omega) (by decide)
  · rw [upd_ne (ne_of_none q hD)]
    exact s4 _ _ (s' _ _ q)
  · rw [upd_same, fil_succ, if_pos e]
  · rw [fil_succ, if_neg (by rw [e]; decide)]
    exact s4 _ _ hD'
theorem walk_zm {K : PySem.W.Frag} {a b : Addr} {xs ys : List V} {n : Nat} (hn : n = min xs.length ys.length) : Walk (ItzM K a b) n (fun H => SqL K H a xs ∧ SqT K H b ys) (YPair (fun i => xs[i]?) (fun i => ys[i]?)) := by
  subst hn
  refine ⟨fun i _ hi q => ?_, fun _ q => ⟨xs, ys, q.1, q.2, by omega⟩, fun i H v H' _ q y => ?_⟩
  · exact ⟨xs, ys, xs[i]'(by omega), ys[i]'(by omega), q.1, q.2, List.getElem?_eq_getElem (by omega), List.getElem?_eq_getElem (by omega)⟩
  · obtain ⟨T, x, z, h1, h2, h3, h4, h5⟩ := y
    exact ⟨T, x, z, h1, h2, h3, h4 xs q.1, h5 ys q.2⟩
theorem it_gen {J : It} {n : Nat} {G : Hp → Prop} {Y : Nat → Hp → V → Hp → Prop} (w : Walk J n G Y) {H0 : Hp} {Qd : Hp → Prop} {B : V → Hp → (Hp → Prop) → Prop} (Pv : Nat → Hp → Prop) (h0 : Pv 0 H0) (hG : ∀ i H, i ≤ n → Pv i H → G H)
    (hs : ∀ i x H H', i < n → Pv i H → Y i H x H' → B x H' (Pv (i + 1))) (hd : ∀ H, Pv n H → Qd H) :
    ∃ W : Nat → Nat → Hp → Prop, (∃ m, W 0 m H0) ∧ ∀ i m H, W i m H → (J.stop i H ∧ Qd H) ∨ (J.go i H ∧ ∃ Nx : Hp → Prop, (∀ H', Nx H' → ∃ m', m' < m ∧ W (i + 1) m' H') ∧ ∀ x H', J.yld i H x H' → B x H' Nx) := by
  refine ⟨fun i m H => m = n - i ∧ i ≤ n ∧ Pv i H, ⟨n, by simp, Nat.zero_le _, h0⟩, ?_⟩
  rintro i m H ⟨rfl, hi, p⟩
  have q := hG i H hi p
  by_cases hlt : i < n
  · exact .inr ⟨w.goes i H hlt q, Pv (i + 1), fun H' p' => ⟨n - (i + 1), by omega, rfl, hlt, p'⟩, fun x H' y => hs i x H H' hlt p (w.yields i H x H' hlt q y)⟩
  · have e : i = n := by omega
    subst e
    exact .inl ⟨w.stops H q, hd H p⟩
end Cs

set_option Elab.async false
set_option linter.all false
set_option maxRecDepth 100000
set_option maxHeartbeats 4000000
/-! Sets of rules: plain. -/
namespace Cs
open PySem L2
/-- a rule's data -/
structure RuD where
  c : RCl
  l : Int
  m : Option Int
  ks : List Str
def PMx : RCl → Option Int → Prop
  | .al, m => m = none
  | _, m => ∃ n, m = some n
def RuD.ok (r : RuD) : Prop := Kinds r.ks ∧ Bnd9 r.l ∧ (∀ n, r.m = some n → Bnd9 n) ∧ PMx r.c r.m
/-- rules in a row -/
def RsAt (a : RAd) (H : Hp) (ps : List V) (rs : List RuD) : Prop := Paired (fun (x : V) (r : RuD) => ∃ p, x = .ref p ∧ RulAt a H p r.c r.l r.m r.ks ∧ r.ok) ps rs
theorem RsAt.same {a : RAd} {H H' : Hp} {ps : List V} {rs : List RuD} (s : Same H H') (h : RsAt a H ps rs) : RsAt a H' ps rs := L2.Paired.mapP h fun _ _ ⟨p, e, r, k⟩ => ⟨p, e, r.same s, k⟩
theorem RsAt.keepX {a : RAd} {H H' : Hp} {ps : List V} {rs : List RuD} {x C dx : Addr} (hx : H x = some (.ins C dx [])) (s : ∀ b o, H b = some o → b ≠ x → H' b = some o) (h : RsAt a H ps rs) : RsAt a H' ps rs := L2.Paired.mapP h fun _ _ ⟨p, e, r, k⟩ => by
  obtain ⟨dx', kt, fs, hp, hkt, f1, f2⟩ := r
  refine ⟨p, e, ⟨dx', kt, fs, s _ _ hp fun q => ?_, s _ _ hkt fun q => ?_, f1, f2⟩, k⟩
  · rw [q, hx] at hp
    cases hp
    cases f1
  · rw [q, hx] at hkt
    cases hkt
theorem RsAt.at {a : RAd} {H : Hp} {ps : List V} {rs : List RuD} (h : RsAt a H ps rs) {i : Nat} {x : V} (e : ps[i]? = some x) : ∃ p r, rs[i]? = some r ∧ x = .ref p ∧ RulAt a H p r.c r.l r.m r.ks ∧ r.ok := by
  unfold RsAt at h
  induction h generalizing i with
  | nil => cases e
  | cons hx _ ih =>
    cases i with
    | zero =>
      obtain ⟨p, e1, e2, e3⟩ := hx
      cases e
      exact ⟨p, _, rfl, e1, e2, e3⟩
    | succ i => exact ih e
theorem RsAt.len {a : RAd} {H : Hp} {ps : List V} {rs : List RuD} (h : RsAt a H ps rs) : ps.length = rs.length := by
  unfold RsAt at h
  induction h with
  | nil => rfl
  | cons _ _ ih => rw [List.length_cons, List.length_cons, ih]
theorem RsAt.oks {a : RAd} {H : Hp} {ps : List V} {rs : List RuD} (h : RsAt a H ps rs) : ∀ r ∈ rs, r.ok := by
  unfold RsAt at h
  induction h with
  | nil => intro r h; cases h
  | cons hx _ ih =>
    intro r h
    obtain ⟨_, _, _, e⟩ := hx
    rcases List.mem_cons.mp h with q | q
    · rw [q]; exact e
    · exact ih r q
theorem names_len {rs : List RuD} (h : ∀ r ∈ rs, r.ok) : (rs.flatMap RuD.ks).length ≤ 3 * rs.length := by
  induction rs with
  | nil => exact Nat.le_refl _
  | cons r rs ih =>
    have h1 := (h r List.mem_cons_self).1.hi
    have h2 := ih fun q hq => h q (List.mem_cons_of_mem _ hq)
    rw [List.flatMap_cons, List.length_append, List.length_cons]
    omega
/-- the mosts of the rules that a kind is in -/
def mostsOf (rs : List RuD) (k : Str) : List Int := rs.filterMap fun r => if k ∈ r.ks then r.m else none
def minL : List Int → Option Int
  | [] => none
  | x :: xs => some (xs.foldl min x)
def capOf (rs : List RuD) (k : Str) : Option Int := minL (mostsOf rs k)
theorem foldl_min_le : ∀ (xs : List Int) (x : Int), xs.foldl min x ≤ x ∧ ∀ y ∈ xs, xs.foldl min x ≤ y
  | [], x => ⟨Int.le_refl _, fun _ h => by cases h⟩
  | z :: xs, x => by
    obtain ⟨h1, h2⟩ := foldl_min_le xs (min x z)
    have e : (z :: xs).foldl min x = xs.foldl min (min x z) := rfl
    rw [e]
    refine ⟨by omega, fun y hy => ?_⟩
    rcases List.mem_cons.mp hy with q | q
    · rw [q]; omega
    · exact h2 y q
theorem foldl_min_mem : ∀ (xs : List Int) (x : Int), xs.foldl min x = x ∨ xs.foldl min x ∈ xs
  | [], x => .inl rfl
  | z :: xs, x => by
    have e : (z :: xs).foldl min x = xs.foldl min (min x z) := rfl
    rw [e]
    rcases foldl_min_mem xs (min x z) with q | q
    · rw [q]
      rcases (show min x z = x ∨ min x z = z by omega) with h | h
      · exact .inl h
      · exact .inr (by rw [h]; exact List.mem_cons_self)
    · exact .inr (List.mem_cons_of_mem _ q)
theorem minL_eq {ns : List Int} {m : Int} (h : m ∈ ns) (k : ∀ y ∈ ns, m ≤ y) : minL ns = some m := by
  cases ns with
  | nil => cases h
  | cons x xs =>
    show some (xs.foldl min x) = some m
    obtain ⟨h1, h2⟩ := foldl_min_le xs x
    have h3 : xs.foldl min x ≤ m := by
      rcases List.mem_cons.mp h with q | q
      · rw [q]; exact h1
      · exact h2 m q
    have h4 : m ≤ xs.foldl min x := by
      rcases foldl_min_mem xs x with q | q
      · rw [q]; exact k x List.mem_cons_self
      · exact k _ (List.mem_cons_of_mem _ q)
    congr 1
    omega
theorem fil_congr {n : Nat} {ok ok' : Nat → Bool} {vl vl' : Nat → V} (h : ∀ i, i < n → ok i = ok' i ∧ vl i = vl' i) : fil n ok vl = fil n ok' vl' := by
  induction n with
  | zero => rfl
  | succ n ih =>
    obtain ⟨e1, e2⟩ := h n (Nat.lt_succ_self n)
    rw [fil_succ, fil_succ, ih fun i hi => h i (Nat.lt_succ_of_lt hi), e1, e2]
def okOf {α : Type} (xs : List α) (p : α → Bool) (i : Nat) : Bool := match xs[i]? with
  | some x => p x
  | none => false
def vlOf {α : Type} (xs : List α) (v : α → V) (i : Nat) : V := match xs[i]? with
  | some x => v x
  | none => .non
theorem fil_take {α : Type} (xs : List α) (p : α → Bool) (v : α → V) : ∀ n, n ≤ xs.length → fil n (okOf xs p) (vlOf xs v) = ((xs.take n).filter p).map v
  | 0, _ => by rw [List.take_zero]; rfl
  | n + 1, h => by
    have hn : n < xs.length := h
    rw [fil_succ, fil_take xs p v n (Nat.le_of_succ_le h), List.take_succ, List.getElem?_eq_getElem hn, List.filter_append, List.map_append]
    have e1 : okOf xs p n = p xs[n] := by unfold okOf; rw [List.getElem?_eq_getElem hn]
    have e2 : vlOf xs v n = v xs[n] := by unfold vlOf; rw [List.getElem?_eq_getElem hn]
    rw [e1, e2]
    by_cases q : p xs[n] = true
    · rw [if_pos q]; simp [q]
    · rw [if_neg q]; simp [q]
theorem fil_list {α : Type} (xs : List α) (p : α → Bool) (v : α → V) : fil xs.length (okOf xs p) (vlOf xs v) = (xs.filter p).map v := by
  rw [fil_take xs p v _ (Nat.le_refl _), List.take_length]
def pM (k : Str) (r : RuD) : Bool := decide (k ∈ r.ks) && r.m.isSome
def vM (r : RuD) : V := .int (r.m.getD 0)
theorem fil_mosts (rs : List RuD) (k : Str) : fil rs.length (okOf rs (pM k)) (vlOf rs vM) = (mostsOf rs k).map V.int := by
  rw [fil_list]
  induction rs with
  | nil => rfl
  | cons r rs ih =>
    have e1 : mostsOf (r :: rs) k = (if k ∈ r.ks then r.m else none).toList ++ mostsOf rs k := by
      unfold mostsOf
      rw [List.filterMap_cons]
      split
      · next h => rw [h]; rfl
      · next h => rw [h]; rfl
    rw [e1, List.map_append, ← ih, List.filter_cons]
    unfold pM
    by_cases q : k ∈ r.ks
    · cases e : r.m with
      | none => simp [q, e]
      | some m => simp [q, e, vM]
    · simp [q]
theorem mostsOf_len (rs : List RuD) (k : Str) : (mostsOf rs k).length ≤ rs.length := List.length_filterMap_le _ _
/-- all rows of numbers up to the caps -/
def rowN (c : Int) (row : List Int) : List (List Int) := (List.range (c + 1).toNat).map fun (n : Nat) => row ++ [Int.ofNat n]
def stepN (rows : List (List Int)) (c : Int) : List (List Int) := rows.flatMap (rowN c)
def allN (caps : List Int) : List (List Int) := caps.foldl stepN [[]]
def prodN (caps : List Int) : Nat := caps.foldl (fun m c => m * (c + 1).toNat) 1
theorem stepN_len (rows : List (List Int)) (c : Int) : (stepN rows c).length = rows.length * (c + 1).toNat := by
  unfold stepN
  induction rows with
  | nil => simp
  | cons r rows ih => rw [List.flatMap_cons, List.length_append, ih, List.length_cons, Nat.succ_mul, Nat.add_comm]; congr 1; unfold rowN; simp
theorem allN_take (caps : List Int) (i : Nat) (c : Int) (h : caps[i]? = some c) : allN (caps.take (i + 1)) = stepN (allN (caps.take i)) c := by
  unfold allN
  rw [List.take_succ, h, List.foldl_append]
  rfl
theorem prodN_take (caps : List Int) (i : Nat) (c : Int) (h : caps[i]? = some c) : prodN (caps.take (i + 1)) = prodN (caps.take i) * (c + 1).toNat := by
  unfold prodN
  rw [List.take_succ, h, List.foldl_append]
  rfl
theorem allN_len (caps : List Int) : (allN caps).length = prodN caps := by
  suffices h : ∀ i, (allN (caps.take i)).length = prodN (caps.take i) by
    have := h caps.length
    rwa [List.take_length] at this
  intro i
  induction i with
  | zero => rfl
  | succ i ih =>
    cases e : caps[i]? with
    | none =>
      have : caps.take (i + 1) = caps.take i := by rw [List.take_succ, e]; simp
      rw [this, ih]
    | some c => rw [allN_take caps i c e, prodN_take caps i c e, stepN_len, ih]
theorem allN_mem (caps : List Int) : ∀ (i : Nat) (row : List Int), row ∈ allN (caps.take i) → row.length ≤ i
  | 0, row, h => by
    have h : row ∈ ([[]] : List (List Int)) := h
    rw [List.mem_singleton.mp h]
    exact Nat.le_refl _
  | i + 1, row, h => by
    cases e : caps[i]? with
    | none =>
      have : caps.take (i + 1) = caps.take i := by rw [List.take_succ, e]; simp
      rw [this] at h
      exact Nat.le_succ_of_le (allN_mem caps i row h)
    | some c =>
      rw [allN_take caps i c e] at h
      obtain ⟨r, hr, h2⟩ := List.mem_flatMap.mp h
      obtain ⟨n, _, rfl⟩ := List.mem_map.mp h2
      have := allN_mem caps i r hr
      rw [List.length_append]
      exact Nat.succ_le_succ this
theorem stepN_take {rows : List (List Int)} {j : Nat} {row : List Int} (c : Int) (h : rows[j]? = some row) : stepN (rows.take (j + 1)) c = stepN (rows.take j) c ++ rowN c row := by
  unfold stepN
  rw [List.take_succ, h, List.flatMap_append]
  simp
theorem rowN_len (c : Int) (row : List Int) : (rowN c row).length = (c + 1).toNat := by unfold rowN; rw [List.length_map, List.length_range]
theorem rowN_take {c : Int} {row : List Int} {m : Nat} (h : m < (c + 1).toNat) : (rowN c row).take (m + 1) = (rowN c row).take m ++ [row ++ [(m : Int)]] := by
  rw [List.take_succ]
  congr 1
  unfold rowN
  rw [List.getElem?_map, List.getElem?_range h]
  rfl
theorem prodN_pos {caps : List Int} (h : ∀ c ∈ caps, 0 ≤ c) : 0 < prodN caps := by
  suffices k : ∀ i, 0 < prodN (caps.take i) by
    have := k caps.length
    rwa [List.take_length] at this
  intro i
  induction i with
  | zero => exact Nat.one_pos
  | succ i ih =>
    cases e : caps[i]? with
    | none =>
      have : caps.take (i + 1) = caps.take i := by rw [List.take_succ, e]; simp
      rw [this]; exact ih
    | some c =>
      rw [prodN_take caps i c e]
      have := h c (List.mem_of_getElem? e)
      exact Nat.mul_pos ih (by omega)
theorem prodN_mono {caps : List Int} (h : ∀ c ∈ caps, 0 ≤ c) (i : Nat) : prodN (caps.take i) ≤ prodN (caps.take (i + 1)) := by
  cases e : caps[i]? with
  | none =>
    have : caps.take (i + 1) = caps.take i := by rw [List.take_succ, e]; simp
    rw [this]; exact Nat.le_refl _
  | some c =>
    rw [prodN_take caps i c e]
    have := h c (List.mem_of_getElem? e)
    exact Nat.le_mul_of_pos_right _ (by omega)
theorem prodN_le {caps : List Int} (h : ∀ c ∈ caps, 0 ≤ c) (i : Nat) : prodN (caps.take i) ≤ prodN caps := by
  have k : ∀ n, prodN (caps.take i) ≤ prodN (caps.take (i + n)) := fun n => by
    induction n with
    | zero => exact Nat.le_refl _
    | succ n ih => exact Nat.le_trans ih (prodN_mono h (i + n))
  have := k caps.length
  rwa [List.take_of_length_le (show caps.length ≤ i + caps.length by omega)] at this
/-- tuples of integers in a row -/
def RowsAt (H : Hp) (xs : List V) (rows : List (List Int)) : Prop := Paired (fun (x : V) (row : List Int) => ∃ p, x = .ref p ∧ H p = some (.tup (row.map V.int))) xs rows
theorem RowsAt.keep {H H' : Hp} {xs : List V} {rows : List (List Int)} (s : ∀ b o, H b = some (.tup o) → H' b = some (.tup o)) (h : RowsAt H xs rows) : RowsAt H' xs rows := L2.Paired.mapP h fun _ _ ⟨p, e, r⟩ => ⟨p, e, s _ _ r⟩
theorem RowsAt.same {H H' : Hp} {xs : List V} {rows : List (List Int)} (s : Same H H') (h : RowsAt H xs rows) : RowsAt H' xs rows := h.keep fun b o e => s _ _ e
theorem RowsAt.len {H : Hp} {xs : List V} {rows : List (List Int)} (h : RowsAt H xs rows) : xs.length = rows.length := by
  unfold RowsAt at h
  induction h with
  | nil => rfl
  | cons _ _ ih => rw [List.length_cons, List.length_cons, ih]
theorem RowsAt.at {H : Hp} {xs : List V} {rows : List (List Int)} (h : RowsAt H xs rows) {i : Nat} {x : V} (e : xs[i]? = some x) : ∃ p row, rows[i]? = some row ∧ x = .ref p ∧ H p = some (.tup (row.map V.int)) := by
  unfold RowsAt at h
  induction h generalizing i with
  | nil => cases e
  | cons hx _ ih =>
    cases i with
    | zero =>
      obtain ⟨p, e1, e2⟩ := hx
      cases e
      exact ⟨p, _, rfl, e1, e2⟩
    | succ i => exact ih e
theorem RowsAt.snoc {H : Hp} {xs : List V} {rows : List (List Int)} {p : Addr} {row : List Int} (h : RowsAt H xs rows) (e : H p = some (.tup (row.map V.int))) : RowsAt H (xs ++ [.ref p]) (rows ++ [row]) := by
  unfold RowsAt at h ⊢
  induction h with
  | nil => exact .cons ⟨p, rfl, e⟩ .nil
  | cons hx _ ih => exact .cons hx ih
theorem RowsAt.fil {H : Hp} {xs : List V} {rows : List (List Int)} (h : RowsAt H xs rows) (p : List Int → Bool) : RowsAt H (fil xs.length (okOf rows p) (vlOf xs fun v => v)) (rows.filter p) := by
  have key : ∀ n, n ≤ xs.length → RowsAt H (Cs.fil n (okOf rows p) (vlOf xs fun v => v)) ((rows.take n).filter p) := by
    intro n
    induction n with
    | zero => intro _; rw [List.take_zero]; exact .nil
    | succ n ih =>
      intro hn
      have hx : xs[n]? = some xs[n] := List.getElem?_eq_getElem hn
      obtain ⟨q, row, hrow, e, hq⟩ := h.at hx
      have e1 : okOf rows p n = p row := by unfold okOf; rw [hrow]
      have e2 : vlOf xs (fun v => v) n = .ref q := by unfold vlOf; rw [hx]; exact e
      rw [fil_succ, e1, e2, List.take_succ, hrow, List.filter_append]
      by_cases z : p row = true
      · rw [if_pos z, show List.filter p (some row).toList = [row] by simp [z]]
        exact RowsAt.snoc (ih (Nat.le_of_succ_le hn)) hq
      · rw [if_neg z, show List.filter p (some row).toList = [] by simp [z], List.append_nil]
        exact ih (Nat.le_of_succ_le hn)
  have := key xs.length (Nat.le_refl _)
  rw [h.len, List.take_length] at this
  rw [h.len]
  exact this
def totalR (ks : List Str) (ns : List Int) (r : RuD) : Int := (((List.range (min ks.length ns.length)).filter fun i => decide ((ks.getD i "") ∈ r.ks)).map fun i => ns.getD i 0).sum
def holdsR (t : Int) (r : RuD) : Bool := decide (r.l ≤ t) && match r.m with
  | none => true
  | some m => decide (t ≤ m)
def withinR (rs : List RuD) (ks : List Str) (ns : List Int) : Bool := rs.all fun r => holdsR (totalR ks ns r) r
end Cs

set_option Elab.async false
set_option linter.all false
set_option maxRecDepth 100000
set_option maxHeartbeats 8000000
set_option pp.maxSteps 600
/-! caps_of, all_numbers, is_within -/
namespace Cs
open PySem L2 NdefX
structure Bi2 (mg : Str → Option Value) : Prop where
  min : mg "min" = none
  zip : mg "zip" = none
/-- rules, kinds -/
def spCaps (a : RAd) : Sp := fun vs H Q _ => ∃ (R L : Addr) (ps : List V) (rs : List RuD) (ks : List Str), vs = [.ref R, .ref L] ∧ H R = some (.tup ps) ∧ RsAt a H ps rs ∧ rs.length ≤ 4 ∧ H L = some (.lst (ks.map V.str)) ∧ ks.length ≤ 100 ∧ (∀ k ∈ ks, Kind k) ∧
  ∀ r H', H r = none → Same H H' → H' r = some (.lst (ks.map fun k => optV (capOf rs k))) → Q (.ref r) H'
def spAllN : Sp := fun vs H Q _ => ∃ (L : Addr) (cs : List Int), vs = [.ref L] ∧ H L = some (.lst (cs.map V.int)) ∧ (∀ c ∈ cs, 0 ≤ c ∧ c ≤ 9) ∧ prodN cs ≤ 1000 ∧ cs.length ≤ 100 ∧
  ∀ r H' xs, H r = none → Same H H' → H' r = some (.lst xs) → RowsAt H' xs (allN cs) → Q (.ref r) H'
def spWithin (a : RAd) : Sp := fun vs H Q _ => ∃ (R L N : Addr) (ps : List V) (rs : List RuD) (ks : List Str) (ns : List Int), vs = [.ref R, .ref L, .ref N] ∧ H R = some (.tup ps) ∧ RsAt a H ps rs ∧ H L = some (.lst (ks.map V.str)) ∧ H N = some (.tup (ns.map V.int)) ∧ ks.length ≤ 100 ∧
  ∀ H', Same H H' → Q (.bl (withinR rs ks ns)) H'
section
variable {P : Program} {w : World} {K : PySem.W.Frag} {mg : Str → Option Value} {base : Heap}
theorem ok_caps_of {f : Addr} {fd : FuncData} {a : RAd} (F : Fun K "caps_of" "caps_of" s_caps_of f fd) (g : Bi mg) (g2 : Bi2 mg) (Wo : RWo K mg a) : FnOk P w K mg base CX0 1 f fd ["rules", "kinds"] (spCaps a) := by
  refine F.ok sc_caps_of (fun vs H Q E h => ?_) (fun cdv A outer s H vs Q E hr h => ?_)
  · obtain ⟨_, _, _, _, _, rfl, _⟩ := h
    rfl
  · obtain ⟨R, L, ps, rs, ks, rfl, hR, hrs, hrl, hL, hkl, hkd, k⟩ := h
    refine ⟨_, (pss_cons (ps_set (i := 2) sc_caps_of.nd rfl (Or.inl rfl) (pe_lst pa_nil))
      (pss_cons (ps_for PassesOwn.never rfl (pi_list (pv 1)) (pg_name (i := 3) sc_caps_of.nd rfl (Or.inr rfl)) (pss_cons (ps_setLc (i := 4) (own := [("rule", 5)]) (g := gName 5) (tt := (tAnd (tTest (tOp (rIn K false) _ (tFld K _ "kinds"))) (tTest (tOp _ (tFld K _ "most") _)))) (te := (tCB _ (tCons (tFld K _ "most") tNil)))  (by rfl) sc_caps_of.nd rfl rfl (sw_true rfl rfl rfl (by decide +kernel)) (pi_tup (pv 0)) (blkOk_by (own := [("rule", 5)]) (N := ["rules", "kinds", "caps", "kind", "mosts", "rule", "most"]) (sc := defScope s_caps_of) (by decide +kernel)) (fun _ _ _ _ _ => (pg_name (i := 5) sc_caps_of.nd rfl (Or.inl rfl))) (fun _ _ _ _ _ => (pts_one (PW.pt (pw_and (pt_cmpR op_in_seq (pv 3) (pe_fld (pv 5) rfl) (by rfl)) (pw_and1 (pt_cmpR op_notN (pe_fld (pv 5) rfl) pe_non (nomark _))))))) (fun _ _ _ _ _ => (pe_callTy call_int1 (by rfl) g.int (by decide +kernel) (pa_cons (pe_fld (pv 5) rfl) pa_nil))))
      (pss_one (ps_expr (pe_bm PySem.F.plainAttrs_list PySem.F.slot_list_append PySem.F.type_list_append mt_append (pv 2) (pa_cons (pe_ifExp (pt_truth (pv 4) (by intro _; rfl)) (pe_callB (cr_min rfl) (by rfl) g2.min (by decide +kernel) (pa_cons (pe_lc (own := [("most", 6)]) (g := gName 6)  (by rfl) sc_caps_of.nd (pi_list (pv 4)) (blkOk_by (own := [("most", 6)]) (N := ["rules", "kinds", "caps", "kind", "mosts", "rule", "most"]) (sc := defScope s_caps_of) (by decide +kernel)) (fun _ _ _ _ _ => (pg_name (i := 6) sc_caps_of.nd rfl (Or.inl rfl))) (fun _ _ _ _ _ => pts_nil) (fun _ _ _ _ _ => (pe_callTy call_int1 (by rfl) g.int (by decide +kernel) (pa_cons (pv 6) pa_nil)))) pa_nil)) pe_non) pa_nil))))))
      (pss_one (ps_ret (pv 2))))), ?_⟩
    refine ⟨Nat.zero_le _, fun D hD => ?_⟩
    have s0 : Same H (upd H D (.lst [])) := Same.new hD
    have gD : (upd H D (.lst [])) D = some (.lst []) := upd_same
    generalize upd H D (.lst []) = H0 at s0 gD
    refine ⟨_, rfl, L, rfl, ⟨_, SqL.of (s0 _ _ hL)⟩, for_list (K := K) (a := L) (xs := ks.map V.str) (fun i σ' H' => (∃ x3 x4 : Option V, σ' = [some (.ref R), some (.ref L), some (.ref D), x3, x4, none, none]) ∧ Same H H' ∧ H' D = some (.lst ((ks.take i).map fun k => optV (capOf rs k)))) ⟨⟨_, _, rfl⟩, s0, gD⟩ (fun i σ' H' _ h => SqL.of (h.2.1 _ _ hL)) ?_ ?_⟩
    · rintro i x σ' H' hx ⟨⟨x3, x4, rfl⟩, s', g'⟩
      rw [List.getElem?_map] at hx
      cases e : ks[i]? with
      | none => rw [e] at hx; cases hx
      | some z =>
        rw [e] at hx
        obtain rfl := Option.some.inj hx
        have hz := hkd z (List.mem_of_getElem? e)
        refine ⟨_, rfl, R, rfl, ⟨_, SqT.of (s' _ _ hR)⟩, fun D2 hD2 => lc_fil (walk_tup (xs := ps)) (okOf rs (pM z)) (vlOf rs vM) hD2 ?_ (fun H2 s2 => SqT.of (s2 _ _ (s' _ _ hR))) ?_ ?_⟩
        · rw [hrs.len]; omega
        · rintro j x Ha Hb hj s2 ⟨rfl, hxj⟩ N1 N0 k1 k0
          obtain ⟨p, r, hr1, rfl, hrA, hro⟩ := (hrs.same (s'.trans s2)).at hxj
          obtain ⟨dx, kt, fs, hp, hkt, f1, f2, f3, f4⟩ := hrA
          have rc := Wo.rc r.c
          have eo : okOf rs (pM z) j = (decide (z ∈ r.ks) && r.m.isSome) := by unfold okOf; rw [hr1]; rfl
          have ev : vlOf rs vM j = .int (r.m.getD 0) := by unfold vlOf; rw [hr1]; rfl
          rw [eo, ev] at k1
          rw [eo] at k0
          clear eo ev
          refine ⟨rfl, ?_⟩
          refine ⟨_, rfl, _, rfl, p, _, dx, fs, _, rfl, hp, rc.cl, rc.nk, f1, kt, _, rfl, .inr (SqT.of hkt), rfl, flat_strs _, _, rfl, ?_⟩
          show if inV (.str z) (r.ks.map V.str) = true then _ else _
          rw [inV_str]
          by_cases q : z ∈ r.ks
          · rw [decide_eq_true q] at k0 k1 ⊢
            refine iteT ⟨_, rfl, p, _, dx, fs, _, rfl, hp, rc.cl, rc.nm, f3, rfl, _, rfl, ?_⟩
            cases em : r.m with
            | none =>
              rw [em] at k0
              exact iteF (k0 rfl _ (Same.refl _))
            | some m =>
              rw [em] at k1 f3
              exact iteT ⟨_, rfl, p, _, dx, fs, _, rfl, hp, rc.cl, rc.nm, f3, .inl ⟨_, rfl, k1 rfl _ (Same.refl _)⟩⟩
          · rw [decide_eq_false q] at k0 ⊢
            exact iteF (k0 rfl _ (Same.refl _))
        · intro H2 s2 g2'
          rw [hrs.len, fil_mosts] at g2'
          have gD2 := s2 _ _ g'
          have eM : ((ks.take i).map fun k => optV (capOf rs k)) ++ [optV (capOf rs z)] = (ks.take (i + 1)).map fun k => optV (capOf rs k) := by rw [List.take_succ, e, List.map_append]; rfl
          have hl1 : ((ks.take i).map fun k => optV (capOf rs k)).length < sizeLine := by
            rw [List.length_map, List.length_take]
            exact Nat.lt_of_le_of_lt (show _ ≤ 100 by omega) (by decide)
          have kup : ∀ {b : Addr} {o : HO} {HH : Hp} {u : HO}, H b = some o → HH b = some o → (upd HH D u) b = some o := fun {b o HH u} q q2 => by
            rw [upd_ne (ne_of_none q hD)]; exact q2
          refine ⟨_, rfl, .inl ⟨rfl, _, SqL.of gD2⟩, _, rfl, _, .inl ⟨_, SqL.of g2', rfl⟩, ?_⟩
          cases eL : mostsOf rs z with
          | nil =>
            refine iteF ⟨D, _, _, rfl, rfl, gD2, hl1, ?_⟩
            have ec : capOf rs z = none := by unfold capOf; rw [eL]; rfl
            refine ⟨⟨_, _, rfl⟩, fun b o q => kup q (s2 _ _ (s' _ _ q)), ?_⟩
            rw [← eM, ec]
            exact upd_same
          | cons m0 ms =>
            rw [eL] at g2'
            refine iteT ⟨_, rfl, D2, rfl, ⟨_, SqL.of g2'⟩, fun D3 hD3 => lc_vals (ys := (m0 :: ms).map V.int) (by rw [List.length_map]) g2' hD3 ?_ (fun _ => rfl) (fun j x y hx hy H3 s3 Qe qk => ?_) fun H3 s3 hD3' => ?_⟩
            · have := mostsOf_len rs z
              rw [eL] at this
              rw [List.length_map]
              omega
            · rw [List.getElem?_map] at hx hy
              cases e2 : (m0 :: ms)[j]? with
              | none => rw [e2] at hx; cases hx
              | some n =>
                rw [e2] at hx hy
                obtain rfl := Option.some.inj hx
                obtain rfl := Option.some.inj hy
                exact ⟨_, rfl, .inl ⟨_, rfl, qk _ (Same.refl _)⟩⟩
            · refine ⟨D3, m0 :: ms, rfl, SqL.of hD3', Nat.succ_pos _, fun m hm1 hm2 => ?_⟩
              have ec : capOf rs z = some m := by unfold capOf; rw [eL]; exact minL_eq hm1 hm2
              refine ⟨D, _, _, rfl, rfl, s3 _ _ gD2, hl1, ⟨_, _, rfl⟩, fun b o q => kup q (s3 _ _ (s2 _ _ (s' _ _ q))), ?_⟩
              rw [← eM, ec]
              exact upd_same
    · rintro σ' H' ⟨⟨x3, x4, rfl⟩, s', g'⟩
      rw [List.length_map, List.take_length] at g'
      exact ⟨_, rfl, k D H' hD s' g'⟩
theorem ok_all_numbers {f : Addr} {fd : FuncData} (F : Fun K "all_numbers" "all_numbers" s_all_numbers f fd) (g : Bi mg) : FnOk P w K mg base CX0 1 f fd ["caps"] spAllN := by
  refine F.ok sc_all_numbers (fun vs H Q E h => ?_) (fun cdv A outer s H vs Q E hr h => ?_)
  · obtain ⟨_, _, rfl, _⟩ := h
    rfl
  · obtain ⟨L, cs, rfl, hL, hc0, hpr, hcl, k⟩ := h
    refine ⟨_, (pss_cons (ps_set (i := 1) sc_all_numbers.nd rfl (Or.inl rfl) (pe_lst (pa_cons (pe_tup pa_nil) pa_nil)))
      (pss_cons (ps_for PassesOwn.never rfl (pi_list (pv 0)) (pg_name (i := 2) sc_all_numbers.nd rfl (Or.inr rfl)) (pss_one (ps_setLc2 (i := 1) (own := [("row", 3), ("number", 4)]) (vs1 := [4]) (g := gName 3) (g1 := gName 4) (te := (tOp (rCatA K) _ _)) (by rfl) sc_all_numbers.nd rfl rfl (sw_true rfl rfl rfl (by decide +kernel)) (pi_list (pv 1)) (blkOk_by (own := [("row", 3), ("number", 4)]) (N := ["caps", "rows", "cap", "row", "number"]) (sc := defScope s_all_numbers) (by decide +kernel)) (by decide) (fun _ _ _ _ _ => (pg_name (i := 3) sc_all_numbers.nd rfl (Or.inl rfl))) (fun _ _ _ _ _ => pts_nil) (fun _ _ _ _ _ => (pi_range1 rfl g.range (pa_cons (pe_op op_add (pv 2) pe_int) pa_nil))) (fun _ _ _ _ _ => (pg_name (i := 4) sc_all_numbers.nd rfl (Or.inl rfl))) (fun _ _ _ _ _ => pts_nil) (fun _ _ _ _ _ => (pe_op op_catA (pv 3) (pe_tup (pa_cons (pv 4) pa_nil)))))))
      (pss_one (ps_ret (pv 1))))), ?_⟩
    refine ⟨Nat.zero_le _, fun T hT => ⟨by show 1 ≤ sizeLine; decide, fun R hR => ?_⟩⟩
    have u1 : Same H (upd H T (.tup [])) := Same.new hT
    have gT : (upd H T (.tup [])) T = some (.tup []) := upd_same
    generalize upd H T (.tup []) = Ha at u1 gT hR
    have u2 : Same Ha (upd Ha R (.lst [.ref T])) := Same.new hR
    have gR : (upd Ha R (.lst [.ref T])) R = some (.lst [.ref T]) := upd_same
    generalize upd Ha R (.lst [.ref T]) = Hb at u2 gR
    have s0 := u1.trans u2
    refine ⟨_, rfl, L, rfl, ⟨_, SqL.of (s0 _ _ hL)⟩, for_list (K := K) (a := L) (xs := cs.map V.int) (fun i σ' H' => ∃ (R : Addr) (x2 : Option V) (xs : List V), σ' = [some (.ref L), some (.ref R), x2, none, none] ∧ Same H H' ∧ H R = none ∧ H' R = some (.lst xs) ∧ RowsAt H' xs (allN (cs.take i)))
      ⟨R, _, _, rfl, s0, u1.free hR, gR, .cons ⟨T, rfl, u2 _ _ gT⟩ .nil⟩ (fun i σ' H' _ ⟨_, _, _, _, h, _⟩ => SqL.of (h _ _ hL)) ?_ ?_⟩
    · rintro i x σ' H' hx ⟨R, x2, xs, rfl, s', hR0, gR, hrw⟩
      rw [List.getElem?_map] at hx
      cases e : cs[i]? with
      | none => rw [e] at hx; cases hx
      | some c =>
        rw [e] at hx
        obtain rfl := Option.some.inj hx
        obtain ⟨hc1, hc2⟩ := hc0 c (List.mem_of_getElem? e)
        have hil : i < cs.length := by
          rcases Nat.lt_or_ge i cs.length with q | q
          · exact q
          · rw [List.getElem?_eq_none q] at e; cases e
        have hrl : (allN (cs.take i)).length ≤ 1000 := by rw [allN_len]; exact Nat.le_trans (prodN_le (fun c h => (hc0 c h).1) i) hpr
        have hmem := allN_mem cs i
        have eN := allN_take cs i c e
        rw [eN]
        generalize allN (cs.take i) = rows at hrl hrw hmem
        refine ⟨_, rfl, R, rfl, ⟨_, SqL.of gR⟩, fun D hD => it_gen (walk_list (xs := xs)) (fun j H2 => Same H' H2 ∧ ∃ acc, H2 D = some (.lst acc) ∧ RowsAt H2 acc (stepN (rows.take j) c)) ⟨Same.new hD, _, upd_same, .nil⟩ (fun j H2 _ h => SqL.of (h.1 _ _ gR)) ?_ ?_⟩
        · rintro j x H2 H3 hj ⟨s2, acc, gD, hacc⟩ ⟨rfl, hxj⟩
          obtain ⟨p, row, hrow, rfl, hp⟩ := hrw.at hxj
          have hrl2 := hmem row (List.mem_of_getElem? hrow)
          refine ⟨rfl, yes_of ?_⟩
          refine ⟨_, rfl, c, 1, rfl, rfl, c + 1, rfl, by omega, by omega, it_gen walk_range (fun m H4 => Same H' H4 ∧ ∃ acc, H4 D = some (.lst acc) ∧ RowsAt H4 acc (stepN (rows.take j) c ++ (rowN c row).take m)) ⟨s2, acc, gD, by rw [List.take_zero, List.append_nil]; exact hacc⟩ (fun _ _ _ _ => trivial) ?_ ?_⟩
          · rintro m x H4 H5 hm ⟨s4, acc4, gD4, hacc4⟩ ⟨rfl, rfl⟩
            have em : (0 : Int) + (m : Nat) = (m : Int) := by omega
            show gName 4 (V.int (0 + (m : Nat))) _ _ _
            rw [em]
            have hl4 : acc4.length < sizeLine := by
              rw [hacc4.len, List.length_append, stepN_len, List.length_take, List.length_take, rowN_len]
              have h1 : min j rows.length * (c + 1).toNat ≤ 1000 * 10 := Nat.mul_le_mul (by omega) (by omega)
              exact Nat.lt_of_le_of_lt (show _ ≤ 20000 by omega) (by decide)
            have fin : ∀ (y : Addr) (H7 : Hp), Same H5 H7 → H7 y = some (.tup ((row ++ [(m : Int)]).map V.int)) → ∃ acc, H7 D = some (.lst acc) ∧ acc.length < sizeLine ∧ (Same H' (upd H7 D (.lst (acc ++ [.ref y]))) ∧ ∃ acc2, (upd H7 D (.lst (acc ++ [.ref y]))) D = some (.lst acc2) ∧ RowsAt (upd H7 D (.lst (acc ++ [.ref y]))) acc2 (stepN (rows.take j) c ++ (rowN c row).take (m + 1))) := by
              intro y H7 s7 hy
              refine ⟨acc4, s7 _ _ gD4, hl4, fun b o q => ?_, _, upd_same, ?_⟩
              · rw [upd_ne (ne_of_none q hD)]
                exact s7 _ _ (s4 _ _ q)
              · rw [rowN_take hm, ← List.append_assoc]
                have hk : ∀ b o, H7 b = some (.tup o) → (upd H7 D (.lst (acc4 ++ [.ref y]))) b = some (.tup o) := fun b o q => by
                  rw [upd_ne (ne_of q (s7 _ _ gD4) (by intro z; cases z))]; exact q
                exact RowsAt.snoc ((hacc4.same s7).keep hk) (hk _ _ hy)
            refine ⟨rfl, yes_of ?_⟩
            refine ⟨_, rfl, _, rfl, by show 1 ≤ sizeLine; decide, fun T hT => ⟨p, T, row.map V.int, [.int m], rfl, rfl, SqT.of ((Same.new hT) _ _ (s4 _ _ hp)), SqT.of upd_same, ?_, fun hz => ?_, (fun _ hz => by cases hz), fun _ _ r hr => ?_⟩⟩
            · rw [List.length_map]
              exact Nat.le_trans (show row.length + 1 ≤ 200 by omega) (by decide)
            · have : row = [] := List.map_eq_nil_iff.mp hz
              subst this
              exact fin T _ (Same.new hT) upd_same
            · refine fin r _ ((Same.new hT).trans (Same.new hr)) ?_
              rw [upd_same, List.map_append]
              rfl
          · rintro H4 ⟨s4, acc4, gD4, hacc4⟩
            refine ⟨s4, acc4, gD4, ?_⟩
            rw [stepN_take c hrow]
            rw [← rowN_len c row, List.take_length] at hacc4
            exact hacc4
        · rintro H2 ⟨s2, acc, gD, hacc⟩
          rw [hrw.len, List.take_length] at hacc
          exact ⟨D, _, acc, rfl, s'.trans s2, s'.free hD, gD, hacc⟩
    · rintro σ' H' ⟨R, x2, xs, rfl, s', hR0, gR, hrw⟩
      rw [List.length_map, List.take_length] at hrw
      exact ⟨_, rfl, k R H' xs hR0 s' gR hrw⟩
theorem ok_is_within {f : Addr} {fd : FuncData} {a : RAd} (F : Fun K "is_within" "is_within" s_is_within f fd) (g : Bi mg) (g2 : Bi2 mg) (Wo : RWo K mg a) : FnOk P w K mg base CX0 1 f fd ["rules", "kinds", "numbers"] (spWithin a) := by
  refine F.ok sc_is_within (fun vs H Q E h => ?_) (fun cdv A outer s H vs Q E hr h => ?_)
  · obtain ⟨_, _, _, _, _, _, _, rfl, _⟩ := h
    rfl
  · obtain ⟨R, L, N, ps, rs, ks, ns, rfl, hR, hrs, hL, hN, hkl, k⟩ := h
    refine ⟨_, (pss_cons (ps_for PassesOwn.never rfl (pi_tup (pv 0)) (pg_name (i := 3) sc_is_within.nd rfl (Or.inr rfl)) (pss_cons (ps_set (i := 4) sc_is_within.nd rfl (Or.inl rfl) (pe_callB (cr_sum rfl) (by rfl) g.sum (by decide +kernel) (pa_cons (pe_lc (own := [("kind", 5), ("number", 6)]) (g := gTup K 2 (gCons (gName 5) (gCons (gName 6) gNil))) (tt := (tTest (tOp (rIn K false) _ (tFld K _ "kinds"))))  (by rfl) sc_is_within.nd (pi_zipM (by rfl) g2.zip (pa_cons (pv 1) (pa_cons (pv 2) pa_nil))) (blkOk_by (own := [("kind", 5), ("number", 6)]) (N := ["rules", "kinds", "numbers", "rule", "total", "kind", "number"]) (sc := defScope s_is_within) (by decide +kernel)) (fun _ _ _ _ _ => (pg_tup rfl (pgs_cons (pg_name (i := 5) sc_is_within.nd rfl (Or.inl rfl)) (pgs_cons (pg_name (i := 6) sc_is_within.nd rfl (Or.inl rfl)) pgs_nil)))) (fun _ _ _ _ _ => (pts_one (pt_cmpR op_in_seq (pv 5) (pe_fld (pv 3) rfl) (by rfl)))) (fun _ _ _ _ _ => (pv 6))) pa_nil)))
      (pss_one (ps_if (PW.pt (pw_or (pt_cmpR op_lt (pv 4) (pe_fld (pv 3) rfl) (nomark _)) (pw_or1 (PW.pt (pw_and (pt_cmpR op_notN (pe_fld (pv 3) rfl) pe_non (nomark _)) (pw_and1 (pt_cmpR op_gt (pv 4) (pe_fld (pv 3) rfl) (nomark _)))))))) (pss_one (ps_ret pe_bl)) pss_nil))))
      (pss_one (ps_ret pe_bl))), ?_⟩
    refine ⟨_, rfl, R, rfl, ⟨_, SqT.of hR⟩, for_tup (K := K) (a := R) (xs := ps) (fun i σ' H' => (∃ x3 x4 : Option V, σ' = [some (.ref R), some (.ref L), some (.ref N), x3, x4, none, none]) ∧ Same H H' ∧ withinR (rs.take i) ks ns = true) ⟨⟨_, _, rfl⟩, Same.refl _, rfl⟩ (fun i σ' H' _ h => SqT.of (h.2.1 _ _ hR)) ?_ ?_⟩
    · rintro i x σ' H' hx ⟨⟨x3, x4, rfl⟩, s', hw⟩
      obtain ⟨p, r, hr1, rfl, hrA, hro⟩ := (hrs.same s').at hx
      have hRA := hrA
      obtain ⟨dx, kt, fs, hp, hkt, f1, f2, f3, f4⟩ := hrA
      have rc := Wo.rc r.c
      refine ⟨_, rfl, _, rfl, L, N, _, _, rfl, SqL.of (s' _ _ hL), SqT.of (s' _ _ hN), fun D hD => lc_fil (walk_zm (n := min ks.length ns.length) (by rw [List.length_map, List.length_map])) (fun j => decide ((ks.getD j "") ∈ r.ks)) (fun j => .int (ns.getD j 0)) hD (by omega) (fun H2 s2 => ⟨SqL.of (s2 _ _ (s' _ _ hL)), SqT.of (s2 _ _ (s' _ _ hN))⟩) ?_ ?_⟩
      · rintro j x Ha Hb hj s2 ⟨T, y, z, rfl, hT, rfl, hy, hz⟩ N1 N0 k1 k0
        dsimp only at hy hz
        rw [List.getElem?_map] at hy hz
        have hjk : j < ks.length := by omega
        have hjn : j < ns.length := by omega
        rw [List.getElem?_eq_getElem hjk] at hy
        rw [List.getElem?_eq_getElem hjn] at hz
        obtain rfl := Option.some.inj hy
        obtain rfl := Option.some.inj hz
        rw [show ks.getD j "" = ks[j] from by rw [List.getD_eq_getElem?_getD, List.getElem?_eq_getElem hjk]; rfl] at k1 k0
        rw [show ns.getD j 0 = ns[j] from by rw [List.getD_eq_getElem?_getD, List.getElem?_eq_getElem hjn]; rfl] at k1
        have u1 : Same Ha (upd Ha T (.tup [V.str ks[j], V.int ns[j]])) := Same.new hT
        refine ⟨T, _, rfl, SqT.of upd_same, rfl, _, _, rfl, _, _, rfl, rfl, rfl, ?_⟩
        refine ⟨_, rfl, _, rfl, p, _, dx, fs, _, rfl, u1 _ _ (s2 _ _ hp), rc.cl, rc.nk, f1, kt, _, rfl, .inr (SqT.of (u1 _ _ (s2 _ _ hkt))), rfl, flat_strs _, _, rfl, ?_⟩
        show if inV (.str ks[j]) (r.ks.map V.str) = true then _ else _
        rw [inV_str]
        by_cases q : ks[j] ∈ r.ks
        · rw [decide_eq_true q] at k1 ⊢
          exact iteT ⟨_, rfl, k1 rfl _ u1⟩
        · rw [decide_eq_false q] at k0 ⊢
          exact iteF (k0 rfl _ u1)
      · intro H2 s2 gD
        have e1 : fil (min ks.length ns.length) (fun j => decide ((ks.getD j "") ∈ r.ks)) (fun j => V.int (ns.getD j 0)) = (((List.range (min ks.length ns.length)).filter fun j => decide ((ks.getD j "") ∈ r.ks)).map fun j => ns.getD j 0).map V.int := by
          unfold fil; rw [List.map_map]; rfl
        rw [e1] at gD
        refine ⟨D, _, rfl, SqL.of gD, ?_⟩
        show gName 4 (V.int (totalR ks ns r)) _ _ _
        have eW : withinR (rs.take (i + 1)) ks ns = holdsR (totalR ks ns r) r := by
          unfold withinR at hw ⊢
          rw [List.take_succ, hr1, List.all_append, hw]
          simp
        have eH : withinR rs ks ns = true → holdsR (totalR ks ns r) r = true := fun h => by
          unfold withinR at h
          exact List.all_eq_true.mp h r (List.mem_of_getElem? hr1)
        generalize totalR ks ns r = T at eW eH
        have hno : holdsR T r = false → ∀ H', Same H H' → Q (.bl false) H' := fun h H' s' => by
          have k' := k H' s'
          cases e : withinR rs ks ns with
          | true => rw [eH e] at h; cases h
          | false => rw [e] at k'; exact k'
        have s3 := s'.trans s2
        refine ⟨_, rfl, _, rfl, p, _, dx, fs, _, rfl, s2 _ _ hp, rc.cl, rc.nl, f2, _, _, rfl, rfl, _, rfl, ite2 (fun z1 => ?_) (fun z1 => ?_)⟩
        · have h1 : T < r.l := of_decide_eq_true z1
          refine hno ?_ H2 s3
          unfold holdsR
          rw [decide_eq_false (show ¬ r.l ≤ T by omega)]
          rfl
        · have h1 : ¬ T < r.l := fun e => z1 (decide_eq_true e)
          have hd : decide (r.l ≤ T) = true := decide_eq_true (by omega)
          refine ⟨_, rfl, p, _, dx, fs, _, rfl, s2 _ _ hp, rc.cl, rc.nm, f3, rfl, _, rfl, ?_⟩
          cases em : r.m with
          | none =>
            have hh : holdsR T r = true := by unfold holdsR; rw [hd, em]; rfl
            rw [hh] at eW
            exact iteF (iteF ⟨⟨_, _, rfl⟩, s3, eW⟩)
          | some m =>
            rw [em] at f3
            have hh : holdsR T r = decide (T ≤ m) := by unfold holdsR; rw [hd, em]; rfl
            refine iteT ⟨_, rfl, _, rfl, p, _, dx, fs, _, rfl, s2 _ _ hp, rc.cl, rc.nm, f3, _, _, rfl, rfl, _, rfl, ite2 (fun z2 => ?_) (fun z2 => ?_)⟩
            · have h2 : m < T := of_decide_eq_true z2
              exact hno (by rw [hh]; exact decide_eq_false (by omega)) H2 s3
            · have h2 : ¬ m < T := fun e => z2 (decide_eq_true e)
              rw [hh, decide_eq_true (show T ≤ m by omega)] at eW
              exact ⟨⟨_, _, rfl⟩, s3, eW⟩
    · rintro σ' H' ⟨⟨x3, x4, rfl⟩, s', hw⟩
      rw [hrs.len, List.take_length] at hw
      have k' := k H' s'
      rw [hw] at k'
      exact k'
end
end Cs

set_option Elab.async false
set_option linter.all false
set_option maxRecDepth 100000
set_option maxHeartbeats 8000000
set_option pp.maxSteps 600
/-! Rules.__init__, Rules.of -/
namespace Cs
open PySem L2 NdefX
/-- the class Rules -/
structure RsC (K : PySem.W.Frag) (C : Addr) : Prop where
  cl : Cls K C
  nli : NoAttr K C "listed"
  nk : NoAttr K C "kinds"
  nlo : NoAttr K C "loose"
  nc : NoAttr K C "caps"
  ne : NoAttr K C "every"
def capsN (rs : List RuD) (ks : List Str) : List Int := ks.map fun k => (capOf rs k).getD 0
/-- what makes rules -/
structure RsOk (rs : List RuD) (ks ls : List Str) : Prop where
  lo : 1 ≤ rs.length
  hi : rs.length ≤ 4
  asc : Asc ks
  mem : ∀ z, z ∈ ks ↔ ∃ r ∈ rs, z ∈ r.ks
  few : ks.length ≤ 4
  cap : ∀ k ∈ ks, ∃ n, capOf rs k = some n ∧ Bnd9 n
  pr : prodN (capsN rs ks) ≤ 1000
  l2 : ls.length ≤ 2
  lk : ∀ z ∈ ls, Kind z ∧ z ∉ ks
  nd : ls.Nodup
def fsR (R kt lt ct ev : Addr) : List (Str × V) := putF "every" (.ref ev) (putF "caps" (.ref ct) (putF "loose" (.ref lt) (putF "kinds" (.ref kt) (putF "listed" (.ref R) []))))
def spRulesB (a : RAd) (C : Addr) : Sp := fun vs H Q _ => ∃ (x dx R l : Addr) (ps : List V) (rs : List RuD) (ks ls : List Str), vs = [.ref x, .ref l, .ref R] ∧ H x = some (.ins C dx []) ∧ H R = some (.tup ps) ∧ RsAt a H ps rs ∧ H l = some (.lst (ls.map V.str)) ∧ RsOk rs ks ls ∧
  ∀ (kt lt ct ev : Addr) (lz : List Str) (xs : List V) (H' : Hp), H' x = some (.ins C dx (fsR R kt lt ct ev)) → (∀ b o, H b = some o → b ≠ x → H' b = some o) → H' kt = some (.tup (ks.map V.str)) → H' lt = some (.tup (lz.map V.str)) → Asc lz → (∀ z, z ∈ lz ↔ z ∈ ls) →
    H' ct = some (.tup ((capsN rs ks).map V.int)) → H ev = none → H' ev = some (.lst xs) → RowsAt H' xs ((allN (capsN rs ks)).filter (withinR rs ks)) → Q .non H'
section
variable {P : Program} {w : World} {K : PySem.W.Frag} {mg : Str → Option Value} {base : Heap}
theorem rules_body {C f fIk fDi fCp fAn fWi : Addr} {fdIk fdDi fdCp fdAn fdWi : FuncData} {a : RAd} {cdv : Value} {A : Around} {outer : List Env} {s : Shared} {H : Hp} {vs : List V} {Q : VK} {E : XK} (g : Bi mg) (Wo : RWo K mg a) (RK : RsC K C)
    (FIk : Def P w K mg base CX0 2 "is_kind" ["thing"] (spIsKind K) fIk fdIk) (FDi : Def P w K mg base CX0 1 "distinct" ["words"] (spDistinct K) fDi fdDi)
    (FCp : Def P w K mg base CX0 1 "caps_of" ["rules", "kinds"] (spCaps a) fCp fdCp) (FAn : Def P w K mg base CX0 1 "all_numbers" ["caps"] spAllN fAn fdAn) (FWi : Def P w K mg base CX0 1 "is_within" ["rules", "kinds", "numbers"] (spWithin a) fWi fdWi)
    (hr : Room 2 (A.deeper (PyProof.Rows.envOfC "Rules.__init__" (defScope s_Rules_init) s.heap.objs.size f cdv))) (h : spRulesB a C vs H Q E) :
    ∃ t, PSs (cxOf CX0 P w K mg base ["self", "loose", "rules", "names", "rule", "kinds", "caps", "product", "cap", "row", "kind"] "Rules.__init__" (defScope s_Rules_init) f cdv A outer s H E).nox (defBody s_Rules_init) t ∧ t { nx := fun _ H' => Q .non H', rt := Q } (L2.start ["self", "loose", "rules", "names", "rule", "kinds", "caps", "product", "cap", "row", "kind"] vs) H := by
  obtain ⟨GIk, mIk, _, bIk⟩ := id FIk
  obtain ⟨GDi, mDi, _, bDi⟩ := id FDi
  obtain ⟨GCp, mCp, _, bCp⟩ := id FCp
  obtain ⟨GAn, mAn, _, bAn⟩ := id FAn
  obtain ⟨GWi, mWi, _, bWi⟩ := id FWi
  have hrIk : Room 2 _ := hr
  have hrDi : Room 1 _ := hr.mono (by decide)
  have hrCp : Room 1 _ := hr.mono (by decide)
  have hrAn : Room 1 _ := hr.mono (by decide)
  have hrWi : Room 1 _ := hr.mono (by decide)
  obtain ⟨x, dx, R, l, ps, rs, ks, ls, rfl, hx, hR, hrs, hl, ok, k⟩ := h
  refine ⟨_, (pss_cons (ps_if (PW.pt (pw_or (pt_not (pt_chain op_le op_le pe_int (pe_callB call_len (by rfl) g.len PySem.boot_len (pa_cons (pv 2) pa_nil)) pe_int)) (pw_or1 (pt_not (pt_val (pe_callB (cr_all rfl) (by rfl) g.all (by decide +kernel) (pa_cons (pe_lc (own := [("rule", 4)]) (g := gName 4) (te := (tCB (rIsi K) _))  (by rfl) sc_Rules_init.nd (pi_tup (pv 2)) (blkOk_by (own := [("rule", 4)]) (N := ["self", "loose", "rules", "names", "rule", "kinds", "caps", "product", "cap", "row", "kind"]) (sc := defScope s_Rules_init) (by decide +kernel)) (fun _ _ _ _ _ => (pg_name (i := 4) sc_Rules_init.nd rfl (Or.inl rfl))) (fun _ _ _ _ _ => pts_nil) (fun _ _ _ _ _ => (pe_callB call_isi (by rfl) g.isinstance (by decide +kernel) (pa_cons (pv 4) (pa_cons (pe_glob (v := .ref a.R) rfl Wo.mR rfl) pa_nil))))) pa_nil))))))) (pss_one ps_never) pss_nil)
      (pss_cons (ps_set (i := 3) sc_Rules_init.nd rfl (Or.inr rfl) (pe_lst pa_nil))
      (pss_cons (ps_for PassesOwn.never rfl (pi_tup (pv 2)) (pg_name (i := 4) sc_Rules_init.nd rfl (Or.inl rfl)) (pss_one (ps_set (i := 3) sc_Rules_init.nd rfl (Or.inr rfl) (pe_op op_cat (pv 3) (pe_callTy call_list_of (by rfl) g.list (by decide +kernel) (pa_cons (pe_fld (pv 4) rfl) pa_nil))))))
      (pss_cons (ps_if (PW.pt (pw_or (pt_not (pt_val (pe_callB call_isiT (by rfl) g.isinstance (by decide +kernel) (pa_cons (pv 1) (pa_cons (pe_tup (pa_cons (pe_bltn (v := .ty "list") (by rfl) g.list (by decide +kernel) rfl) (pa_cons (pe_bltn (v := .ty "tuple") (by rfl) g.tuple (by decide +kernel) rfl) pa_nil))) pa_nil))))) (pw_or1 (pt_cmpR op_gt (pe_callB call_len (by rfl) g.len PySem.boot_len (pa_cons (pv 1) pa_nil)) pe_int (nomark _))))) (pss_one ps_never) pss_nil)
      (pss_cons (ps_if (pt_not (pt_val (pe_callB (cr_all rfl) (by rfl) g.all (by decide +kernel) (pa_cons (pe_lc (own := [("kind", 10)]) (g := gName 10) (te := (tAndV _ (tOp (rIn K true) _ _)))  (by rfl) sc_Rules_init.nd (pi_list (pv 1)) (blkOk_by (own := [("kind", 10)]) (N := ["self", "loose", "rules", "names", "rule", "kinds", "caps", "product", "cap", "row", "kind"]) (sc := defScope s_Rules_init) (by decide +kernel)) (fun _ _ _ _ _ => (pg_name (i := 10) sc_Rules_init.nd rfl (Or.inl rfl))) (fun _ _ _ _ _ => pts_nil) (fun _ _ _ _ _ => (pe_and (pe_call GIk hrIk rfl mIk FIk.kp bIk .nil pass0 (pa_cons (pv 10) pa_nil)) (pe_one (pe_cmpR op_notIn_seq (pv 10) (pv 3) (by rfl)))))) pa_nil)))) (pss_one ps_never) pss_nil)
      (pss_cons (ps_if (pt_cmpR op_lt (pe_callB call_len (by rfl) g.len PySem.boot_len (pa_cons (pe_call GDi hrDi rfl mDi FDi.kp bDi .nil pass0 (pa_cons (pv 1) pa_nil)) pa_nil)) (pe_callB call_len (by rfl) g.len PySem.boot_len (pa_cons (pv 1) pa_nil)) (nomark _)) (pss_one ps_never) pss_nil)
      (pss_cons (ps_set (i := 5) sc_Rules_init.nd rfl (Or.inr rfl) (pe_call GDi hrDi rfl mDi FDi.kp bDi .nil pass0 (pa_cons (pv 3) pa_nil)))
      (pss_cons (ps_set (i := 6) sc_Rules_init.nd rfl (Or.inl rfl) (pe_call GCp hrCp rfl mCp FCp.kp bCp .nil pass0 (pa_cons (pv 2) (pa_cons (pv 5) pa_nil))))
      (pss_cons (ps_if (PW.pt (pw_or (pt_cmpR op_gt (pe_callB call_len (by rfl) g.len PySem.boot_len (pa_cons (pv 5) pa_nil)) pe_int (nomark _)) (pw_or1 (pt_not (pt_val (pe_callB (cr_all rfl) (by rfl) g.all (by decide +kernel) (pa_cons (pe_lc (own := [("cap", 8)]) (g := gName 8)  (by rfl) sc_Rules_init.nd (pi_list (pv 6)) (blkOk_by (own := [("cap", 8)]) (N := ["self", "loose", "rules", "names", "rule", "kinds", "caps", "product", "cap", "row", "kind"]) (sc := defScope s_Rules_init) (by decide +kernel)) (fun _ _ _ _ _ => (pg_name (i := 8) sc_Rules_init.nd rfl (Or.inl rfl))) (fun _ _ _ _ _ => pts_nil) (fun _ _ _ _ _ => (pe_cmpR op_notN (pv 8) pe_non (nomark _)))) pa_nil))))))) (pss_one ps_never) pss_nil)
      (pss_cons (ps_set (i := 7) sc_Rules_init.nd rfl (Or.inl rfl) pe_int)
      (pss_cons (ps_for PassesOwn.never rfl (pi_list (pv 6)) (pg_name (i := 8) sc_Rules_init.nd rfl (Or.inl rfl)) (pss_one (ps_set (i := 7) sc_Rules_init.nd rfl (Or.inl rfl) (pe_op op_mul (pv 7) (pe_op op_add (pv 8) pe_int)))))
      (pss_cons (ps_if (pt_cmpR op_gt (pv 7) pe_int (nomark _)) (pss_one ps_never) pss_nil)
      (pss_cons (ps_fld (pv 0) (pe_callTy call_tuple_of (by rfl) g.tuple (by decide +kernel) (pa_cons (pv 2) pa_nil)) rfl)
      (pss_cons (ps_fld (pv 0) (pe_callTy call_tuple_of (by rfl) g.tuple (by decide +kernel) (pa_cons (pv 5) pa_nil)) rfl)
      (pss_cons (ps_fld (pv 0) (pe_callTy call_tuple_of (by rfl) g.tuple (by decide +kernel) (pa_cons (pe_call GDi hrDi rfl mDi FDi.kp bDi .nil pass0 (pa_cons (pv 1) pa_nil)) pa_nil)) rfl)
      (pss_cons (ps_fld (pv 0) (pe_callTy call_tuple_of (by rfl) g.tuple (by decide +kernel) (pa_cons (pv 6) pa_nil)) rfl)
      (pss_one (ps_fld (pv 0) (pe_lc (own := [("row", 9)]) (g := gName 9)  (by rfl) sc_Rules_init.nd (pi_list (pe_call GAn hrAn rfl mAn FAn.kp bAn .nil pass0 (pa_cons (pv 6) pa_nil))) (blkOk_by (own := [("row", 9)]) (N := ["self", "loose", "rules", "names", "rule", "kinds", "caps", "product", "cap", "row", "kind"]) (sc := defScope s_Rules_init) (by decide +kernel)) (fun _ _ _ _ _ => (pg_name (i := 9) sc_Rules_init.nd rfl (Or.inl rfl))) (fun _ _ _ _ _ => (pts_one (pt_val (pe_call GWi hrWi rfl mWi FWi.kp bWi .nil pass0 (pa_cons (pv 2) (pa_cons (pv 5) (pa_cons (pv 9) pa_nil))))))) (fun _ _ _ _ _ => (pv 9))) rfl)))))))))))))))))), ?_⟩
  have hlp := hrs.len
  have hl1 := ok.lo
  have hl2 := ok.hi
  have hll := ok.l2
  refine ⟨_, rfl, _, _, rfl, .inr ⟨_, SqT.of hR, rfl⟩, _, _, rfl, rfl, _, rfl, ?_⟩
  rw [decide_eq_true (show (1 : Int) ≤ (ps.length : Int) by omega)]
  refine iteT ⟨_, _, rfl, rfl, _, rfl, ?_⟩
  rw [decide_eq_true (show (ps.length : Int) ≤ 4 by omega)]
  refine iteF ?_
  refine ⟨_, rfl, R, rfl, ⟨_, SqT.of hR⟩, fun D hD => lc_valsT (ys := ps.map fun _ => V.bl true) (by rw [List.length_map]) hR hD (by omega) (fun _ => rfl) (fun i y b ha hb H' s' Qe qk => ?_) fun H1 s1 hD1 => ?_⟩
  · obtain ⟨p, r, hr1, rfl, hrA, hro⟩ := (hrs.same s').at ha
    obtain ⟨dx, kt, fs, hp, hkt, f1, f2, f3, f4⟩ := hrA
    rw [List.getElem?_map, ha] at hb
    obtain rfl := Option.some.inj hb
    exact ⟨_, rfl, _, _, _, _, _, rfl, .own a.R, (Wo.ri r.c).ty (K := K) hp, Wo.kitR r.c, qk _ (Same.refl _)⟩
  refine ⟨D, ps.map fun _ => true, rfl, SqL.of (by rw [hD1, List.map_map]; rfl), ?_⟩
  rw [show (ps.map fun _ => true).all id = true by rw [List.all_map, List.all_eq_true]; intro _ _; rfl]
  refine ⟨_, rfl, iteF ?_⟩
  -- names
  refine ⟨Nat.zero_le _, fun N0 hN0 => ?_⟩
  have s2 : Same H1 (upd H1 N0 (.lst [])) := Same.new hN0
  have gN0 : (upd H1 N0 (.lst [])) N0 = some (.lst []) := upd_same
  generalize upd H1 N0 (.lst []) = H2 at s2 gN0
  have s02 := s1.trans s2
  refine ⟨_, rfl, R, rfl, ⟨_, SqT.of (s02 _ _ hR)⟩, for_tup (K := K) (a := R) (xs := ps) (fun i σ' H' => ∃ (N : Addr) (x4 : Option V), σ' = [some (.ref x), some (.ref l), some (.ref R), some (.ref N), x4, none, none, none, none, none, none] ∧ Same H H' ∧ H' N = some (.lst (((rs.take i).flatMap RuD.ks).map V.str))) ⟨N0, _, rfl, s02, gN0⟩ (fun i σ' H' _ ⟨_, _, _, h, _⟩ => SqT.of (h _ _ hR)) ?_ ?_⟩
  · rintro i y σ' H' hy ⟨N, x4, rfl, s', gN⟩
    obtain ⟨p, r, hr1, rfl, hrA, hro⟩ := (hrs.same s').at hy
    obtain ⟨dx', kt, fs, hp, hkt, f1, f2, f3, f4⟩ := hrA
    have rc := Wo.rc r.c
    refine ⟨_, rfl, _, rfl, p, _, dx', fs, _, rfl, hp, rc.cl, rc.nk, f1, kt, _, rfl, .inr (SqT.of hkt), fun l2 hl2' => ?_⟩
    have u1 : Same H' (upd H' l2 (.lst (r.ks.map V.str))) := Same.new hl2'
    have g1 : (upd H' l2 (.lst (r.ks.map V.str))) l2 = some (.lst (r.ks.map V.str)) := upd_same
    generalize upd H' l2 (.lst (r.ks.map V.str)) = H3 at u1 g1
    refine ⟨N, l2, _, _, rfl, rfl, u1 _ _ gN, g1, ?_, fun N2 hN2 => ⟨N2, _, rfl, (s'.trans u1).trans (Same.new hN2), ?_⟩⟩
    · rw [List.length_map, List.length_map]
      have h1 := names_len (rs := rs.take i) fun r h => hrs.oks r (List.mem_of_mem_take h)
      have h2 := hro.1.hi
      rw [List.length_take] at h1
      exact Nat.le_trans (show _ ≤ 100 by omega) (by decide)
    · rw [upd_same, List.take_succ, hr1, List.flatMap_append, List.map_append]
      simp
  rintro σ' H3 ⟨N, x4, rfl, s3, gN⟩
  rw [hlp, List.take_length] at gN
  -- loose
  refine ⟨_, rfl, by show 2 ≤ sizeLine; decide, fun tp htp => ?_⟩
  have s4 : Same H3 (upd H3 tp (.tup [.ty "list", .ty "tuple"])) := Same.new htp
  have gtp : (upd H3 tp (.tup [.ty "list", .ty "tuple"])) tp = some (.tup [.ty "list", .ty "tuple"]) := upd_same
  generalize upd H3 tp (.tup [.ty "list", .ty "tuple"]) = H4 at s4 gtp
  have s04 := s3.trans s4
  refine ⟨_, tp, _, _, _, true, rfl, gtp, .cons (.ty "list") (.cons (.ty "tuple") .nil), .base (.lst (s04 _ _ hl)), kitAny_cons (b := true) (kit_ty (b := "list") (by decide +kernel)) (fun h => by cases h) (fun _ => rfl), _, rfl, iteF ?_⟩
  have hl4 := s04 _ _ hl
  refine ⟨_, rfl, _, _, rfl, .inl ⟨_, SqL.of hl4, rfl⟩, _, _, rfl, rfl, _, rfl, ?_⟩
  rw [List.length_map, decide_eq_false (show ¬ (2 : Int) < (ls.length : Int) by omega)]
  refine iteF ?_
  have gN4 := s4 _ _ gN
  have hnm : ∀ z, z ∈ rs.flatMap RuD.ks ↔ z ∈ ks := fun z => by rw [List.mem_flatMap, ok.mem]
  refine ⟨_, rfl, l, rfl, ⟨_, SqL.of hl4⟩, fun D hD => lc_vals (ys := ls.map fun _ => V.bl true) (by rw [List.length_map, List.length_map]) hl4 hD (by rw [List.length_map]; omega) (fun _ => rfl) (fun i y b ha hb H' s' Qe qk => ?_) fun H5 s5 hD5 => ?_⟩
  · rw [List.getElem?_map] at ha hb
    cases e : ls[i]? with
    | none => rw [e] at ha; cases ha
    | some z =>
      rw [e] at ha hb
      obtain rfl := Option.some.inj ha
      obtain rfl := Option.some.inj hb
      obtain ⟨hz, hz2⟩ := ok.lk z (List.mem_of_getElem? e)
      refine ⟨_, rfl, .inl ⟨z, rfl, Nat.le_trans hz.1.2.1 (by decide), fun H2 s2 => ?_⟩⟩
      rw [kindB_of hz]
      refine ⟨_, rfl, iteT ⟨_, rfl, _, rfl, N, _, rfl, .inl (SqL.of (s2 _ _ (s' _ _ gN4))), rfl, flat_strs _, ?_⟩⟩
      show Qe (V.bl (!inV (.str z) ((rs.flatMap RuD.ks).map V.str))) H2
      rw [inV_str, decide_eq_false (fun q => hz2 ((hnm z).mp q))]
      exact qk H2 s2
  refine ⟨D, ls.map fun _ => true, rfl, SqL.of (by rw [hD5, List.map_map]; rfl), ?_⟩
  rw [show (ls.map fun _ => true).all id = true by rw [List.all_map, List.all_eq_true]; intro _ _; rfl]
  refine ⟨_, rfl, iteF ?_⟩
  refine ⟨_, rfl, l, ls, rfl, SqL.of (s5 _ _ hl4), by omega, fun p1 H6 ws hp1 s6 h6 ha6 hm6 hle6 => ?_⟩
  have hlen6 : ws.length = ls.length := Nat.le_antisymm hle6 (nd_len ok.nd fun z hz => (hm6 z).mpr hz)
  have s06 := (s04.trans s5).trans s6
  refine ⟨_, _, rfl, .inl ⟨_, SqL.of h6, rfl⟩, _, rfl, _, _, rfl, .inl ⟨_, SqL.of (s06 _ _ hl), rfl⟩, _, _, rfl, rfl, _, rfl, ?_⟩
  rw [List.length_map, List.length_map, hlen6, decide_eq_false (Int.lt_irrefl _)]
  refine iteF ?_
  -- kinds
  have hoks := hrs.oks
  have hnl := names_len hoks
  have gN6 := s6 _ _ (s5 _ _ gN4)
  refine ⟨_, rfl, N, _, rfl, SqL.of gN6, by omega, fun kl H7 ws7 hkl s7 h7 ha7 hm7 hle7 => ?_⟩
  have ek : ws7 = ks := asc_eq ha7 ok.asc fun z => (hm7 z).trans (hnm z)
  subst ek
  have s07 := s06.trans s7
  have hk4 := ok.few
  refine ⟨_, rfl, _, rfl, R, kl, ps, rs, ws7, rfl, s07 _ _ hR, hrs.same s07, hl2, h7, by omega, ?_, fun cl H8 hcl s8 h8 => ?_⟩
  · intro z hz
    obtain ⟨r, hr1, hr2⟩ := (ok.mem z).mp hz
    exact (hoks r hr1).1.kd z hr2
  have ecl : (ws7.map fun k => optV (capOf rs k)) = (capsN rs ws7).map V.int := by
    unfold capsN
    rw [List.map_map]
    refine List.map_congr_left fun z hz => ?_
    obtain ⟨n, hn, _⟩ := ok.cap z hz
    show optV (capOf rs z) = V.int ((capOf rs z).getD 0)
    rw [hn]
    rfl
  rw [ecl] at h8
  have hc9 : ∀ c ∈ capsN rs ws7, 0 ≤ c ∧ c ≤ 9 := fun c hc => by
    obtain ⟨z, hz, rfl⟩ := List.mem_map.mp hc
    obtain ⟨n, hn, hb⟩ := ok.cap z hz
    rw [hn]
    exact hb
  have hcl4 : (capsN rs ws7).length = ws7.length := by unfold capsN; rw [List.length_map]
  have hpr := ok.pr
  generalize hcs : capsN rs ws7 = cs at h8 hc9 hcl4 hpr k
  have s08 := s07.trans s8
  refine ⟨_, rfl, _, _, rfl, .inl ⟨_, SqL.of (s8 _ _ h7), rfl⟩, _, _, rfl, rfl, _, rfl, ?_⟩
  rw [List.length_map, decide_eq_false (show ¬ (4 : Int) < (ws7.length : Int) by omega)]
  refine iteF ?_
  refine ⟨_, rfl, cl, rfl, ⟨_, SqL.of h8⟩, fun D hD => lc_vals (ys := cs.map fun _ => V.bl true) (by rw [List.length_map, List.length_map]) h8 hD (by rw [List.length_map]; omega) (fun _ => rfl) (fun i y b ha hb H' s' Qe qk => ?_) fun H9 s9 hD9 => ?_⟩
  · rw [List.getElem?_map] at ha hb
    cases e : cs[i]? with
    | none => rw [e] at ha; cases ha
    | some z =>
      rw [e] at ha hb
      obtain rfl := Option.some.inj ha
      obtain rfl := Option.some.inj hb
      exact ⟨_, rfl, rfl, qk _ (Same.refl _)⟩
  refine ⟨D, cs.map fun _ => true, rfl, SqL.of (by rw [hD9, List.map_map]; rfl), ?_⟩
  rw [show (cs.map fun _ => true).all id = true by rw [List.all_map, List.all_eq_true]; intro _ _; rfl]
  refine ⟨_, rfl, iteF ?_⟩
  -- product
  have h89 := s9 _ _ h8
  have s09 := s08.trans s9
  refine ⟨_, rfl, cl, rfl, ⟨_, SqL.of h89⟩, for_list (K := K) (a := cl) (xs := cs.map V.int) (fun i σ' H' => ∃ x8 : Option V, σ' = [some (.ref x), some (.ref l), some (.ref R), some (.ref N), x4, some (.ref kl), some (.ref cl), some (.int (prodN (cs.take i) : Nat)), x8, none, none] ∧ H' = H9) ⟨_, rfl, rfl⟩ (fun i σ' H' _ h => by obtain ⟨_, _, rfl⟩ := h; exact SqL.of h89) ?_ ?_⟩
  · rintro i y σ' H' hy ⟨x8, rfl, rfl⟩
    rw [List.getElem?_map] at hy
    cases e : cs[i]? with
    | none => rw [e] at hy; cases hy
    | some c =>
      rw [e] at hy
      obtain rfl := Option.some.inj hy
      have hc := (hc9 c (List.mem_of_getElem? e)).1
      have hcb := (hc9 c (List.mem_of_getElem? e)).2
      refine ⟨_, rfl, _, rfl, _, _, rfl, rfl, _, _, rfl, rfl, .inr ⟨by omega, by omega⟩, some (.int c), ?_, rfl⟩
      rw [prodN_take cs i c e, Int.natCast_mul, Int.toNat_of_nonneg (show 0 ≤ c + 1 by omega)]
      rfl
  rintro σ' H' ⟨x8, rfl, eH⟩
  obtain rfl := eH.symm
  rw [List.length_map, List.take_length]
  refine ⟨_, rfl, _, _, rfl, rfl, _, rfl, ?_⟩
  rw [decide_eq_false (show ¬ (1000 : Int) < (prodN cs : Int) by omega)]
  refine iteF ?_
  -- the fields
  refine ⟨_, rfl, R, _, rfl, .inr ⟨SqT.of (s09 _ _ hR), _, rfl, x, C, dx, [], rfl, s09 _ _ hx, RK.cl, RK.nli, by decide, ?_⟩⟩
  have kx1 : ∀ b o, H9 b = some o → b ≠ x → (upd H9 x (.ins C dx (putF "listed" (.ref R) []))) b = some o := fun b o e n => by rw [upd_ne n]; exact e
  have gx1 : (upd H9 x (.ins C dx (putF "listed" (.ref R) []))) x = some (.ins C dx (putF "listed" (.ref R) [])) := upd_same
  generalize upd H9 x (.ins C dx (putF "listed" (.ref R) [])) = HA at kx1 gx1
  have nR : R ≠ x := ne_of hR hx (by intro z; cases z)
  have nl : l ≠ x := ne_of hl hx (by intro z; cases z)
  have nkl : kl ≠ x := fun e => by rw [e, s06 _ _ hx] at hkl; cases hkl
  have ncl : cl ≠ x := fun e => by rw [e, s07 _ _ hx] at hcl; cases hcl
  have k0 : ∀ b o, H b = some o → b ≠ x → HA b = some o := fun b o e n => kx1 _ _ (s09 _ _ e) n
  have hklA := kx1 _ _ (s9 _ _ (s8 _ _ h7)) nkl
  have hclA := kx1 _ _ h89 ncl
  refine ⟨_, rfl, kl, _, rfl, .inl ⟨SqL.of hklA, fun kt hkt => ?_⟩⟩
  have sB : Same HA (upd HA kt (.tup (ws7.map V.str))) := Same.new hkt
  have gkt : (upd HA kt (.tup (ws7.map V.str))) kt = some (.tup (ws7.map V.str)) := upd_same
  generalize upd HA kt (.tup (ws7.map V.str)) = HB at sB gkt
  have nkt : kt ≠ x := fun e => by rw [e, gx1] at hkt; cases hkt
  refine ⟨_, rfl, x, C, dx, _, rfl, sB _ _ gx1, RK.cl, RK.nk, (by show 1 < 1000; decide), ?_⟩
  have kx2 : ∀ b o, HB b = some o → b ≠ x → (upd HB x (.ins C dx (putF "kinds" (.ref kt) (putF "listed" (.ref R) [])))) b = some o := fun b o e n => by rw [upd_ne n]; exact e
  have gx2 : (upd HB x (.ins C dx (putF "kinds" (.ref kt) (putF "listed" (.ref R) [])))) x = some (.ins C dx (putF "kinds" (.ref kt) (putF "listed" (.ref R) []))) := upd_same
  generalize upd HB x (.ins C dx (putF "kinds" (.ref kt) (putF "listed" (.ref R) []))) = HC at kx2 gx2
  have kAC : ∀ b o, HA b = some o → b ≠ x → HC b = some o := fun b o e n => kx2 _ _ (sB _ _ e) n
  -- loose
  refine ⟨_, rfl, l, ls, rfl, SqL.of (kAC _ _ (k0 _ _ hl nl) nl), by omega, fun pz HD lz hpz sD gpz haz hmz hlez => ?_⟩
  refine ⟨pz, _, rfl, .inl ⟨SqL.of gpz, fun lt hlt => ?_⟩⟩
  have sE : Same HD (upd HD lt (.tup (lz.map V.str))) := Same.new hlt
  have glt : (upd HD lt (.tup (lz.map V.str))) lt = some (.tup (lz.map V.str)) := upd_same
  generalize upd HD lt (.tup (lz.map V.str)) = HE at sE glt
  have sDE := sD.trans sE
  have nlt : lt ≠ x := fun e => by rw [e, sD _ _ gx2] at hlt; cases hlt
  refine ⟨_, rfl, x, C, dx, _, rfl, sDE _ _ gx2, RK.cl, RK.nlo, (by show 2 < 1000; decide), ?_⟩
  have kx3 : ∀ b o, HE b = some o → b ≠ x → (upd HE x (.ins C dx (putF "loose" (.ref lt) (putF "kinds" (.ref kt) (putF "listed" (.ref R) []))))) b = some o := fun b o e n => by rw [upd_ne n]; exact e
  have gx3 : (upd HE x (.ins C dx (putF "loose" (.ref lt) (putF "kinds" (.ref kt) (putF "listed" (.ref R) []))))) x = some (.ins C dx (putF "loose" (.ref lt) (putF "kinds" (.ref kt) (putF "listed" (.ref R) [])))) := upd_same
  generalize upd HE x (.ins C dx (putF "loose" (.ref lt) (putF "kinds" (.ref kt) (putF "listed" (.ref R) [])))) = HF at kx3 gx3
  have kCF : ∀ b o, HC b = some o → b ≠ x → HF b = some o := fun b o e n => kx3 _ _ (sDE _ _ e) n
  have kAF : ∀ b o, HA b = some o → b ≠ x → HF b = some o := fun b o e n => kCF _ _ (kAC _ _ e n) n
  -- caps
  refine ⟨_, rfl, cl, _, rfl, .inl ⟨SqL.of (kAF _ _ hclA ncl), fun ct hct => ?_⟩⟩
  have sG : Same HF (upd HF ct (.tup (cs.map V.int))) := Same.new hct
  have gct : (upd HF ct (.tup (cs.map V.int))) ct = some (.tup (cs.map V.int)) := upd_same
  generalize upd HF ct (.tup (cs.map V.int)) = HG at sG gct
  have nct : ct ≠ x := fun e => by rw [e, gx3] at hct; cases hct
  refine ⟨_, rfl, x, C, dx, _, rfl, sG _ _ gx3, RK.cl, RK.nc, (by show 3 < 1000; decide), ?_⟩
  have kx4 : ∀ b o, HG b = some o → b ≠ x → (upd HG x (.ins C dx (putF "caps" (.ref ct) (putF "loose" (.ref lt) (putF "kinds" (.ref kt) (putF "listed" (.ref R) [])))))) b = some o := fun b o e n => by rw [upd_ne n]; exact e
  have gx4 : (upd HG x (.ins C dx (putF "caps" (.ref ct) (putF "loose" (.ref lt) (putF "kinds" (.ref kt) (putF "listed" (.ref R) [])))))) x = some (.ins C dx (putF "caps" (.ref ct) (putF "loose" (.ref lt) (putF "kinds" (.ref kt) (putF "listed" (.ref R) []))))) := upd_same
  generalize upd HG x (.ins C dx (putF "caps" (.ref ct) (putF "loose" (.ref lt) (putF "kinds" (.ref kt) (putF "listed" (.ref R) []))))) = HH at kx4 gx4
  have kAH : ∀ b o, HA b = some o → b ≠ x → HH b = some o := fun b o e n => kx4 _ _ (sG _ _ (kAF _ _ e n)) n
  have kHH : ∀ b o, H b = some o → b ≠ x → HH b = some o := fun b o e n => kAH _ _ (k0 _ _ e n) n
  -- every
  have sHl : Asc ws7 := ok.asc
  refine ⟨_, rfl, cl, cs, rfl, kAH _ _ hclA ncl, hc9, hpr, by omega, fun rr HI xs hrr sI grr hrows => ?_⟩
  refine ⟨rr, rfl, ⟨_, SqL.of grr⟩, fun D hD => lc_fil (walk_list (xs := xs)) (okOf (allN cs) (withinR rs ws7)) (vlOf xs fun v => v) hD ?_ (fun H2 s2 => SqL.of (s2 _ _ grr)) ?_ ?_⟩
  · rw [hrows.len, allN_len]
    omega
  · rintro j y Ha Hb hj s2 ⟨rfl, hyj⟩ N1 N0 k1 k2
    obtain ⟨q, row, hrow, rfl, hq⟩ := hrows.at hyj
    have e1 : okOf (allN cs) (withinR rs ws7) j = withinR rs ws7 row := by unfold okOf; rw [hrow]
    have e2 : vlOf xs (fun v => v) j = .ref q := by unfold vlOf; rw [hyj]
    rw [e1, e2] at k1
    rw [e1] at k2
    refine ⟨rfl, ?_⟩
    have kI : ∀ b o, H b = some o → b ≠ x → Hb b = some o := fun b o e n => s2 _ _ (sI _ _ (kHH b o e n))
    refine ⟨_, rfl, _, rfl, _, rfl, R, kl, q, ps, rs, ws7, row, rfl, kI _ _ hR nR, hrs.keepX hx kI, s2 _ _ (sI _ _ (kAH _ _ hklA nkl)), s2 _ _ hq, by omega, fun H3 s3 => ⟨_, rfl, ?_⟩⟩
    cases ew : withinR rs ws7 row with
    | true =>
      rw [ew] at k1
      exact iteT ⟨_, rfl, k1 rfl H3 s3⟩
    | false =>
      rw [ew] at k2
      exact iteF (k2 rfl H3 s3)
  · intro HJ sJ gD
    refine ⟨_, rfl, x, C, dx, _, rfl, sJ _ _ (sI _ _ gx4), RK.cl, RK.ne, (by show 4 < 1000; decide), ?_⟩
    have kx5 : ∀ b o, HJ b = some o → b ≠ x → (upd HJ x (.ins C dx (fsR R kt lt ct D))) b = some o := fun b o e n => by rw [upd_ne n]; exact e
    have kH5 : ∀ b o, HH b = some o → b ≠ x → (upd HJ x (.ins C dx (fsR R kt lt ct D))) b = some o := fun b o e n => kx5 _ _ (sJ _ _ (sI _ _ e)) n
    have nD : D ≠ x := fun e => by rw [e, sI _ _ gx4] at hD; cases hD
    refine k kt lt ct D lz _ _ upd_same (fun b o e n => kH5 _ _ (kHH b o e n) n) (kH5 _ _ (kx4 _ _ (sG _ _ (kCF _ _ (kx2 _ _ gkt nkt) nkt)) nkt) nkt) (kH5 _ _ (kx4 _ _ (sG _ _ (kx3 _ _ glt nlt)) nlt) nlt) haz hmz (kH5 _ _ (kx4 _ _ gct nct) nct) (by
      cases e : H D with
      | none => rfl
      | some o => rw [sI _ _ (kHH D o e nD)] at hD; cases hD) (kx5 _ _ gD nD) ?_
    refine (RowsAt.same sJ hrows).fil _ |>.keep fun b o e => kx5 _ _ e fun q => ?_
    rw [q, sJ _ _ (sI _ _ gx4)] at e
    cases e
/-- rules made -/
def RlAt (a : RAd) (C : Addr) (H : Hp) (p ev : Addr) (ps : List V) (rs : List RuD) (ks ls : List Str) : Prop := ∃ (dx R kt lt ct : Addr) (lz : List Str) (xs : List V), H p = some (.ins C dx (fsR R kt lt ct ev)) ∧ H R = some (.tup ps) ∧ RsAt a H ps rs ∧ H kt = some (.tup (ks.map V.str)) ∧ H lt = some (.tup (lz.map V.str)) ∧ Asc lz ∧ (∀ z, z ∈ lz ↔ z ∈ ls) ∧
  H ct = some (.tup ((capsN rs ks).map V.int)) ∧ H ev = some (.lst xs) ∧ RowsAt H xs ((allN (capsN rs ks)).filter (withinR rs ks))
theorem RlAt.same {a : RAd} {C : Addr} {H H' : Hp} {p ev : Addr} {ps : List V} {rs : List RuD} {ks ls : List Str} (s : Same H H') (h : RlAt a C H p ev ps rs ks ls) : RlAt a C H' p ev ps rs ks ls := by
  obtain ⟨dx, R, kt, lt, ct, lz, xs, h1, h2, h3, h4, h5, h6, h7, h8, h9, h10⟩ := h
  exact ⟨dx, R, kt, lt, ct, lz, xs, s _ _ h1, s _ _ h2, h3.same s, s _ _ h4, s _ _ h5, h6, h7, s _ _ h8, s _ _ h9, h10.same s⟩
def spRules (a : RAd) (C : Addr) : Sp := fun vs H Q _ => ∃ (x dx l : Addr) (ps : List V) (rs : List RuD) (ks ls : List Str), vs = .ref l :: .ref x :: ps ∧ H x = some (.ins C dx []) ∧ RsAt a H ps rs ∧ H l = some (.lst (ls.map V.str)) ∧ RsOk rs ks ls ∧
  ∀ ev H', H ev = none → RlAt a C H' x ev ps rs ks ls → (∀ b o, H b = some o → b ≠ x → H' b = some o) → Q .non H'
theorem ok_rules {C f fIk fDi fCp fAn fWi : Addr} {fdIk fdDi fdCp fdAn fdWi : FuncData} {a : RAd} {oc od dV kV doc pm an cdv ct osl} (g : Bi mg) (Wo : RWo K mg a) (RK : RsC K C)
    (FIk : Def P w K mg base CX0 2 "is_kind" ["thing"] (spIsKind K) fIk fdIk) (FDi : Def P w K mg base CX0 1 "distinct" ["words"] (spDistinct K) fDi fdDi)
    (FCp : Def P w K mg base CX0 1 "caps_of" ["rules", "kinds"] (spCaps a) fCp fdCp) (FAn : Def P w K mg base CX0 1 "all_numbers" ["caps"] spAllN fAn fdAn) (FWi : Def P w K mg base CX0 1 "is_within" ["rules", "kinds", "numbers"] (spWithin a) fWi fdWi)
    (lk : K.lookup f = some ⟨oc, od, .func (PySem.W.fnOf "__init__" "Rules.__init__" (defArgs s_Rules_init) (defBody s_Rules_init) (defScope s_Rules_init) dV kV doc pm an cdv ct), osl⟩) (hcd : PySem.W.codeIn K cdv "Rules.__init__" = true)
    (hb : ∀ (us rest : List Value) (u : Value), us.length = 1 → bindArgs (PySem.W.fnOf "__init__" "Rules.__init__" (defArgs s_Rules_init) (defBody s_Rules_init) (defScope s_Rules_init) dV kV doc pm an cdv ct) ⟨us ++ rest, [(("loose" : Str), u)]⟩ = (newTuple rest >>= fun t => pure ((["self"] : List Str).zip us ++ [(("loose" : Str), u), (("rules" : Str), t)]))) :
    FnL P w K mg base CX0 3 f "loose" (spRules a C) := by
  have G := fn_kwstar (P := P) (w := w) (mg := mg) (base := base) (CX := CX0) (k := 2) (ps := ["self"]) (pv := "rules") (nm := "loose") (sp := spRulesB a C) lk hcd sc_Rules_init StX.cxUp_none hb
    (fun A outer s H vs Q E hr h => by
      obtain ⟨t, a, b⟩ := rules_body (P := P) (w := w) (mg := mg) (base := base) (outer := outer) (s := s) g Wo RK FIk FDi FCp FAn FWi hr h
      exact ⟨t, a.nox, b⟩)
  refine G.imp fun vs H Q E h => ?_
  obtain ⟨x, dx, l, ps, rs, ks, ls, rfl, hx, hrs, hl, ok, k⟩ := h
  have hlp := hrs.len
  have hl4 := ok.hi
  refine ⟨.ref l, [.ref x], ps, rfl, rfl, Nat.le_trans (show ps.length ≤ 4 by omega) (by decide), fun p hp => ?_⟩
  have s1 : Same H (upd H p (.tup ps)) := Same.new hp
  refine ⟨x, dx, p, l, ps, rs, ks, ls, rfl, s1 _ _ hx, upd_same, hrs.same s1, s1 _ _ hl, ok, fun kt lt ct ev lz xs H' h1 h2 h3 h4 h5 h6 h7 he h8 h9 => k ev H' (s1.free he) ?_ fun b o e n => h2 b o (s1 _ _ e) n⟩
  exact ⟨dx, p, kt, lt, ct, lz, xs, h1, h2 _ _ upd_same (ne_of_none hx hp).symm, hrs.keepX hx fun b o e n => h2 b o (s1 _ _ e) n, h3, h4, h5, h6, h7, h8, h9⟩
theorem mk_rules {a : RAd} {C l : Addr} {ps : List V} {rs : List RuD} {ks ls : List Str} {H : Hp} {Q : Addr → Hp → Prop} {E : XK} (hrs : RsAt a H ps rs) (hl : H l = some (.lst (ls.map V.str))) (ok : RsOk rs ks ls) (k : ∀ x ev H', H x = none → H ev = none → Same H H' → RlAt a C H' x ev ps rs ks ls → Q x H') :
    ∀ x dx, H x = none → H dx = none → dx ≠ x → spRules a C (V.ref l :: V.ref x :: ps) (upd (upd H dx (.own x)) x (.ins C dx [])) (fun v H2 => v = .non ∧ Q x H2) E := by
  intro x dx hx hdx ne
  have s1 : Same H (upd H dx (.own x)) := Same.new hdx
  have hx1 : (upd H dx (.own x)) x = none := by rw [upd_ne ne.symm]; exact hx
  have s2 : Same (upd H dx (.own x)) (upd (upd H dx (.own x)) x (.ins C dx [])) := Same.new hx1
  have s12 := s1.trans s2
  refine ⟨x, dx, l, ps, rs, ks, ls, rfl, upd_same, hrs.same s12, s12 _ _ hl, ok, fun ev H' he h1 h2 => ⟨rfl, k x ev H' hx (s12.free he) (fun b o e => h2 _ _ (s12 _ _ e) (ne_of_none e hx)) h1⟩⟩
def spRsOf (a : RAd) (C : Addr) : Sp := fun vs H Q _ => ∃ (rl l : Addr) (ps : List V) (rs : List RuD) (ks ls : List Str), vs = [.ref C, .ref rl, .ref l] ∧ H rl = some (.lst ps) ∧ RsAt a H ps rs ∧ H l = some (.lst (ls.map V.str)) ∧ RsOk rs ks ls ∧
  ∀ (x ev : Addr) (H' : Hp), H x = none → H ev = none → Same H H' → RlAt a C H' x ev ps rs ks ls → Q (.ref x) H'
theorem ok_rules_of {C f fI : Addr} {fd : FuncData} {a : RAd} {dvs : List V} (F : FunD K "of" "Rules.of" (defArgs s_Rules_of) (defBody s_Rules_of) (defScope s_Rules_of) dvs [] f fd) (MK : Mk K C fI) (IK : FnL P w K mg base CX0 3 fI "loose" (spRules a C)) : FnOk P w K mg base CX0 5 f fd ["cls", "rules", "loose"] (spRsOf a C) := by
  refine F.ok sc_Rules_of (fun vs H Q E h => ?_) (fun cdv A outer s H vs Q E hr h => ?_)
  · obtain ⟨_, _, _, _, _, _, rfl, _⟩ := h
    rfl
  · obtain ⟨rl, l, ps, rs, ks, ls, rfl, hrl, hrs, hl, ok, k⟩ := h
    have hrI : Room 4 _ := hr
    refine ⟨_, ((pss_one (ps_ret (pe_mkSLk (i := 0) MK IK hrI rfl (Or.inl rfl) pass0 (pv 1) (pv 2)))) : PSs (cxOf CX0 P w K mg base ["cls", "rules", "loose"] "Rules.of" (defScope s_Rules_of) f cdv A outer s H E).nox (defBody s_Rules_of) _).nox, ?_⟩
    exact ⟨rfl, _, rfl, _, rfl, rl, ps, rfl, .inr (SqL.of hrl), mk_rules (Q := fun x H' => Q (.ref x) H') hrs hl ok fun x ev H' hx he s' h' => k x ev H' hx he s' h'⟩
end
end Cs

set_option Elab.async false
set_option linter.all false
set_option maxRecDepth 100000
set_option maxHeartbeats 4000000
/-! for i, x in enumerate(t), t a tuple. -/
namespace Cs
open PySem PySem.Spec PyProof.Rows L2
theorem meets_enumT (l : Addr) (items : Array Value) :
    Meets (Builtin.«enumerate.__new__» ⟨[.type "enumerate", .ref l], []⟩) (fun _ R s => s.heap.IsTuple l items ∧
      R (.ok (.ret (.ref (s.heap.push { cls := .type "tuple_iterator", data := .fields #[.ref l, .int 0 0] }).objs.size)))
        { s with heap := (s.heap.push { cls := .type "tuple_iterator", data := .fields #[.ref l, .int 0 0] }).push { cls := .type "enumerate", data := .fields #[.none, .bool false, .ref s.heap.objs.size, rawInt 0, .none, .none] } }) :=
  .of_wp fun prog w A R s h => by
    obtain ⟨hp, g, d, tk, os⟩ := s; obtain ⟨hl, h⟩ := h
    have hsub := sub_enumerate
    have q1 : ∀ {A' : Around} {E : Value → Shared → Prop} {Q : Value → Shared → Prop}, Q (.ref hp.objs.size) ⟨hp.push { cls := .type "tuple_iterator", data := .fields #[.ref l, .int 0 0] }, g, d, tk, os⟩ → wpAny (model prog w) A' (pyIter (.ref l)) Q E ⟨hp, g, d, tk, os⟩ :=
      fun q => (begins_tuple l items).iter prog w _ _ ⟨hp, g, d, tk, os⟩ _ hl q
    wp_walk using q1
    refine wpAny_stack_any fun st => wpAny_pure ?_
    split
    · rename_i c _ _ _ _ _
      cases (c == Value.type "enumerate")
      · wp_walk using q1
        exact ⟨_, rfl, h⟩
      · wp_walk using q1
        exact ⟨_, rfl, h⟩
    · wp_walk using q1
      exact ⟨_, rfl, h⟩
section
variable {prog : Program} {w : World} {A : Around} {E : Value → Shared → Prop} {s : Shared}
theorem call_enumT {l : Addr} {items : Array Value} {Q : Value → Shared → Prop} (hL : s.heap.IsTuple l items)
    (h : ∀ h', IsEnum h' (s.heap.objs.size + 1) s.heap.objs.size 0 .none → h'.IsTupleIter s.heap.objs.size l 0 → h'.objs.size = s.heap.objs.size + 2 →
      (∀ b o, s.heap.get? b = some o → h'.get? b = some o) → Q (.ref (s.heap.objs.size + 1)) { s with heap := h' }) :
    wpAny (model prog w) A (call (.type "enumerate") [.ref l]) Q E s := by
  refine callType_new F.called_enumerate (by decide) (F.typeCall_enumerate_1 _) (F.newCall_enumerate_1 _) (fun obj => F.args_object_init_2 obj _) F.entry_enumerate_new
    (meets_enumT l items) ⟨hL, ?_⟩
  have hz : (s.heap.push { cls := .type "tuple_iterator", data := .fields #[.ref l, .int 0 0] }).objs.size = s.heap.objs.size + 1 := Heap.size_push ..
  show _ ∧ _
  rw [hz]
  have he : IsEnum ((s.heap.push { cls := .type "tuple_iterator", data := .fields #[.ref l, .int 0 0] }).push
      { cls := .type "enumerate", data := .fields #[.none, .bool false, .ref s.heap.objs.size, rawInt 0, .none, .none] }) (s.heap.objs.size + 1) s.heap.objs.size 0 .none := by
    have := Heap.get?_push_size (s.heap.push { cls := .type "tuple_iterator", data := .fields #[.ref l, .int 0 0] })
      (o := { cls := .type "enumerate", data := .fields #[.none, .bool false, .ref s.heap.objs.size, rawInt 0, .none, .none] }) rfl
    rw [hz] at this; exact this
  refine ⟨⟨_, he, rfl⟩, h _ he ⟨_, Heap.get?_push_of_some _ (Heap.get?_push_size _ rfl), rfl, rfl⟩ (by rw [Heap.size_push, hz]) fun b o x => Heap.get?_push_of_some _ (Heap.get?_push_of_some _ x)⟩
end
/-- the tuple at a, each item in a new pair -/
def IteT (K : PySem.W.Frag) (a : Addr) : It :=
  ⟨fun i H => ∃ (xs : List V) (x : V), SqT K H a xs ∧ xs[i]? = some x, fun i H v H' => ∃ T x, v = .ref T ∧ H T = none ∧ H' = upd H T (.tup [.int (i : Nat), x]) ∧ ∀ xs, SqT K H a xs → xs[i]? = some x, fun i H => ∃ xs : List V, SqT K H a xs ∧ xs.length = i⟩
theorem turn_enumT {P : Program} {w : World} {K : PySem.W.Frag} {elts : List Expr} {kk : Nat} {tpos : Pos} (a e it : Addr) :
    Turn P w K (.Tuple elts kk tpos) (IteT K a) [e, it] e (fun i h => (∃ old, IsEnum h e it ((i : Nat) : Int) old) ∧ h.IsTupleIter it a i ∧ e ≠ it) where
  mem := by simp
  obj := fun i h st b hb => by
    obtain ⟨⟨old, he⟩, ⟨o, ho, hc, hd⟩, _⟩ := st
    have e' : b = e ∨ b = it := by simpa using hb
    rcases e' with z | z
    · rw [z]; exact ⟨_, he, fun v q => nomatch q⟩
    · rw [z]; exact ⟨o, ho, fun v q => by rw [hd] at q; cases q⟩
  keep := fun i h h' st k => let ⟨⟨old, he⟩, hi, hne⟩ := st; ⟨⟨old, k e (by simp) _ he⟩, hi.at fun o q => k it (by simp) o q, hne⟩
  item := by
    intro X hP hw hK hc i pins s σ H E I hf st hg
    subst hP hw hK
    obtain ⟨⟨old, he⟩, hit, hne⟩ := st
    obtain ⟨xs, x, hq, hx⟩ := hg
    obtain ⟨its, rv, p, hz⟩ := I.tuple hq
    have p' : s.heap.IsTuple a its.toArray := p
    obtain ⟨u, hu, ru⟩ := rv.get hx
    have hel : e < s.heap.objs.size := Heap.lt_size he
    have hil : it < s.heap.objs.size := by obtain ⟨_, q, _⟩ := hit; exact Heap.lt_size q
    have nta : a ≠ it := by
      rintro rfl
      obtain ⟨o1, h1, c1, _⟩ := hit
      obtain ⟨o2, h2, c2, _⟩ := p'
      rw [h1] at h2
      cases h2
      rw [c1] at c2
      injection c2 with q
      exact absurd q (by decide)
    have nea : e ≠ a := by
      rintro rfl
      obtain ⟨o2, h2, c2, _⟩ := p'
      rw [he] at h2
      cases h2
      injection c2 with q
      exact absurd q (by decide)
    have hlt : i < its.toArray.size := by
      have := (List.getElem?_eq_some_iff.mp hu).1
      simpa using this
    refine wpAny_pyNext_enum_itemD (Draws.tuple (A := X.A.in1) (I.ok.hd hc) it a nta its.toArray) he ⟨hit, p'⟩ hlt hne (by simp [hne, nea]) fun x' h' tk hP ho hst' hT hsz hk => ?_
    have ex : x' = u := by
      have h1 : its[i]? = some x' := by simpa using hP
      rw [hu] at h1
      exact (Option.some.inj h1).symm
    subst ex
    refine ⟨_, rfl, wpAny_letOwnedTupleGo_enum (s := { s with heap := h', toks := tk + 1 }) ho fun h'' he' sb => ?_⟩
    have hT2 : h''.get? s.heap.objs.size = some { cls := .type "tuple", data := .seq #[.int i tk, x'] } := (sb.2 _ (Nat.ne_of_gt hel)).trans hT
    have new : ObjOk X.prog X.w (upd H s.heap.objs.size (.tup [.int (i : Nat), x])) h'' s.heap.objs.size (.tup [.int (i : Nat), x]) :=
      ⟨by show 2 ≤ sizeLine; decide, [.int i tk, x'], .cons ⟨_, rfl⟩ (.cons ru .nil), ⟨_, hT2, rfl, _, rfl⟩⟩
    have I1 : Inv X pins σ (upd H s.heap.objs.size (.tup [.int (i : Nat), x])) { s with heap := h'', toks := tk + 1 } :=
      I.turnedNew (ch := [e, it]) (fun b ob hb q => (sb.2 b (fun z => hb (by simp [z]))).trans (hk b ob (fun z => hb (by simp [z])) (fun z => hb (by simp [z])) q)) hf (Nat.le_refl _) new
    refine ⟨.ref s.heap.objs.size, _, I1, rfl, ⟨_, x, rfl, I.hok.fresh (Nat.le_refl _), rfl, fun ys hy => by rw [I.tuple_inj hy hq]; exact hx⟩, ⟨⟨x', ?_⟩, hst'.1.at fun o q => (sb.2 it (Ne.symm hne)).trans q, hne⟩, fun b hb => ?_⟩
    · have e1 : ((i + 1 : Nat) : Int) = (i : Int) + 1 := by omega
      rw [e1]; exact he'
    · have hb' : b < s.heap.objs.size := by
        have e' : b = e ∨ b = it := by simpa using hb
        rcases e' with z | z
        · rw [z]; exact hel
        · rw [z]; exact hil
      rw [upd_ne (Nat.ne_of_lt hb')]
      exact (hf b hb).1
  done := by
    intro X hP hw hK hc i pins s σ H E I hf st hg
    subst hP hw hK
    obtain ⟨⟨old, he⟩, hit, hne⟩ := st
    obtain ⟨xs, hq, hx⟩ := hg
    obtain ⟨its, rv, p, hz⟩ := I.tuple hq
    have p' : s.heap.IsTuple a its.toArray := p
    obtain ⟨f0, f1, f2, f3, f4, f5⟩ := hf it (by simp)
    have hl := rv.length
    have nta : a ≠ it := by
      rintro rfl
      obtain ⟨o1, h1, c1, _⟩ := hit
      obtain ⟨o2, h2, c2, _⟩ := p'
      rw [h1] at h2
      cases h2
      rw [c1] at c2
      injection c2 with q
      exact absurd q (by decide)
    have hi : its.toArray.size = i := by simp; omega
    have hit' : s.heap.IsTupleIter it a its.toArray.size := by rw [hi]; exact hit
    exact wpAny_pyNext_enum_endD (Draws.tuple (A := X.A.in1) (I.ok.hd hc) it a nta its.toArray) he ⟨hit', p'⟩ fun h' eb => ⟨rfl, I.turned (t' := s.toks) (fun b o hb q => eb b o hb q) f0 f1 f3 f4 f5⟩
  self := fun A i s Q E st h => let ⟨⟨_, he⟩, _⟩ := st; wpAny_pyIter_enum he h
def iEnumT (K : PySem.W.Frag) (ta : TA) : TI := fun σ H R => ta σ H fun vs H1 => ∃ a xs, vs = [.ref a] ∧ SqT K H1 a xs ∧ R (IteT K a) H1
theorem pi_enumT {X : Cx} {e : Expr} {ta : TA} {p pos tpos : Pos} {elts : List Expr} {kk : Nat} (hg : Gl X "enumerate") (hm : X.mg "enumerate" = none) (ha : PA X [e] ta) (hs : starEach [e] X.env = [(false, eval e X.env)] := by rfl) :
    PI X (.Tuple elts kk tpos) (.Call (.Name "enumerate" p) [e] [] pos) (iEnumT X.K ta) := by
  refine ⟨fun pins s σ H R I h => ?_⟩
  refine Call_ (ld_blt I hg hm boot_enumerate (PyProof.Rows.callWith_type1 (thn (ha.run pos pins s σ H _ I h) fun us s1 ⟨vs, H1, I1, r1, q1⟩ => ?_) hs rfl))
  obtain ⟨a, xs, ex, hq, q⟩ := q1
  subst ex
  cases r1 with
  | cons r rr =>
    cases rr
    cases r
    obtain ⟨its, rv, p', hz⟩ := I1.tuple hq
    refine call_enumT (show s1.heap.IsTuple a its.toArray from p') fun h' he hit hsz hk => wpAny_pyIter_enum he ?_
    have I2 : Inv X pins σ H1 { s1 with heap := h' } := I1.kept (t' := s1.toks) hk
    refine ⟨s1.heap.objs.size + 1, [s1.heap.objs.size + 1, s1.heap.objs.size], _, _, H1, rfl, I2, turn_enumT a (s1.heap.objs.size + 1) s1.heap.objs.size, ⟨⟨.none, he⟩, hit, Nat.succ_ne_self _⟩, fun b hb => ?_, q⟩
    have e' : b = s1.heap.objs.size + 1 ∨ b = s1.heap.objs.size := by simpa using hb
    have hle : s1.heap.objs.size ≤ b := by
      rcases e' with z | z
      · rw [z]; exact Nat.le_add_right _ _
      · rw [z]; exact Nat.le_refl _
    exact I1.fpOk hle (I1.hok.fresh hle)
/-- the walk -/
theorem walk_enumT {K : PySem.W.Frag} {a : Addr} {xs : List V} : Walk (IteT K a) xs.length (fun H => SqT K H a xs) (YPair (fun i => some (.int (i : Nat))) (fun i => xs[i]?)) where
  stops := fun H h => ⟨xs, h, rfl⟩
  goes := fun i H hi h => ⟨xs, xs[i], h, List.getElem?_eq_getElem hi⟩
  yields := fun i H x H' hi h y => by
    obtain ⟨T, x', e1, e2, e3, e4⟩ := y
    exact ⟨T, _, x', e1, e2, e3, rfl, e4 xs h⟩
end Cs

set_option Elab.async false
set_option linter.all false
set_option maxRecDepth 100000
set_option maxHeartbeats 8000000
set_option pp.maxSteps 600
/-! Rules.broken, x in rules -/
namespace Cs
open PySem L2 NdefX
def PMc : RCl → Option Int → Prop
  | .al => fun _ => True
  | _ => PS1
def gC : RCl → Int → Option Int → Int → Bool
  | .al => g0
  | _ => g1
theorem pm_of {r : RuD} (h : r.ok) : PMc r.c r.m := by
  have h := h.2.2.2
  revert h
  cases r.c <;> intro h
  · exact trivial
  all_goals exact h
theorem gC_holds {r : RuD} (h : r.ok) (T : Int) : gC r.c r.l r.m T = holdsR T r := by
  have h := h.2.2.2
  unfold holdsR
  revert h
  cases r.c <;> intro h
  · have h : r.m = none := h
    rw [h]
    show decide (r.l ≤ T) = (decide (r.l ≤ T) && true)
    rw [Bool.and_true]
  all_goals
    obtain ⟨n, hn⟩ := h
    rw [hn]
    show (decide (T ≤ n) && decide (r.l ≤ T)) = (decide (r.l ≤ T) && decide (T ≤ n))
    exact Bool.and_comm _ _
/-- the rules that do not hold -/
def brk (rs : List RuD) (t : Tab) (i : Nat) : Bool := okOf rs (fun r => !holdsR (tot t r.ks) r) i
def brkN (rs : List RuD) (t : Tab) : List Int := ((List.range rs.length).filter (brk rs t)).map Int.ofNat
def inR (rs : List RuD) (ks : List Str) (t : Tab) : Bool := (rs.all fun r => holdsR (tot t r.ks) r) && ks.all fun z => decide (0 ≤ val t z)
def spBroken (a : RAd) (C D : Addr) : Sp := fun vs H Q _ => ∃ (p ev q : Addr) (ps : List V) (rs : List RuD) (ks ls : List Str) (t : Tab), vs = [.ref p, .ref q] ∧ RlAt a D H p ev ps rs ks ls ∧ (∃ d, Cnt C H q d t) ∧ rs.length ≤ 4 ∧ ∀ T H', H T = none → Same H H' → H' T = some (.tup ((brkN rs t).map V.int)) → Q (.ref T) H'
def spInR (K : PySem.W.Frag) (a : RAd) (C D : Addr) : Sp := fun vs H Q _ => ∃ (p ev : Addr) (ps : List V) (rs : List RuD) (ks ls : List Str) (x : V), vs = [.ref p, x] ∧ RlAt a D H p ev ps rs ks ls ∧ rs.length ≤ 4 ∧ ks.length ≤ 4 ∧ (∀ z ∈ ks, Kind z) ∧
  ((∃ q t, x = .ref q ∧ (∃ d, Cnt C H q d t) ∧ ∀ H', Same H H' → Q (.bl (inR rs ks t)) H') ∨ (∃ ty, TyX K H x ty ∧ PySem.W.kitOne K ty (.ref C) = some false ∧ Q (.bl false) H))
section
variable {P : Program} {w : World} {K : PySem.W.Frag} {mg : Str → Option Value} {base : Heap}
theorem ok_contains {C D f fGe : Addr} {fd fdGe : FuncData} {a : RAd} (F : Fun K "__contains__" "Rules.__contains__" s_Rules_contains f fd) (g : Bi mg) (Wo : RWo K mg a) (RK : RsC K D) (mCo : mg "Counts" = some (.ref C)) (WH : MW P w K mg base CX0 9 a "holds" (fun c => spH a c C (PMc c) (gC c))) (ci : CI K C) (SGe : GDef P w K mg base CX0 2 C "__getitem__" ["self", "word"] (spGet C) fGe fdGe) : FnOk P w K mg base CX0 10 f fd ["self", "counts"] (spInR K a C D) := by
  refine F.ok sc_Rules_contains (fun vs H Q E h => ?_) (fun cdv A outer s H vs Q E hr h => ?_)
  · obtain ⟨_, _, _, _, _, _, _, rfl, _⟩ := h
    rfl
  · obtain ⟨p, ev, ps, rs, ks, ls, x, rfl, hRl, hr4, hk4, hkd, hcase⟩ := h
    obtain ⟨dx, R, kt, lt, ct, lz, xs, hp, hR, hrs, hkt, _⟩ := hRl
    have hlp := hrs.len
    have hrH : Room 9 _ := hr
    have hrGe : Room 3 _ := hr.mono (by decide)
    refine ⟨_, (pss_cons (ps_if (pt_not (pt_val (pe_callB call_isi (by rfl) g.isinstance (by decide +kernel) (pa_cons (pv 1) (pa_cons (pe_glob (v := .ref C) rfl mCo rfl) pa_nil))))) (pss_one (ps_ret pe_bl)) pss_nil)
      (pss_cons (ps_if (pt_not (pt_val (pe_callB (cr_all rfl) (by rfl) g.all (by decide +kernel) (pa_cons (pe_lc (own := [("rule", 3)]) (g := gName 3) (te := (tMethP a "holds" _ _ _ _))  (by rfl) sc_Rules_contains.nd (pi_tup (pe_fld (pv 0) rfl)) (blkOk_by (own := [("rule", 3)]) (N := ["self", "counts", "kind", "rule"]) (sc := defScope s_Rules_contains) (by decide +kernel)) (fun _ _ _ _ _ => (pg_name (i := 3) sc_Rules_contains.nd rfl (Or.inl rfl))) (fun _ _ _ _ _ => pts_nil) (fun _ _ _ _ _ => (pe_methP (pv 3) WH hrH pass0 (pa_cons (pv 1) pa_nil)))) pa_nil)))) (pss_one (ps_ret pe_bl)) pss_nil)
      (pss_one (ps_ret (pe_callB (cr_all rfl) (by rfl) g.all (by decide +kernel) (pa_cons (pe_lc (own := [("kind", 2)]) (g := gName 2)  (by rfl) sc_Rules_contains.nd (pi_tup (pe_fld (pv 0) rfl)) (blkOk_by (own := [("kind", 2)]) (N := ["self", "counts", "kind", "rule"]) (sc := defScope s_Rules_contains) (by decide +kernel)) (fun _ _ _ _ _ => (pg_name (i := 2) sc_Rules_contains.nd rfl (Or.inl rfl))) (fun _ _ _ _ _ => pts_nil) (fun _ _ _ _ _ => (pe_cmpR op_ge (pe_ixO SGe.c SGe.fi SGe.ok hrGe SGe.b pass0 (pv 1) (pv 2)) pe_int (nomark _)))) pa_nil)))))), ?_⟩
    rcases hcase with ⟨q, t, rfl, ⟨d, hc⟩, k⟩ | ⟨ty, hty, hkit, k⟩
    rotate_left
    · exact ⟨_, rfl, _, _, _, _, false, rfl, .own C, hty, hkit, _, rfl, iteT k⟩
    obtain ⟨dxc, hob⟩ := hc.ob
    refine ⟨_, rfl, _, _, _, _, true, rfl, .own C, ci.ty hob, kit_self, _, rfl, iteF ?_⟩
    refine ⟨_, rfl, p, _, dx, _, _, rfl, hp, RK.cl, RK.nli, rfl, R, rfl, ⟨_, SqT.of hR⟩, fun T hT => lc_valsT (ys := rs.map fun r => V.bl (holdsR (tot t r.ks) r)) (by rw [List.length_map, hlp]) hR hT (by omega) (fun _ => rfl) (fun i y b ha hb H' s' Qe qk => ?_) fun H1 s1 hT1 => ?_⟩
    · obtain ⟨p', r, hr1, rfl, hrA, hro⟩ := (hrs.same s').at ha
      rw [List.getElem?_map, hr1] at hb
      obtain rfl := Option.some.inj hb
      obtain ⟨dx', kt', fs', hp', hkt', f1, f2, f3, f4⟩ := id hrA
      refine ⟨_, rfl, p', r.c, dx', fs', rfl, hp', f4 _ (by decide), _, rfl, p', q, r.l, r.m, r.ks, t, rfl, ⟨hrA, ⟨d, hc.same s'⟩, hro.1⟩, pm_of hro, fun H3 s3 => ?_⟩
      rw [gC_holds hro]
      exact qk H3 s3
    refine ⟨T, rs.map fun r => holdsR (tot t r.ks) r, rfl, SqL.of (by rw [hT1, List.map_map]; rfl), ?_⟩
    have e1 : (rs.map fun r => holdsR (tot t r.ks) r).all id = rs.all fun r => holdsR (tot t r.ks) r := by rw [List.all_map]; rfl
    rw [e1]
    have k' : ∀ H', Same H H' → Q (.bl ((rs.all fun r => holdsR (tot t r.ks) r) && ks.all fun z => decide (0 ≤ val t z))) H' := k
    cases eA : rs.all fun r => holdsR (tot t r.ks) r with
    | false =>
      rw [eA] at k'
      exact ⟨_, rfl, iteT (k' H1 s1)⟩
    | true =>
      rw [eA] at k'
      refine ⟨_, rfl, iteF ?_⟩
      have hp1 := s1 _ _ hp
      have hkt1 := s1 _ _ hkt
      have hc1 := hc.same s1
      refine ⟨_, rfl, p, _, dx, _, _, rfl, hp1, RK.cl, RK.nk, rfl, kt, rfl, ⟨_, SqT.of hkt1⟩, fun T2 hT2 => lc_valsT (ys := ks.map fun z => V.bl (decide (0 ≤ val t z))) (by rw [List.length_map, List.length_map]) hkt1 hT2 (by rw [List.length_map]; omega) (fun _ => rfl) (fun i y b ha hb H' s' Qe qk => ?_) fun H2 s2 hT3 => ?_⟩
      · rw [List.getElem?_map] at ha hb
        cases e : ks[i]? with
        | none => rw [e] at ha; cases ha
        | some z =>
          rw [e] at ha hb
          obtain rfl := Option.some.inj ha
          obtain rfl := Option.some.inj hb
          have hz := hkd z (List.mem_of_getElem? e)
          have hc' := hc1.same s'
          obtain ⟨dxc', hob'⟩ := hc'.ob
          exact ⟨_, rfl, _, rfl, q, dxc', _, rfl, hob', q, d, t, z, rfl, hz.1, hc', fun H3 s3 => ⟨_, _, rfl, rfl, qk H3 s3⟩⟩
      · refine ⟨T2, ks.map fun z => decide (0 ≤ val t z), rfl, SqL.of (by rw [hT3, List.map_map]; rfl), ?_⟩
        have e2 : (ks.map fun z => decide (0 ≤ val t z)).all id = ks.all fun z => decide (0 ≤ val t z) := by rw [List.all_map]; rfl
        rw [e2]
        exact k' H2 (s1.trans s2)
end
end Cs

set_option Elab.async false
set_option linter.all false
set_option maxRecDepth 100000
set_option maxHeartbeats 8000000
set_option pp.maxSteps 600
/-! The law's rows of rules. -/
namespace Cs
open PySem L2 NdefX
/-- a row: mode, low, high, kinds -/
structure LRow where
  md : Nat
  lo : Int
  hi : Int
  ks : List Str
def LRow.ok (r : LRow) : Prop := r.md ≤ 3 ∧ Bnd9 r.lo ∧ Bnd9 r.hi ∧ r.lo ≤ r.hi ∧ Kinds r.ks
def LRow.rd (r : LRow) : RuD := ⟨rowC r.md, rowL r.lo r.md, rowM r.lo r.hi r.md, r.ks⟩
/-- a row's tuple; its list of kinds is none of av -/
def LwAt (av : List Addr) (H : Hp) (x : V) (r : LRow) : Prop := ∃ T nl, x = .ref T ∧ H T = some (.tup [.int (r.md : Int), .int r.lo, .int r.hi, .ref nl]) ∧ H nl = some (.lst (r.ks.map V.str)) ∧ nl ∉ av
theorem LwAt.keep {av av' : List Addr} {H H' : Hp} {x : V} {r : LRow} (h : LwAt av H x r) (kT : ∀ b xs, H b = some (.tup xs) → H' b = some (.tup xs)) (kL : ∀ b xs, b ∉ av → H b = some (.lst xs) → H' b = some (.lst xs) ∧ b ∉ av') : LwAt av' H' x r := by
  obtain ⟨T, nl, e, h1, h2, h3⟩ := h
  exact ⟨T, nl, e, kT _ _ h1, (kL _ _ h3 h2).1, (kL _ _ h3 h2).2⟩
theorem LwAt.same {av : List Addr} {H H' : Hp} {x : V} {r : LRow} (s : Same H H') (h : LwAt av H x r) : LwAt av H' x r := h.keep (fun _ _ e => s _ _ e) fun _ _ n e => ⟨s _ _ e, n⟩
theorem LwAt.kp {av : List Addr} {H H' : Hp} {x : V} {r : LRow} {q d : Addr} (S : Src H q d) (k : Kp q H H') (m : q ∈ av) (h : LwAt av H x r) : LwAt av H' x r := by
  obtain ⟨o, ho⟩ := S.at_p
  exact h.keep (fun _ _ e => k _ _ e (ne_of e ho (by intro z; cases z))) fun b _ n e => ⟨k _ _ e fun q => n (by rw [q]; exact m), n⟩
theorem rd_ok {r : LRow} (h : r.ok) : r.rd.ok := by
  obtain ⟨h1, h2, h3, h4, h5⟩ := h
  refine ⟨h5, ?_, ?_, ?_⟩
  · show Bnd9 (rowL r.lo r.md)
    match r.md, h1 with
    | 0, _ => exact h2
    | 1, _ => show Bnd9 0; exact ⟨by decide, by decide⟩
    | 2, _ => exact h2
    | 3, _ => exact h2
  · show ∀ n, rowM r.lo r.hi r.md = some n → Bnd9 n
    intro n
    match r.md, h1 with
    | 0, _ => intro e; cases e
    | 1, _ => intro e; cases e; exact h3
    | 2, _ => intro e; cases e; exact h3
    | 3, _ => intro e; cases e; exact h2
  · show PMx (rowC r.md) (rowM r.lo r.hi r.md)
    match r.md, h1 with
    | 0, _ => exact rfl
    | 1, _ => exact ⟨_, rfl⟩
    | 2, _ => exact ⟨_, rfl⟩
    | 3, _ => exact ⟨_, rfl⟩
theorem cut_low (xs : List V) (n : Nat) : cutV xs none (some (n : Int)) = xs.take n := by
  unfold cutV
  have h1 : HT.sIx xs.length 0 none = 0 := rfl
  have h2 : HT.sIx xs.length xs.length (some (n : Int)) = min n xs.length := by
    unfold HT.sIx
    simp
    omega
  rw [h1, h2, List.drop_zero, Nat.sub_zero]
  rcases Nat.le_total n xs.length with h | h
  · rw [Nat.min_eq_left h]
  · rw [Nat.min_eq_right h, List.take_length, List.take_of_length_le h]
theorem cut_high (xs : List V) (n : Nat) : cutV xs (some (n : Int)) none = xs.drop n := by
  unfold cutV
  have h1 : HT.sIx xs.length xs.length none = xs.length := rfl
  have h2 : HT.sIx xs.length 0 (some (n : Int)) = min n xs.length := by
    unfold HT.sIx
    simp
    omega
  rw [h1, h2]
  rcases Nat.le_total n xs.length with h | h
  · rw [Nat.min_eq_left h, List.take_of_length_le (by rw [List.length_drop]; exact Nat.le_refl _)]
  · rw [Nat.min_eq_right h, List.drop_length, List.drop_of_length_le h, List.take_nil]
theorem paired_take {α β : Type} {F : α → β → Prop} : ∀ (n : Nat) {xs : List α} {ys : List β}, Paired F xs ys → Paired F (xs.take n) (ys.take n)
  | 0, _, _, _ => .nil
  | _ + 1, _, _, .nil => .nil
  | n + 1, _, _, .cons h t => .cons h (paired_take n t)
theorem paired_drop {α β : Type} {F : α → β → Prop} : ∀ (n : Nat) {xs : List α} {ys : List β}, Paired F xs ys → Paired F (xs.drop n) (ys.drop n)
  | 0, _, _, h => h
  | _ + 1, _, _, .nil => .nil
  | n + 1, _, _, .cons _ t => paired_drop n t
theorem paired_app {α β : Type} {F : α → β → Prop} : ∀ {xs : List α} {ys : List β} {us : List α} {vs : List β}, Paired F xs ys → Paired F us vs → Paired F (xs ++ us) (ys ++ vs)
  | _, _, _, _, .nil, h => h
  | _, _, _, _, .cons h t, k => .cons h (paired_app t k)
/-- one row more -/
theorem add_row {p Rw T nl : Addr} {H : Hp} {xs : List V} {rws : List LRow} {r : LRow} (hR : H Rw = some (.lst xs)) (hP : Paired (LwAt [p, Rw] H) xs rws) (hT : H T = none) (hnl : H nl = some (.lst (r.ks.map V.str))) (hn : nl ∉ [p, Rw]) :
    Paired (LwAt [p, Rw] (upd (upd H T (.tup [.int (r.md : Int), .int r.lo, .int r.hi, .ref nl])) Rw (.lst (xs ++ [.ref T])))) (xs ++ [.ref T]) (rws ++ [r]) := by
  have s1 : Same H (upd H T (.tup [.int (r.md : Int), .int r.lo, .int r.hi, .ref nl])) := Same.new hT
  have gT : (upd H T (.tup [.int (r.md : Int), .int r.lo, .int r.hi, .ref nl])) T = some (.tup [.int (r.md : Int), .int r.lo, .int r.hi, .ref nl]) := upd_same
  generalize upd H T (.tup [.int (r.md : Int), .int r.lo, .int r.hi, .ref nl]) = H1 at s1 gT
  have hR1 := s1 _ _ hR
  have kT : ∀ b zs, H1 b = some (.tup zs) → (upd H1 Rw (.lst (xs ++ [.ref T]))) b = some (.tup zs) := fun b zs e => by
    rw [upd_ne (ne_of e hR1 (by intro z; cases z))]; exact e
  have kL : ∀ b zs, b ∉ [p, Rw] → H1 b = some (.lst zs) → (upd H1 Rw (.lst (xs ++ [.ref T]))) b = some (.lst zs) ∧ b ∉ [p, Rw] := fun b zs n e => by
    rw [upd_ne (fun q => n (by rw [q]; simp))]; exact ⟨e, n⟩
  refine Paired.snoc (L2.Paired.mapP hP fun _ _ h => (h.same s1).keep kT kL) ?_
  exact ⟨T, nl, rfl, kT _ _ gT, (kL _ _ hn (s1 _ _ hnl)).1, hn⟩
/-- the rows while they are drawn -/
structure RwInv (p c : Addr) (ks : List Str) (H H' : Hp) (Rw : Addr) (rws : List LRow) : Prop where
  at_ : ∃ xs, H' Rw = some (.lst xs) ∧ Paired (LwAt [p, Rw] H') xs rws
  src : Src H' p c
  kp : Kp p H H'
  ok : ∀ r ∈ rws, r.ok ∧ ∀ z ∈ r.ks, z ∈ ks
theorem RwInv.draw {p c Rw : Addr} {ks : List Str} {H H' H'' : Hp} {rws : List LRow} (h : RwInv p c ks H H' Rw rws) (n : Rw ≠ p) (S : Src H'' p c) (k : Kp p H' H'') : RwInv p c ks H H'' Rw rws := by
  obtain ⟨xs, h1, h2⟩ := h.at_
  exact ⟨⟨xs, k _ _ h1 n, L2.Paired.mapP h2 fun _ _ q => q.kp h.src k (by simp)⟩, S, h.kp.trans k, h.ok⟩
theorem RwInv.same {p c Rw : Addr} {ks : List Str} {H H' H'' : Hp} {rws : List LRow} (h : RwInv p c ks H H' Rw rws) (s : Same H' H'') : RwInv p c ks H H'' Rw rws := by
  obtain ⟨xs, h1, h2⟩ := h.at_
  exact ⟨⟨xs, s _ _ h1, L2.Paired.mapP h2 fun _ _ q => q.same s⟩, h.src.same s, h.kp.trans (Kp.of s), h.ok⟩
theorem RwInv.add {p c Rw T nl : Addr} {ks : List Str} {H H' : Hp} {xs : List V} {rws : List LRow} {r : LRow} (h : RwInv p c ks H H' Rw rws) (hN : H Rw = none) (nc : Rw ≠ c) (np : Rw ≠ p) (hR : H' Rw = some (.lst xs)) (hT : H' T = none) (hnl : H' nl = some (.lst (r.ks.map V.str))) (hn : nl ∉ [p, Rw]) (ho : r.ok) (hs : ∀ z ∈ r.ks, z ∈ ks) :
    RwInv p c ks H (upd (upd H' T (.tup [.int (r.md : Int), .int r.lo, .int r.hi, .ref nl])) Rw (.lst (xs ++ [.ref T]))) Rw (rws ++ [r]) := by
  obtain ⟨xs', h1, h2⟩ := h.at_
  obtain rfl : xs' = xs := by rw [h1] at hR; cases hR; rfl
  have s1 : Same H' (upd H' T (.tup [.int (r.md : Int), .int r.lo, .int r.hi, .ref nl])) := Same.new hT
  refine ⟨⟨_, upd_same, add_row h1 h2 hT hnl hn⟩, ?_, fun b o e n => ?_, fun q hq => ?_⟩
  · refine (h.src.same s1).keep fun b o hb e => ?_
    rw [upd_ne (by rcases hb with rfl | rfl; exact np.symm; exact nc.symm)]
    exact e
  · rw [upd_ne (ne_of_none e hN)]
    exact s1 _ _ (h.kp _ _ e n)
  · rcases List.mem_append.mp hq with q1 | q1
    · exact h.ok q q1
    · rw [List.mem_singleton.mp q1]
      exact ⟨ho, hs⟩
structure LRows (ks : List Str) (rws : List LRow) : Prop where
  lo : 1 ≤ rws.length
  hi : rws.length ≤ 4
  ok : ∀ r ∈ rws, r.ok
  sub : ∀ r ∈ rws, ∀ z ∈ r.ks, z ∈ ks
  cov : ∀ z ∈ ks, ∃ r ∈ rws, z ∈ r.ks ∧ 1 ≤ r.md ∧ r.hi ≤ (if ks.length < 4 then 9 else 4)
def spLRows : Sp := fun vs H Q _ => ∃ (p c kl : Addr) (ks : List Str), vs = [.ref p, .ref kl] ∧ Src H p c ∧ kl ≠ p ∧ H kl = some (.lst (ks.map V.str)) ∧ 1 ≤ ks.length ∧ ks.length ≤ 4 ∧ ks.Nodup ∧ (∀ z ∈ ks, Kind z) ∧
  ∀ (q : Addr) (H' : Hp) (xs : List V) (rws : List LRow), H q = none → H' q = some (.lst xs) → Paired (LwAt [p] H') xs rws → LRows ks rws → Src H' p c → Kp p H H' → Q (.ref q) H'
def spBounds : Sp := fun vs H Q _ => ∃ (x : V) (r : LRow), vs = [x] ∧ (∃ av, LwAt av H x r) ∧ r.ok ∧ ∀ t H', Same H H' → H' t = some (.tup [.int (rowL r.lo r.md), optV (rowM r.lo r.hi r.md)]) → Q (.ref t) H'
def spRuleL (a : RAd) : Sp := fun vs H Q _ => ∃ (x : V) (r : LRow), vs = [x] ∧ (∃ av, LwAt av H x r) ∧ r.ok ∧ ∀ p H', Same H H' → RulAt a H' p r.rd.c r.rd.l r.rd.m r.rd.ks → Q (.ref p) H'
section
variable {P : Program} {w : World} {K : PySem.W.Frag} {mg : Str → Option Value} {base : Heap}
theorem ok_bounds {f fEn : Addr} {fd fdEn : FuncData} (F : Fun K "_law_bounds" "_law_bounds" s_l_bounds f fd) (g : Bi mg) (FEn : Def P w K mg base CX0 1 "_law_ends" ["_law_low", "_law_high"] spEnds fEn fdEn) : FnOk P w K mg base CX0 2 f fd ["_law_row"] spBounds := by
  obtain ⟨GEn, mEn, _, bEn⟩ := id FEn
  refine F.ok sc_l_bounds (fun vs H Q E h => ?_) (fun cdv A outer s H vs Q E hr h => ?_)
  · obtain ⟨_, _, rfl, _⟩ := h
    rfl
  · obtain ⟨x, r, rfl, ⟨_, T, nl, rfl, hT, hnl, _⟩, hok, k⟩ := h
    have hrEn : Room 1 _ := hr
    obtain ⟨h1, h2, h3, h4, h5⟩ := hok
    refine ⟨_, (pss_one (ps_ret (pe_ix ix_list (pe_call GEn hrEn rfl mEn FEn.kp bEn .nil pass0 (pa_cons (pe_ix ix_tup (pv 0) pe_int (fun _ _ => rfl)) (pa_cons (pe_ix ix_tup (pv 0) pe_int (fun _ _ => rfl)) pa_nil))) (pe_ix ix_tup (pv 0) pe_int (fun _ _ => rfl)) (fun _ _ => rfl)))), ?_⟩
    refine ⟨_, rfl, T, _, 1, _, rfl, rfl, SqT.of hT, rfl, _, rfl, T, _, 2, _, rfl, rfl, SqT.of hT, rfl, r.lo, r.hi, rfl, fun e H1 he s1 hE => ?_⟩
    obtain ⟨ts, g1, g2, g3⟩ := hE
    refine ⟨_, rfl, T, _, 0, _, rfl, rfl, SqT.of (s1 _ _ hT), rfl, ?_⟩
    have hlt : r.md < ts.length := by omega
    have hget : ts[r.md]? = some ts[r.md] := List.getElem?_eq_getElem hlt
    exact ⟨e, _, (r.md : Int), .ref ts[r.md], rfl, rfl, SqL.of g1, atI_nat (by rw [List.getElem?_map, hget]; rfl), k _ _ s1 (g3 _ _ hget)⟩
theorem ok_ruleL {f fFo : Addr} {fd fdFo : FuncData} {a : RAd} (F : Fun K "_law_rule" "_law_rule" s_l_rule f fd) (g : Bi mg) (FFo : Def P w K mg base CX0 9 "_law_four" ["_law_low", "_law_high", "_law_kinds_here"] (spFour a) fFo fdFo) : FnOk P w K mg base CX0 10 f fd ["_law_row"] (spRuleL a) := by
  obtain ⟨GFo, mFo, _, bFo⟩ := id FFo
  refine F.ok sc_l_rule (fun vs H Q E h => ?_) (fun cdv A outer s H vs Q E hr h => ?_)
  · obtain ⟨_, _, rfl, _⟩ := h
    rfl
  · obtain ⟨x, r, rfl, ⟨_, T, nl, rfl, hT, hnl, _⟩, hok, k⟩ := h
    have hrFo : Room 9 _ := hr
    obtain ⟨h1, h2, h3, h4, h5⟩ := hok
    refine ⟨_, (pss_one (ps_ret (pe_ix ix_list (pe_call GFo hrFo rfl mFo FFo.kp bFo .nil pass0 (pa_cons (pe_ix ix_tup (pv 0) pe_int (fun _ _ => rfl)) (pa_cons (pe_ix ix_tup (pv 0) pe_int (fun _ _ => rfl)) (pa_cons (pe_ix ix_tup (pv 0) pe_int (fun _ _ => rfl)) pa_nil)))) (pe_ix ix_tup (pv 0) pe_int (fun _ _ => rfl)) (fun _ _ => rfl)))), ?_⟩
    refine ⟨_, rfl, T, _, 1, _, rfl, rfl, SqT.of hT, rfl, _, rfl, T, _, 2, _, rfl, rfl, SqT.of hT, rfl, _, rfl, T, _, 3, _, rfl, rfl, SqT.of hT, rfl, r.lo, r.hi, nl, r.ks, rfl, h2, h3, h4, hnl, h5, fun e H1 he s1 hE => ?_⟩
    obtain ⟨ts, g1, g2, g3⟩ := hE
    refine ⟨_, rfl, T, _, 0, _, rfl, rfl, SqT.of (s1 _ _ hT), rfl, ?_⟩
    have hlt : r.md < ts.length := by omega
    have hget : ts[r.md]? = some ts[r.md] := List.getElem?_eq_getElem hlt
    exact ⟨e, _, (r.md : Int), .ref ts[r.md], rfl, rfl, SqL.of g1, atI_nat (by rw [List.getElem?_map, hget]; rfl), k _ _ s1 (g3 _ _ hget)⟩
theorem ok_rows {f fD : Addr} {fd fdD : FuncData} (F : Fun K "_law_rows" "_law_rows" s_l_rows f fd) (g : Bi mg) (FD : Def P w K mg base CX0 2 "_law_draw" ["_law_source_here", "_law_size"] spDraw fD fdD) : FnOk P w K mg base CX0 3 f fd ["_law_source_here", "_law_kinds_here"] spLRows := by
  obtain ⟨GD, mD, _, bD⟩ := id FD
  refine F.ok sc_l_rows (fun vs H Q E h => ?_) (fun cdv A outer s H vs Q E hr h => ?_)
  · obtain ⟨_, _, _, _, rfl, _⟩ := h
    rfl
  · obtain ⟨p, c, kl, ks, rfl, S0, nkp, hkl, hk1, hk4, hnd, hkd, k⟩ := h
    have hrD : Room 2 _ := hr
    refine ⟨_, (pss_cons (ps_set (i := 2) sc_l_rows.nd rfl (Or.inl rfl) (pe_callB call_len (by rfl) g.len PySem.boot_len (pa_cons (pv 1) pa_nil)))
      (C8.pss_cut (ps_set (i := 3) sc_l_rows.nd rfl (Or.inl rfl) (pe_op op_add pe_int (pe_call GD hrD rfl mD FD.kp bD .nil pass0 (pa_cons (pv 0) (pa_cons (pe_ifExp (pt_cmpR op_gt (pv 2) pe_int (nomark _)) pe_int (pv 2)) pa_nil)))))
      (pss_cons (ps_set (i := 4) sc_l_rows.nd rfl (Or.inl rfl) (pe_lst pa_nil))
      (pss_cons (ps_for PassesOwn.never rfl (pi_list (pe_lst (pa_cons (pe_slice sl_list (pv 1) po_none (po_some (pv 3))) (pa_cons (pe_slice sl_list (pv 1) (po_some (pv 3)) po_none) pa_nil)))) (pg_name (i := 5) sc_l_rows.nd rfl (Or.inl rfl)) (pss_one (ps_if (pt_cmpR op_gt (pe_callB call_len (by rfl) g.len PySem.boot_len (pa_cons (pv 5) pa_nil)) pe_int (nomark _)) (pss_cons (ps_set (i := 6) sc_l_rows.nd rfl (Or.inl rfl) (pe_op op_add pe_int (pe_call GD hrD rfl mD FD.kp bD .nil pass0 (pa_cons (pv 0) (pa_cons pe_int pa_nil)))))
      (C8.pss_cut (ps_set (i := 7) sc_l_rows.nd rfl (Or.inl rfl) (pe_call GD hrD rfl mD FD.kp bD .nil pass0 (pa_cons (pv 0) (pa_cons (pe_ifExp (pt_cmpR op_lt (pv 2) pe_int (nomark _)) pe_int pe_int) pa_nil))))
      (pss_one (ps_expr (pe_bm PySem.F.plainAttrs_list PySem.F.slot_list_append PySem.F.type_list_append mt_append (pv 4) (pa_cons (pe_tup (pa_cons (pv 6) (pa_cons (pe_call GD hrD rfl mD FD.kp bD .nil pass0 (pa_cons (pv 0) (pa_cons (pe_op op_add (pv 7) pe_int) pa_nil))) (pa_cons (pv 7) (pa_cons (pv 5) pa_nil))))) pa_nil)))))) pss_nil)))
      (pss_cons (ps_for PassesOwn.never rfl (pi_range1 rfl g.range (pa_cons (pe_call GD hrD rfl mD FD.kp bD .nil pass0 (pa_cons (pv 0) (pa_cons (pe_op op_sub pe_int (pe_callB call_len (by rfl) g.len PySem.boot_len (pa_cons (pv 4) pa_nil))) pa_nil))) pa_nil)) (pg_name (i := 8) sc_l_rows.nd rfl (Or.inl rfl)) (pss_cons (ps_set (i := 9) sc_l_rows.nd rfl (Or.inl rfl) (pe_call GD hrD rfl mD FD.kp bD .nil pass0 (pa_cons (pv 0) (pa_cons (pv 2) pa_nil))))
      (pss_cons (ps_set (i := 5) sc_l_rows.nd rfl (Or.inl rfl) (pe_slice sl_list (pe_op op_cat (pe_slice sl_list (pv 1) (po_some (pv 9)) po_none) (pe_slice sl_list (pv 1) po_none (po_some (pv 9)))) po_none (po_some (pe_op op_add pe_int (pe_call GD hrD rfl mD FD.kp bD .nil pass0 (pa_cons (pv 0) (pa_cons pe_int pa_nil)))))))
      (pss_cons (ps_set (i := 6) sc_l_rows.nd rfl (Or.inl rfl) (pe_call GD hrD rfl mD FD.kp bD .nil pass0 (pa_cons (pv 0) (pa_cons pe_int pa_nil))))
      (pss_cons (ps_set (i := 7) sc_l_rows.nd rfl (Or.inl rfl) (pe_call GD hrD rfl mD FD.kp bD .nil pass0 (pa_cons (pv 0) (pa_cons pe_int pa_nil))))
      (pss_one (ps_expr (pe_bm PySem.F.plainAttrs_list PySem.F.slot_list_append PySem.F.type_list_append mt_append (pv 4) (pa_cons (pe_tup (pa_cons (pv 6) (pa_cons (pe_call GD hrD rfl mD FD.kp bD .nil pass0 (pa_cons (pv 0) (pa_cons (pe_op op_add (pv 7) pe_int) pa_nil))) (pa_cons (pv 7) (pa_cons (pv 5) pa_nil))))) pa_nil)))))))))
      (pss_cons (ps_set (i := 10) sc_l_rows.nd rfl (Or.inl rfl) (pe_call GD hrD rfl mD FD.kp bD .nil pass0 (pa_cons (pv 0) (pa_cons (pe_callB call_len (by rfl) g.len PySem.boot_len (pa_cons (pv 4) pa_nil)) pa_nil))))
      (pss_one (ps_ret (pe_op op_cat (pe_slice sl_list (pv 4) (po_some (pv 10)) po_none) (pe_slice sl_list (pv 4) po_none (po_some (pv 10)))))))))))), ?_⟩
    refine ⟨_, rfl, _, _, rfl, .inl ⟨_, SqL.of hkl, rfl⟩, ?_⟩
    rw [List.length_map]
    refine ⟨fun σ H1 => ∃ f : Nat, σ = [some (.ref p), some (.ref kl), some (.int (ks.length : Nat)), some (.int (f : Int)), none, none, none, none, none, none, none] ∧ 1 ≤ f ∧ f ≤ 3 ∧ f ≤ ks.length ∧ Src H1 p c ∧ Kp p H H1, ?_, ?_⟩
    · refine ⟨_, rfl, _, rfl, _, _, rfl, rfl, _, rfl, ite2 (fun z1 => ?_) (fun z1 => ?_)⟩
      · have h1 : (3 : Int) < (ks.length : Int) := of_decide_eq_true z1
        refine ⟨p, c, 3, rfl, S0, by decide, by decide, fun v H1 v0 v1 S1 k1 => ⟨1, v, rfl, rfl, (1 + v).toNat, ?_, by omega, by omega, by omega, S1, k1⟩⟩
        rw [Int.toNat_of_nonneg (by omega)]
        rfl
      · have h1 : ¬ (3 : Int) < (ks.length : Int) := fun e => z1 (decide_eq_true e)
        refine ⟨_, rfl, p, c, _, rfl, S0, by omega, by omega, fun v H1 v0 v1 S1 k1 => ⟨1, v, rfl, rfl, (1 + v).toNat, ?_, by omega, by omega, by omega, S1, k1⟩⟩
        rw [Int.toNat_of_nonneg (by omega)]
        rfl
    rintro σ' H1 ⟨f, rfl, hf1, hf3, hfl, S1, k1⟩
    refine ⟨Nat.zero_le _, fun Rw hRw => ?_⟩
    obtain ⟨op, hop⟩ := S0.at_p
    have S0' := S0
    obtain ⟨_, _, _, _, _, hcc, ncp, _⟩ := S0'
    have hRw0 : H Rw = none := by
      cases e : H Rw with
      | none => rfl
      | some o =>
        rcases Nat.decEq Rw p with q | q
        · rw [k1 _ _ e q] at hRw; cases hRw
        · obtain ⟨o1, ho1⟩ := S1.at_p
          rw [q, ho1] at hRw; cases hRw
    have nRp : Rw ≠ p := (ne_of_none hop hRw0).symm
    have nRc : Rw ≠ c := (ne_of_none hcc hRw0).symm
    have s2 : Same H1 (upd H1 Rw (.lst [])) := Same.new hRw
    have gR2 : (upd H1 Rw (.lst [])) Rw = some (.lst []) := upd_same
    generalize upd H1 Rw (.lst []) = H2 at s2 gR2
    have hkl2 := s2 _ _ (k1 _ _ hkl nkp)
    have k2 := k1.trans (Kp.of s2)
    have S2 := S1.same s2
    refine ⟨_, rfl, _, rfl, _, rfl, kl, _, rfl, SqL.of hkl2, fun n1 hn1 => ?_⟩
    rw [cut_low, ← List.map_take]
    have s3 : Same H2 (upd H2 n1 (.lst ((ks.take f).map V.str))) := Same.new hn1
    have g1 : (upd H2 n1 (.lst ((ks.take f).map V.str))) n1 = some (.lst ((ks.take f).map V.str)) := upd_same
    generalize upd H2 n1 (.lst ((ks.take f).map V.str)) = H3 at s3 g1
    refine ⟨_, rfl, _, rfl, _, rfl, kl, _, rfl, SqL.of (s3 _ _ hkl2), fun n2 hn2 => ?_⟩
    rw [cut_high, ← List.map_drop]
    have s4 : Same H3 (upd H3 n2 (.lst ((ks.drop f).map V.str))) := Same.new hn2
    have g2 : (upd H3 n2 (.lst ((ks.drop f).map V.str))) n2 = some (.lst ((ks.drop f).map V.str)) := upd_same
    generalize upd H3 n2 (.lst ((ks.drop f).map V.str)) = H4 at s4 g2
    refine ⟨by show 2 ≤ sizeLine; decide, fun L hL => ?_⟩
    have s5 : Same H4 (upd H4 L (.lst [.ref n1, .ref n2])) := Same.new hL
    have g3 : (upd H4 L (.lst [.ref n1, .ref n2])) L = some (.lst [.ref n1, .ref n2]) := upd_same
    generalize upd H4 L (.lst [.ref n1, .ref n2]) = H5 at s5 g3
    have s35 := (s3.trans s4).trans s5
    have g15 := s5 _ _ (s4 _ _ g1)
    have g25 := s5 _ _ g2
    have inv5 : RwInv p c ks H H5 Rw [] := ⟨⟨[], s35 _ _ gR2, .nil⟩, S2.same s35, k2.trans (Kp.of s35), fun r h => by cases h⟩
    generalize hB : (if ks.length < 4 then (9 : Int) else 4) = B at *
    have hn1p : n1 ≠ p := fun e => by obtain ⟨o, ho⟩ := S2.at_p; rw [e, ho] at hn1; cases hn1
    have hn1R : n1 ≠ Rw := fun e => by rw [e, gR2] at hn1; cases hn1
    have hn2p : n2 ≠ p := fun e => by obtain ⟨o, ho⟩ := (S2.same s3).at_p; rw [e, ho] at hn2; cases hn2
    have hn2R : n2 ≠ Rw := fun e => by rw [e, s3 _ _ gR2] at hn2; cases hn2
    have hLp : L ≠ p := fun e => by obtain ⟨o, ho⟩ := ((S2.same s3).same s4).at_p; rw [e, ho] at hL; cases hL
    have hLR : L ≠ Rw := fun e => by rw [e, s4 _ _ (s3 _ _ gR2)] at hL; cases hL
    have hkR : kl ≠ Rw := ne_of_none hkl hRw0
    have hkl5 := s35 _ _ hkl2
    refine ⟨L, rfl, ⟨_, SqL.of g3⟩, for_list (K := K) (a := L) (xs := [.ref n1, .ref n2]) (fun i σ' H' => ∃ (x5 x6 x7 : Option V) (rws : List LRow), σ' = [some (.ref p), some (.ref kl), some (.int (ks.length : Nat)), some (.int (f : Int)), some (.ref Rw), x5, x6, x7, none, none, none] ∧ RwInv p c ks H H' Rw rws ∧ rws.length ≤ i ∧
      (∀ z ∈ (([ks.take f, ks.drop f] : List (List Str)).take i).flatten, ∃ r ∈ rws, z ∈ r.ks ∧ 1 ≤ r.md ∧ r.hi ≤ B) ∧ ∀ b o, H5 b = some o → b ≠ p → b ≠ Rw → H' b = some o) ⟨_, _, _, [], rfl, inv5, Nat.le_refl _, (fun z hz => by cases hz), fun _ _ e _ _ => e⟩ (fun i σ' H' _ ⟨_, _, _, _, _, _, _, _, h⟩ => SqL.of (h _ _ g3 hLp hLR)) ?_ ?_⟩
    · rintro i y σ' H' hy ⟨x5, x6, x7, rws, rfl, inv, hrl, hcov, K5⟩
      obtain ⟨nl, nk, rfl, hnl, hnp, hnR, hn3, hnd', hsub, htk⟩ : ∃ (nl : Addr) (nk : List Str), y = .ref nl ∧ H5 nl = some (.lst (nk.map V.str)) ∧ nl ≠ p ∧ nl ≠ Rw ∧ nk.length ≤ 3 ∧ nk.Nodup ∧ (∀ z ∈ nk, z ∈ ks) ∧ (([ks.take f, ks.drop f] : List (List Str)).take (i + 1)).flatten = (([ks.take f, ks.drop f] : List (List Str)).take i).flatten ++ nk := by
        match i, hy with
        | 0, hy =>
          cases hy
          exact ⟨n1, ks.take f, rfl, g15, hn1p, hn1R, by rw [List.length_take]; omega, hnd.sublist (List.take_sublist _ _), fun z hz => List.mem_of_mem_take hz, by simp⟩
        | 1, hy =>
          cases hy
          exact ⟨n2, ks.drop f, rfl, g25, hn2p, hn2R, by rw [List.length_drop]; omega, hnd.sublist (List.drop_sublist _ _), fun z hz => List.mem_of_mem_drop hz, by simp⟩
        | n + 2, hy => cases hy
      have hnl' := K5 _ _ hnl hnp hnR
      refine ⟨_, rfl, _, _, rfl, .inl ⟨_, SqL.of hnl', rfl⟩, _, _, rfl, rfl, _, rfl, ite2 (fun z1 => ?_) (fun z1 => ?_)⟩
      · have h1 : (0 : Int) < ((nk.map V.str).length : Int) := of_decide_eq_true z1
        rw [List.length_map] at h1
        refine ⟨_, rfl, p, c, 3, rfl, inv.src, by decide, by decide, fun v H6 v0 v1 S6 k6 => ⟨1, v, rfl, rfl, ?_⟩⟩
        have inv6 := inv.draw nRp S6 k6
        have K6 : ∀ b o, H5 b = some o → b ≠ p → b ≠ Rw → H6 b = some o := fun b o e a1 a2 => k6 _ _ (K5 b o e a1 a2) a1
        refine ⟨fun σ H7 => ∃ hi : Int, σ = [some (.ref p), some (.ref kl), some (.int (ks.length : Nat)), some (.int (f : Int)), some (.ref Rw), some (.ref nl), some (.int (1 + v)), some (.int hi), none, none, none] ∧ 0 ≤ hi ∧ hi ≤ B ∧ RwInv p c ks H H7 Rw rws ∧ ∀ b o, H5 b = some o → b ≠ p → b ≠ Rw → H7 b = some o, ?_, ?_⟩
        · have fin : ∀ (n : Int) (v2 : Int) (H7 : Hp), 0 ≤ v2 → v2 ≤ B → Src H7 p c → Kp p H6 H7 → ∃ hi : Int, ([some (.ref p), some (.ref kl), some (.int (ks.length : Nat)), some (.int (f : Int)), some (.ref Rw), some (.ref nl), some (.int (1 + v)), some (.int v2), none, none, none] : L2.St) = [some (.ref p), some (.ref kl), some (.int (ks.length : Nat)), some (.int (f : Int)), some (.ref Rw), some (.ref nl), some (.int (1 + v)), some (.int hi), none, none, none] ∧ 0 ≤ hi ∧ hi ≤ B ∧ RwInv p c ks H H7 Rw rws ∧ ∀ b o, H5 b = some o → b ≠ p → b ≠ Rw → H7 b = some o :=
            fun n v2 H7 a0 a1 S7 k7 => ⟨v2, rfl, a0, a1, inv6.draw nRp S7 k7, fun b o e b1 b2 => k7 _ _ (K6 b o e b1 b2) b1⟩
          refine ⟨_, rfl, _, rfl, _, _, rfl, rfl, _, rfl, ite2 (fun z2 => ?_) (fun z2 => ?_)⟩
          · have h2 : (ks.length : Int) < 4 := of_decide_eq_true z2
            rw [if_pos (show ks.length < 4 by omega)] at hB
            exact ⟨p, c, 10, rfl, S6, by decide, by decide, fun v2 H7 a0 a1 S7 k7 => fin 0 v2 H7 a0 (by omega) S7 k7⟩
          · have h2 : ¬ (ks.length : Int) < 4 := fun e => z2 (decide_eq_true e)
            rw [if_neg (show ¬ ks.length < 4 by omega)] at hB
            exact ⟨p, c, 5, rfl, S6, by decide, by decide, fun v2 H7 a0 a1 S7 k7 => fin 0 v2 H7 a0 (by omega) S7 k7⟩
        rintro σ7 H7 ⟨hi, rfl, hh0, hhB, inv7, K7⟩
        have hB9 : B ≤ 9 := by rw [← hB]; split <;> decide
        obtain ⟨xs, hRx, hPx⟩ := inv7.at_
        refine ⟨_, rfl, .inl ⟨rfl, _, SqL.of hRx⟩, _, rfl, _, rfl, _, rfl, _, _, rfl, rfl, p, c, hi + 1, rfl, inv7.src, by omega, by omega, fun lo H8 l0 l1 S8 k8 => ?_⟩
        have inv8 := inv7.draw nRp S8 k8
        have K8 : ∀ b o, H5 b = some o → b ≠ p → b ≠ Rw → H8 b = some o := fun b o e a1 a2 => k8 _ _ (K7 b o e a1 a2) a1
        obtain ⟨xs8, hRx8, hPx8⟩ := inv8.at_
        refine ⟨_, rfl, _, rfl, by show 4 ≤ sizeLine; decide, fun T hT => ?_⟩
        have hxl : xs8.length = rws.length := hPx8.length
        have em : ((1 + v).toNat : Int) = 1 + v := Int.toNat_of_nonneg (by omega)
        have hok : LRow.ok ⟨(1 + v).toNat, lo, hi, nk⟩ := ⟨by show (1 + v).toNat ≤ 3; omega, ⟨by show 0 ≤ lo; omega, by show lo ≤ 9; omega⟩, ⟨hh0, by show hi ≤ 9; omega⟩, by show lo ≤ hi; omega, ⟨by show 1 ≤ nk.length; omega, hn3, hnd', fun z hz => hkd z (hsub z hz)⟩⟩
        have A := inv8.add (r := ⟨(1 + v).toNat, lo, hi, nk⟩) hRw0 nRc nRp hRx8 hT (K8 _ _ hnl hnp hnR) (by simp [hnp, hnR]) hok hsub
        dsimp only at A
        rw [em] at A
        have s9 : Same H8 (upd H8 T (.tup [.int (1 + v), .int lo, .int hi, .ref nl])) := Same.new hT
        refine ⟨Rw, xs8, _, rfl, rfl, s9 _ _ hRx8, ?_, _, _, _, _, rfl, A, ?_, ?_, fun b o e a1 a2 => ?_⟩
        · exact Nat.lt_of_le_of_lt (show xs8.length ≤ 100 by
            have : i < 2 := by
              match i, hy with
              | 0, _ => decide
              | 1, _ => decide
              | n + 2, hy => cases hy
            omega) (by decide)
        · rw [List.length_append]
          exact Nat.succ_le_succ hrl
        · intro z hz
          rw [htk] at hz
          rcases List.mem_append.mp hz with q | q
          · obtain ⟨r, hr, hz2⟩ := hcov z q
            exact ⟨r, List.mem_append.mpr (.inl hr), hz2⟩
          · exact ⟨_, List.mem_append.mpr (.inr (List.mem_singleton.mpr rfl)), q, by show 1 ≤ (1 + v).toNat; omega, hhB⟩
        · rw [upd_ne a2]
          exact s9 _ _ (K8 b o e a1 a2)
      · have h1 : ¬ (0 : Int) < ((nk.map V.str).length : Int) := fun e => z1 (decide_eq_true e)
        rw [List.length_map] at h1
        have : nk = [] := List.eq_nil_of_length_eq_zero (by omega)
        subst this
        rw [htk, List.append_nil]
        exact ⟨_, _, _, rws, rfl, inv, by omega, hcov, K5⟩
    · rintro σ' H6 ⟨x5, x6, x7, rws, rfl, inv6, hrl, hcov, K6⟩
      have hrl : rws.length ≤ 2 := hrl
      have hcov : ∀ z ∈ ks, ∃ r ∈ rws, z ∈ r.ks ∧ 1 ≤ r.md ∧ r.hi ≤ B := fun z hz => hcov z (by
        show z ∈ ([ks.take f, ks.drop f] : List (List Str)).flatten
        rw [← List.take_append_drop f ks] at hz
        simpa using hz)
      have hr1 : 1 ≤ rws.length := by
        obtain ⟨z, hz⟩ := List.exists_mem_of_length_pos (show 0 < ks.length by omega)
        obtain ⟨r, hr, _⟩ := hcov z hz
        exact List.length_pos_of_mem hr
      obtain ⟨xs6, hRx6, hPx6⟩ := inv6.at_
      have hxl6 : xs6.length = rws.length := hPx6.length
      refine ⟨_, rfl, _, rfl, _, _, rfl, .inl ⟨_, SqL.of hRx6, rfl⟩, _, _, rfl, rfl, p, c, _, rfl, inv6.src, by omega, by omega, fun m H7 m0 m1 S7 k7 => ⟨m, rfl, by omega, by omega, ?_⟩⟩
      have inv7 := inv6.draw nRp S7 k7
      refine for_range (lo := 0) (n := m.toNat) (fun i σ' H' => ∃ (x5 x6 x7 x8 x9 : Option V) (rws' : List LRow), σ' = [some (.ref p), some (.ref kl), some (.int (ks.length : Nat)), some (.int (f : Int)), some (.ref Rw), x5, x6, x7, x8, x9, none] ∧ RwInv p c ks H H' Rw rws' ∧ rws'.length = rws.length + i ∧ (∀ z ∈ ks, ∃ r ∈ rws', z ∈ r.ks ∧ 1 ≤ r.md ∧ r.hi ≤ B))
        ⟨_, _, _, _, _, rws, rfl, inv7, rfl, hcov⟩ ?_ ?_
      · rintro i σ' H' hi ⟨x5, x6, x7, x8, x9, rws', rfl, inv', hrl', hcov'⟩
        have hkl' := inv'.kp _ _ hkl nkp
        refine ⟨_, rfl, _, rfl, p, c, _, rfl, inv'.src, by omega, by omega, fun st H8 st0 st1 S8 k8 => ?_⟩
        have inv8 := inv'.draw nRp S8 k8
        obtain ⟨sn, rfl⟩ : ∃ sn : Nat, st = (sn : Int) := ⟨st.toNat, (Int.toNat_of_nonneg st0).symm⟩
        have hkl8 := inv8.kp _ _ hkl nkp
        refine ⟨_, rfl, _, rfl, _, rfl, kl, _, rfl, SqL.of hkl8, fun a1 ha1 => ?_⟩
        rw [cut_high, ← List.map_drop]
        have u1 : Same H8 (upd H8 a1 (.lst ((ks.drop sn).map V.str))) := Same.new ha1
        have b1 : (upd H8 a1 (.lst ((ks.drop sn).map V.str))) a1 = some (.lst ((ks.drop sn).map V.str)) := upd_same
        generalize upd H8 a1 (.lst ((ks.drop sn).map V.str)) = H9 at u1 b1
        refine ⟨_, rfl, _, rfl, _, rfl, kl, _, rfl, SqL.of (u1 _ _ hkl8), fun a2 ha2 => ?_⟩
        rw [cut_low, ← List.map_take]
        have u2 : Same H9 (upd H9 a2 (.lst ((ks.take sn).map V.str))) := Same.new ha2
        have b2 : (upd H9 a2 (.lst ((ks.take sn).map V.str))) a2 = some (.lst ((ks.take sn).map V.str)) := upd_same
        generalize upd H9 a2 (.lst ((ks.take sn).map V.str)) = HA at u2 b2
        refine ⟨a1, a2, _, _, rfl, rfl, u2 _ _ b1, b2, ?_, fun a3 ha3 => ?_⟩
        · rw [List.length_map, List.length_map, List.length_drop, List.length_take]
          exact Nat.le_trans (show _ ≤ 100 by omega) (by decide)
        rw [← List.map_append]
        have u3 : Same HA (upd HA a3 (.lst ((ks.drop sn ++ ks.take sn).map V.str))) := Same.new ha3
        have b3 : (upd HA a3 (.lst ((ks.drop sn ++ ks.take sn).map V.str))) a3 = some (.lst ((ks.drop sn ++ ks.take sn).map V.str)) := upd_same
        generalize upd HA a3 (.lst ((ks.drop sn ++ ks.take sn).map V.str)) = HB at u3 b3
        have invB := inv8.same ((u1.trans u2).trans u3)
        have n3p : a3 ≠ p := fun e => by obtain ⟨o, ho⟩ := (inv8.same (u1.trans u2)).src.at_p; rw [e, ho] at ha3; cases ha3
        refine ⟨_, rfl, p, c, 3, rfl, invB.src, by decide, by decide, fun v HC v0 v1 SC kC => ⟨1, v, rfl, rfl, _, rfl, a3, _, rfl, SqL.of (kC _ _ b3 n3p), fun nl hnl => ?_⟩⟩
        have invC := invB.draw nRp SC kC
        have ev : (1 : Int) + v = ((1 + v).toNat : Int) := (Int.toNat_of_nonneg (by omega)).symm
        rw [ev, cut_low, ← List.map_take]
        generalize hnk : (ks.drop sn ++ ks.take sn).take (1 + v).toNat = nk
        have hsub : ∀ z ∈ nk, z ∈ ks := fun z hz => by
          rw [← hnk] at hz
          rcases List.mem_append.mp (List.mem_of_mem_take hz) with q | q
          · exact List.mem_of_mem_drop q
          · exact List.mem_of_mem_take q
        have hnd' : nk.Nodup := by
          rw [← hnk]
          have h0 : (ks.take sn ++ ks.drop sn).Nodup := by rw [List.take_append_drop]; exact hnd
          exact ((List.perm_append_comm.nodup_iff).mp h0).sublist (List.take_sublist _ _)
        have hnl3 : nk.length ≤ 3 ∧ 1 ≤ nk.length := by
          rw [← hnk, List.length_take, List.length_append, List.length_drop, List.length_take]
          omega
        have u4 : Same HC (upd HC nl (.lst (nk.map V.str))) := Same.new hnl
        have b4 : (upd HC nl (.lst (nk.map V.str))) nl = some (.lst (nk.map V.str)) := upd_same
        have hnp : nl ≠ p := fun e => by obtain ⟨o, ho⟩ := invC.src.at_p; rw [e, ho] at hnl; cases hnl
        have hnR : nl ≠ Rw := fun e => by obtain ⟨_, ho, _⟩ := invC.at_; rw [e, ho] at hnl; cases hnl
        generalize upd HC nl (.lst (nk.map V.str)) = HD at u4 b4
        have invD := invC.same u4
        refine ⟨_, rfl, p, c, 4, rfl, invD.src, by decide, by decide, fun md HE md0 md1 SE kE => ?_⟩
        have invE := invD.draw nRp SE kE
        refine ⟨_, rfl, p, c, 10, rfl, invE.src, by decide, by decide, fun hi HF hi0 hi1 SF kF => ?_⟩
        have invF := invE.draw nRp SF kF
        have bF := kF _ _ (kE _ _ b4 hnp) hnp
        obtain ⟨xsF, hRF, _⟩ := invF.at_
        refine ⟨_, rfl, .inl ⟨rfl, _, SqL.of hRF⟩, _, rfl, _, rfl, _, rfl, _, _, rfl, rfl, p, c, hi + 1, rfl, invF.src, by omega, by omega, fun lo HG l0 l1 SG kG => ?_⟩
        have invG := invF.draw nRp SG kG
        obtain ⟨xs8, hRx8, hPx8⟩ := invG.at_
        refine ⟨_, rfl, _, rfl, by show 4 ≤ sizeLine; decide, fun T hT => ?_⟩
        have hxl : xs8.length = rws'.length := hPx8.length
        obtain ⟨mn, rfl⟩ : ∃ mn : Nat, md = (mn : Int) := ⟨md.toNat, (Int.toNat_of_nonneg md0).symm⟩
        have hok : LRow.ok ⟨mn, lo, hi, nk⟩ := ⟨by show mn ≤ 3; omega, ⟨by show 0 ≤ lo; omega, by show lo ≤ 9; omega⟩, ⟨hi0, by show hi ≤ 9; omega⟩, by show lo ≤ hi; omega, ⟨hnl3.2, hnl3.1, hnd', fun z hz => hkd z (hsub z hz)⟩⟩
        have A := invG.add (r := ⟨mn, lo, hi, nk⟩) hRw0 nRc nRp hRx8 hT (kG _ _ bF hnp) (by simp [hnp, hnR]) hok hsub
        have s9 : Same HG (upd HG T (.tup [.int (mn : Int), .int lo, .int hi, .ref nl])) := Same.new hT
        refine ⟨Rw, xs8, _, rfl, rfl, s9 _ _ hRx8, ?_, _, _, _, _, _, _, rfl, A, ?_, ?_⟩
        · exact Nat.lt_of_le_of_lt (show xs8.length ≤ 100 by omega) (by decide)
        · rw [List.length_append, hrl']
          rfl
        · intro z hz
          obtain ⟨r, hr, hz2⟩ := hcov' z hz
          exact ⟨r, List.mem_append.mpr (.inl hr), hz2⟩
      · rintro σ' H8 ⟨x5, x6, x7, x8, x9, rws', rfl, inv8, hrl', hcov'⟩
        obtain ⟨xs8, hRx8, hPx8⟩ := inv8.at_
        have hxl : xs8.length = rws'.length := hPx8.length
        refine ⟨_, rfl, _, rfl, _, _, rfl, .inl ⟨_, SqL.of hRx8, rfl⟩, p, c, _, rfl, inv8.src, by omega, by omega, fun tn H9 t0 t1 S9 k9 => ?_⟩
        have inv9 := inv8.draw nRp S9 k9
        obtain ⟨tm, rfl⟩ : ∃ tm : Nat, tn = (tm : Int) := ⟨tn.toNat, (Int.toNat_of_nonneg t0).symm⟩
        have hRx9 := k9 _ _ hRx8 nRp
        refine ⟨_, rfl, _, rfl, _, rfl, Rw, _, rfl, SqL.of hRx9, fun a1 ha1 => ?_⟩
        rw [cut_high]
        have u1 : Same H9 (upd H9 a1 (.lst (xs8.drop tm))) := Same.new ha1
        have b1 : (upd H9 a1 (.lst (xs8.drop tm))) a1 = some (.lst (xs8.drop tm)) := upd_same
        generalize upd H9 a1 (.lst (xs8.drop tm)) = HA at u1 b1
        refine ⟨_, rfl, _, rfl, _, rfl, Rw, _, rfl, SqL.of (u1 _ _ hRx9), fun a2 ha2 => ?_⟩
        rw [cut_low]
        have u2 : Same HA (upd HA a2 (.lst (xs8.take tm))) := Same.new ha2
        have b2 : (upd HA a2 (.lst (xs8.take tm))) a2 = some (.lst (xs8.take tm)) := upd_same
        generalize upd HA a2 (.lst (xs8.take tm)) = HB at u2 b2
        refine ⟨a1, a2, _, _, rfl, rfl, u2 _ _ b1, b2, ?_, fun a3 ha3 => ?_⟩
        · rw [List.length_drop, List.length_take]
          exact Nat.le_trans (show _ ≤ 100 by omega) (by decide)
        have u3 : Same HB (upd HB a3 (.lst (xs8.drop tm ++ xs8.take tm))) := Same.new ha3
        have u123 := (u1.trans u2).trans u3
        have invZ := inv9.same u123
        have ha30 : H a3 = none := by
          cases e : H a3 with
          | none => rfl
          | some o =>
            rcases Nat.decEq a3 p with q | q
            · rw [(u1.trans u2) _ _ (inv9.kp _ _ e q)] at ha3; cases ha3
            · obtain ⟨o1, ho1⟩ := (inv9.same (u1.trans u2)).src.at_p
              rw [q, ho1] at ha3; cases ha3
        obtain ⟨xsZ, hRZ, hPZ⟩ := invZ.at_
        obtain rfl : xsZ = xs8 := by rw [u123 _ _ hRx9] at hRZ; cases hRZ; rfl
        have hPZ' : Paired (LwAt [p] (upd HB a3 (.lst (xsZ.drop tm ++ xsZ.take tm)))) xsZ rws' := L2.Paired.mapP hPZ fun _ _ h => h.keep (fun _ _ e => e) fun b _ n e => ⟨e, fun q => n (by rw [List.mem_singleton.mp q]; simp)⟩
        have hall : (rws'.drop tm ++ rws'.take tm).length = rws'.length := by rw [List.length_append, List.length_drop, List.length_take]; omega
        have hmem : ∀ r, r ∈ rws'.drop tm ++ rws'.take tm ↔ r ∈ rws' := fun r => by
          rw [List.mem_append]
          conv => rhs; rw [← List.take_append_drop tm rws']
          rw [List.mem_append]
          exact Or.comm
        refine k a3 _ _ (rws'.drop tm ++ rws'.take tm) ha30 upd_same ?_ ⟨by omega, by omega, fun r hr => (inv8.ok r ((hmem r).mp hr)).1, fun r hr => (inv8.ok r ((hmem r).mp hr)).2, fun z hz => ?_⟩ invZ.src invZ.kp
        · exact paired_app (paired_drop tm hPZ') (paired_take tm hPZ')
        · obtain ⟨r, hr, h1, h2, h3⟩ := hcov' z hz
          exact ⟨r, (hmem r).mpr hr, h1, h2, by rw [hB]; exact h3⟩
end
end Cs

set_option Elab.async false
set_option linter.all false
set_option maxRecDepth 100000
set_option maxHeartbeats 8000000
set_option pp.maxSteps 600
/-! The rows make rules. -/
namespace Cs
open PySem L2 NdefX
theorem minL_some {ns : List Int} {m : Int} (h : m ∈ ns) : ∃ n, minL ns = some n ∧ n ∈ ns ∧ n ≤ m := by
  cases ns with
  | nil => cases h
  | cons x xs =>
    refine ⟨xs.foldl min x, rfl, ?_, ?_⟩
    · rcases foldl_min_mem xs x with q | q
      · rw [q]; exact List.mem_cons_self
      · exact List.mem_cons_of_mem _ q
    · obtain ⟨h1, h2⟩ := foldl_min_le xs x
      rcases List.mem_cons.mp h with q | q
      · rw [q]; exact h1
      · exact h2 m q
theorem mem_mosts {rs : List RuD} {k : Str} {m : Int} : m ∈ mostsOf rs k ↔ ∃ r ∈ rs, k ∈ r.ks ∧ r.m = some m := by
  unfold mostsOf
  rw [List.mem_filterMap]
  constructor
  · rintro ⟨r, hr, e⟩
    by_cases q : k ∈ r.ks
    · rw [if_pos q] at e
      exact ⟨r, hr, q, e⟩
    · rw [if_neg q] at e
      cases e
  · rintro ⟨r, hr, q, e⟩
    exact ⟨r, hr, by rw [if_pos q]; exact e⟩
theorem prodN_pow {cs : List Int} {B : Nat} (h : ∀ c ∈ cs, 0 ≤ c ∧ c ≤ (B : Int)) : prodN cs ≤ (B + 1) ^ cs.length := by
  suffices k : ∀ i, i ≤ cs.length → prodN (cs.take i) ≤ (B + 1) ^ i by
    have := k cs.length (Nat.le_refl _)
    rwa [List.take_length] at this
  intro i
  induction i with
  | zero => intro _; exact Nat.le_refl _
  | succ i ih =>
    intro hi
    have e : cs[i]? = some cs[i] := List.getElem?_eq_getElem hi
    rw [prodN_take cs i _ e, Nat.pow_succ]
    obtain ⟨h1, h2⟩ := h cs[i] (List.getElem_mem hi)
    exact Nat.mul_le_mul (ih (Nat.le_of_succ_le hi)) (by omega)
theorem most_of {r : LRow} (h : r.ok) (h1 : 1 ≤ r.md) : ∃ m, r.rd.m = some m ∧ m ≤ r.hi := by
  obtain ⟨a1, a2, a3, a4, a5⟩ := h
  show ∃ m, rowM r.lo r.hi r.md = some m ∧ m ≤ r.hi
  match r.md, a1, h1 with
  | 1, _, _ => exact ⟨r.hi, rfl, Int.le_refl _⟩
  | 2, _, _ => exact ⟨r.hi, rfl, Int.le_refl _⟩
  | 3, _, _ => exact ⟨r.lo, rfl, a4⟩
theorem LRows.rsOk {ks kz ls : List Str} {rws : List LRow} (h : LRows ks rws) (h4 : ks.length ≤ 4) (ha : Asc kz) (hm : ∀ z, z ∈ kz ↔ z ∈ ks) (hl : kz.length = ks.length) (l2 : ls.length ≤ 2) (lk : ∀ z ∈ ls, Kind z ∧ z ∉ ks) (nd : ls.Nodup) : RsOk (rws.map LRow.rd) kz ls := by
  have hcap : ∀ k ∈ kz, ∃ n, capOf (rws.map LRow.rd) k = some n ∧ Bnd9 n ∧ n ≤ (if ks.length < 4 then 9 else 4) := by
    intro k hk
    obtain ⟨r, hr, h1, h2, h3⟩ := h.cov k ((hm k).mp hk)
    obtain ⟨m, hm1, hm2⟩ := most_of (h.ok r hr) h2
    obtain ⟨n, hn1, hn2, hn3⟩ := minL_some (mem_mosts.mpr ⟨r.rd, List.mem_map_of_mem hr, h1, hm1⟩)
    refine ⟨n, hn1, ?_, by omega⟩
    obtain ⟨q, hq, _, hqm⟩ := mem_mosts.mp hn2
    obtain ⟨r', hr', rfl⟩ := List.mem_map.mp hq
    exact (rd_ok (h.ok r' hr')).2.2.1 n hqm
  refine ⟨by rw [List.length_map]; exact h.lo, by rw [List.length_map]; exact h.hi, ha, fun z => ?_, by omega, fun k hk => ?_, ?_, l2, fun z hz => ⟨(lk z hz).1, fun q => (lk z hz).2 ((hm z).mp q)⟩, nd⟩
  · rw [hm]
    constructor
    · intro hz
      obtain ⟨r, hr, h1, _⟩ := h.cov z hz
      exact ⟨r.rd, List.mem_map_of_mem hr, h1⟩
    · rintro ⟨q, hq, hz⟩
      obtain ⟨r, hr, rfl⟩ := List.mem_map.mp hq
      exact h.sub r hr z hz
  · obtain ⟨n, h1, h2, _⟩ := hcap k hk
    exact ⟨n, h1, h2⟩
  · have hc : ∀ c ∈ capsN (rws.map LRow.rd) kz, 0 ≤ c ∧ c ≤ (if ks.length < 4 then 9 else 4) := fun c hc => by
      obtain ⟨z, hz, rfl⟩ := List.mem_map.mp hc
      obtain ⟨n, h1, h2, h3⟩ := hcap z hz
      rw [h1]
      exact ⟨h2.1, h3⟩
    have hlen : (capsN (rws.map LRow.rd) kz).length = ks.length := by unfold capsN; rw [List.length_map, hl]
    by_cases q : ks.length < 4
    · rw [if_pos q] at hc
      have := prodN_pow (B := 9) hc
      rw [hlen] at this
      exact Nat.le_trans this (Nat.le_trans (Nat.pow_le_pow_right (by decide) (show ks.length ≤ 3 by omega)) (by decide))
    · rw [if_neg q] at hc
      have := prodN_pow (B := 4) hc
      rw [hlen] at this
      exact Nat.le_trans this (Nat.le_trans (Nat.pow_le_pow_right (by decide) h4) (by decide))
end Cs

set_option Elab.async false
set_option linter.all false
set_option maxRecDepth 100000
set_option maxHeartbeats 8000000
/-! Sets of rules in laws: plain parts. -/
namespace Cs
open PySem L2 NdefX
theorem prl_get {H : Hp} : ∀ {xs : List V} {ps : List (Str × Int)}, PrL H xs ps → ∀ {i : Nat} {x : V}, xs[i]? = some x → ∃ t q, x = .ref t ∧ ps[i]? = some q ∧ H t = some (.tup [.str q.1, .int q.2])
  | _, _, .nil, _, _, h => by cases h
  | _, _, .cons ⟨t, e, ht⟩ r, 0, _, h => by
    cases h
    exact ⟨t, _, e, rfl, ht⟩
  | _, _, .cons _ r, i + 1, _, h => prl_get r (i := i) h
theorem or_it {b1 b2 : Bool} {A B : Prop} (hA : b1 = true ∨ b2 = true → A) (hB : b1 = false → b2 = false → B) : if b1 = true then A else if b2 = true then A else B := by
  cases b1 with
  | true => exact hA (.inl rfl)
  | false => cases b2 with
    | true => exact hA (.inr rfl)
    | false => exact hB rfl rfl
theorem sum_bd {l : List Int} {a b : Int} (h : ∀ x ∈ l, a ≤ x ∧ x ≤ b) : a * l.length ≤ l.sum ∧ l.sum ≤ b * l.length := by
  induction l with
  | nil => simp
  | cons x l ih =>
    have h1 := h x List.mem_cons_self
    have h2 := ih fun y hy => h y (List.mem_cons_of_mem _ hy)
    rw [List.sum_cons, List.length_cons, Int.natCast_add, Int.mul_add, Int.mul_add]
    simp only [Int.natCast_one, Int.mul_one]
    omega
theorem small100 {n : Int} (h0 : -1000 ≤ n) (h1 : n ≤ 1000) : Small n := by
  unfold Small
  have : (10 : Int) ^ 30 = 1000000000000000000000000000000 := by decide
  rw [this]
  omega
theorem prl_set {H : Hp} {t : Addr} {q : Str × Int} (ht : H t = some (.tup [.str q.1, .int q.2])) : ∀ {xs : List V} {ps : List (Str × Int)} (i : Nat), PrL H xs ps → PrL H (xs.set i (.ref t)) (ps.set i q)
  | _, _, _, .nil => .nil
  | _, _, 0, .cons _ r => .cons ⟨t, rfl, ht⟩ r
  | _, _, i + 1, .cons h r => .cons h (prl_set ht i r)
theorem zip_set {z : Str} {n : Int} : ∀ {ks : List Str} {ns : List Int} {i : Nat}, ks[i]? = some z → (ks.zip ns).set i (z, n) = ks.zip (ns.set i n)
  | [], _, _, h => by cases h
  | k :: ks, [], _, _ => by simp
  | k :: ks, m :: ns, 0, h => by
    cases h
    rfl
  | k :: ks, m :: ns, i + 1, h => by
    rw [List.zip_cons_cons, List.set_cons_succ, List.set_cons_succ, List.zip_cons_cons, zip_set (i := i) h]
theorem mem_set {α : Type} {l : List α} {i : Nat} {a x : α} (h : x ∈ l.set i a) : x ∈ l ∨ x = a := List.mem_or_eq_of_mem_set h
theorem lw_get {av : List Addr} {H : Hp} {xs : List V} {rws : List LRow} (h : Paired (LwAt av H) xs rws) {i : Nat} (hi : i < rws.length) : ∃ x, xs[i]? = some x ∧ LwAt av H x rws[i] := by
  induction h generalizing i with
  | nil => exact absurd hi (Nat.not_lt_zero _)
  | cons hx _ ih =>
    cases i with
    | zero => exact ⟨_, rfl, hx⟩
    | succ i => exact ih (Nat.lt_of_succ_lt_succ hi)
theorem asc_ins {z : Str} : ∀ {l : List Str}, Asc l → z ∉ l → ∃ l', Asc l' ∧ l'.Perm (z :: l)
  | [], _, _ => ⟨[z], List.pairwise_singleton _ _, .refl _⟩
  | y :: l, h, n => by
    obtain ⟨h1, h2⟩ := List.pairwise_cons.mp h
    rw [List.mem_cons, not_or] at n
    by_cases q : SLt z y
    · exact ⟨z :: y :: l, List.pairwise_cons.mpr ⟨fun x hx => by
        rcases List.mem_cons.mp hx with e | e
        · rw [e]; exact q
        · exact slt_trans q (h1 x e), h⟩, .refl _⟩
    · obtain ⟨l', a, b⟩ := asc_ins h2 n.2
      refine ⟨y :: l', List.pairwise_cons.mpr ⟨fun x hx => ?_, a⟩, ?_⟩
      · rcases List.mem_cons.mp (b.mem_iff.mp hx) with e | e
        · rw [e]; exact slt_total q (fun e => n.1 e.symm)
        · exact h1 x e
      · exact (b.cons y).trans (.swap _ _ _)
theorem asc_of : ∀ {l : List Str}, l.Nodup → ∃ l', Asc l' ∧ l'.Perm l
  | [], _ => ⟨[], .nil, .refl _⟩
  | z :: l, h => by
    obtain ⟨h1, h2⟩ := List.nodup_cons.mp h
    obtain ⟨l', a, b⟩ := asc_of h2
    obtain ⟨l2, a2, b2⟩ := asc_ins a (z := z) (fun m => h1 (b.mem_iff.mp m))
    exact ⟨l2, a2, b2.trans (b.cons z)⟩
theorem merge_tv : ∀ (l t : Tab), (keys (t ++ l)).Nodup → mergeK (tv t) (tv l) = tv (t ++ l)
  | [], t, _ => by rw [List.append_nil]; rfl
  | q :: l, t, h => by
    have e : mergeK (tv t) (tv (q :: l)) = mergeK (putK (tv t) (Sum.inr q.1) (V.int q.2)) (tv l) := rfl
    have e2 : t ++ q :: l = (t ++ [q]) ++ l := by simp
    have hn : q.1 ∉ keys t := fun m => by
      unfold keys at h m
      rw [List.map_append, List.map_cons] at h
      exact (List.nodup_append.mp h).2.2 _ m _ List.mem_cons_self rfl
    have e3 : putK (tv t) (Sum.inr q.1) (V.int q.2) = tv (t ++ [q]) := by
      unfold putK
      rw [if_neg]
      · unfold tv; rw [List.map_append]; rfl
      · intro c
        rw [List.any_eq_true] at c
        obtain ⟨kv, m, c⟩ := c
        obtain ⟨r, mr, rfl⟩ := List.mem_map.mp m
        have : r.1 = q.1 := Sum.inr.inj (of_decide_eq_true c)
        exact hn (this ▸ List.mem_map_of_mem mr)
    rw [e, e3, merge_tv l (t ++ [q]) (by rw [← e2]; exact h), e2]
theorem prl_refs {K : PySem.W.Frag} {H : Hp} : ∀ {ys : List V} {l : Tab}, PrL H ys l → ∃ ps : List Addr, ys = ps.map V.ref ∧ Paired (fun (p : Addr) (kv : Key × V) => SqT K H p [kV kv.1, kv.2]) ps (tv l)
  | _, _, .nil => ⟨[], rfl, .nil⟩
  | _, _, .cons ⟨t, e, ht⟩ r => by
    obtain ⟨ps, e2, h⟩ := prl_refs (K := K) r
    exact ⟨t :: ps, by rw [e, e2]; rfl, .cons (SqT.of ht) h⟩
def pdn (ns : List Int) : PyData := .list (ns.map .int)
theorem pdn_can : ∀ ns : List Int, PyData.canLayAll0 (ns.map .int) = true
  | [] => rfl
  | n :: ns => by
    rw [List.map_cons, PyData.canLayAll0, pdn_can ns, PyData.canLay0]
    rfl
theorem pdn_depth : ∀ ns : List Int, PyData.depthAll (ns.map .int) = 0
  | [] => rfl
  | n :: ns => by
    rw [List.map_cons, PyData.depthAll, pdn_depth ns, PyData.depth]
    rfl
theorem pdn_shaped (ns : List Int) : SeqAt.shaped (pdn ns) = true := by
  unfold SeqAt.shaped pdn
  rw [Bool.and_eq_true]
  refine ⟨by rw [PyData.canLay0]; exact pdn_can ns, decide_eq_true ?_⟩
  rw [PyData.depth, pdn_depth]
  decide
theorem pdn_refl (ns : List Int) : PyData.eqv (pdn ns) (pdn ns) = true := SeqAt.eqv_refl _ (SeqAt.canLay_of_shaped (pdn_shaped ns))
theorem dp_ints {K : PySem.W.Frag} {H : Hp} : ∀ ns : List Int, DpAll K H (ns.map V.int) (ns.map .int)
  | [] => .nil
  | n :: ns => .cons (.int n) (dp_ints ns)
theorem pdn_nil (ns : List Int) : PyData.eqv (pdn ns) (pdn []) = decide (ns = []) := by
  cases ns with
  | nil => rfl
  | cons q r => simp [pdn, PyData.eqv, PyData.eqvAll]
theorem pds_nil (ns : List Str) : PyData.eqv (pds ns) (pds []) = decide (ns = []) := by
  cases ns with
  | nil => rfl
  | cons q r => simp [pds, PyData.eqv, PyData.eqvAll]
theorem bls_no : ∀ n : Nat, inV (.bl true) (List.replicate n (V.bl false)) = false
  | 0 => rfl
  | n + 1 => by
    rw [List.replicate_succ]
    show (eqV (.bl false) (.bl true) || inV (.bl true) (List.replicate n (V.bl false))) = false
    rw [bls_no n]
    rfl
theorem bls_flat (n : Nat) : (List.replicate n (V.bl false)).all flatV = true := by
  rw [List.all_eq_true]
  intro x hx
  rw [List.eq_of_mem_replicate hx]
  rfl
theorem RsAt.keepL {a : RAd} {H H' : Hp} {D : Addr} {zs : List V} {ps : List V} {rs : List RuD} (hD : H D = some (.lst zs)) (s : ∀ b o, H b = some o → b ≠ D → H' b = some o) (h : RsAt a H ps rs) : RsAt a H' ps rs := L2.Paired.mapP h fun _ _ ⟨p, e, r, k⟩ => by
  obtain ⟨dx', kt, fs, hp, hkt, f1, f2⟩ := r
  exact ⟨p, e, ⟨dx', kt, fs, s _ _ hp (ne_of hp hD (by intro z; cases z)), s _ _ hkt (ne_of hkt hD (by intro z; cases z)), f1, f2⟩, k⟩
theorem RsAt.kp {a : RAd} {H H' : Hp} {p c : Addr} {ps : List V} {rs : List RuD} (S : Src H p c) (k : Kp p H H') (h : RsAt a H ps rs) : RsAt a H' ps rs := by
  obtain ⟨o, ho⟩ := S.at_p
  exact h.keepL ho k
theorem RsAt.snoc {a : RAd} {H : Hp} {ps : List V} {rs : List RuD} {p : Addr} {r : RuD} (h : RsAt a H ps rs) (hr : RulAt a H p r.c r.l r.m r.ks) (ho : r.ok) : RsAt a H (ps ++ [.ref p]) (rs ++ [r]) := Paired.snoc h ⟨p, rfl, hr, ho⟩
theorem RowsAt.kp {H H' : Hp} {p c : Addr} {xs : List V} {rows : List (List Int)} (S : Src H p c) (k : Kp p H H') (h : RowsAt H xs rows) : RowsAt H' xs rows := h.keep fun b o e => k _ _ e (S.tup_p e)
theorem RlAt.kp {a : RAd} {C : Addr} {H H' : Hp} {q c p ev : Addr} {ps : List V} {rs : List RuD} {ks ls : List Str} (S : Src H q c) (k : Kp q H H') (n : ev ≠ q) (h : RlAt a C H p ev ps rs ks ls) : RlAt a C H' p ev ps rs ks ls := by
  obtain ⟨dx, R, kt, lt, ct, lz, xs, h1, h2, h3, h4, h5, h6, h7, h8, h9, h10⟩ := h
  obtain ⟨o, ho⟩ := S.at_p
  have ni : p ≠ q := ne_of h1 ho (by intro z; cases z)
  exact ⟨dx, R, kt, lt, ct, lz, xs, k _ _ h1 ni, k _ _ h2 (S.tup_p h2), h3.kp S k, k _ _ h4 (S.tup_p h4), k _ _ h5 (S.tup_p h5), h6, h7, k _ _ h8 (S.tup_p h8), k _ _ h9 n, h10.kp S k⟩
/-- what no counts are -/
def TY6 : List String := ["NoneType", "bool", "int", "list", "tuple", "str"]
def OtherTy (K : PySem.W.Frag) (H : Hp) (x : V) : Prop := ∃ ty, ty ∈ TY6 ∧ TyX K H x (.type ty)
theorem two_way {M : Hp → Prop} {G : Prop} {H0 : Hp} (h1 : (∀ H', Same H0 H' → M H') → G) (h2 : ∀ H', Same H0 H' → M H') : G := h1 h2
theorem brkN_congr {rs : List RuD} {u t : Tab} (h : ∀ z, val u z = val t z) : brkN rs u = brkN rs t := by
  have e : val u = val t := funext h
  unfold brkN brk tot
  rw [e]
theorem brkN_nil (rs : List RuD) (t : Tab) : decide (brkN rs t = []) = rs.all fun r => holdsR (tot t r.ks) r := by
  unfold brkN
  rw [Bool.eq_iff_iff, decide_eq_true_eq, List.map_eq_nil_iff, List.filter_eq_nil_iff, List.all_eq_true]
  constructor
  · intro h r hr
    obtain ⟨i, hi⟩ := List.mem_iff_getElem?.mp hr
    have := h i (List.mem_range.mpr (List.getElem?_eq_some_iff.mp hi).1)
    unfold brk okOf at this
    rw [hi] at this
    simpa using this
  · intro h i hi
    have hi := List.mem_range.mp hi
    unfold brk okOf
    rw [List.getElem?_eq_getElem hi]
    simpa using h _ (List.getElem_mem hi)
theorem below_nil (ks : List Str) (t : Tab) : decide (ks.filter (fun z => decide (val t z < 0)) = []) = ks.all fun z => decide (0 ≤ val t z) := by
  rw [Bool.eq_iff_iff, decide_eq_true_eq, List.filter_eq_nil_iff, List.all_eq_true]
  constructor
  · intro h z hz
    have := h z hz
    simp only [decide_eq_true_eq] at this ⊢
    omega
  · intro h z hz
    have := h z hz
    simp only [decide_eq_true_eq] at this ⊢
    omega
theorem all_perm {ks kz : List Str} {p : Str → Bool} (h : ∀ z, z ∈ kz ↔ z ∈ ks) : kz.all p = ks.all p := by
  rw [Bool.eq_iff_iff, List.all_eq_true, List.all_eq_true]
  exact ⟨fun q z hz => q z ((h z).mpr hz), fun q z hz => q z ((h z).mp hz)⟩
theorem zip_keys : ∀ {ks : List Str} {ns : List Int}, ns.length = ks.length → (ks.zip ns).map (·.1) = ks
  | [], [], _ => rfl
  | k :: ks, n :: ns, h => by
    rw [List.zip_cons_cons, List.map_cons, zip_keys (by simpa using h)]
theorem sumOf_cons (q : Str × Int) (l : List (Str × Int)) (z : Str) : sumOf (q :: l) z = (if q.1 = z then q.2 else 0) + sumOf l z := by
  unfold sumOf
  by_cases h : q.1 = z
  · rw [if_pos h, List.filter_cons_of_pos (by simpa using h)]
    rfl
  · rw [if_neg h, List.filter_cons_of_neg (by simpa using h)]
    omega
theorem sumOf_out : ∀ {l : List (Str × Int)} {z : Str}, z ∉ l.map (·.1) → sumOf l z = 0
  | [], _, _ => rfl
  | q :: l, z, h => by
    rw [List.map_cons, List.mem_cons, not_or] at h
    rw [sumOf_cons, if_neg (fun e => h.1 e.symm), sumOf_out h.2]
    rfl
theorem val_cons (q : Str × Int) (l : Tab) (z : Str) : val (q :: l) z = if q.1 = z then q.2 else val l z := by
  unfold val look
  rw [List.find?_cons]
  by_cases h : q.1 = z
  · rw [decide_eq_true h, if_pos h]
    rfl
  · rw [decide_eq_false h, if_neg h]
theorem val_sum : ∀ {l : Tab}, (keys l).Nodup → ∀ z, val l z = sumOf l z
  | [], _, _ => rfl
  | q :: l, h, z => by
    obtain ⟨h1, h2⟩ := List.nodup_cons.mp (show (q.1 :: keys l).Nodup from h)
    rw [val_cons, sumOf_cons]
    by_cases e : q.1 = z
    · rw [if_pos e, if_pos e, sumOf_out (by rw [← e]; exact h1)]
      omega
    · rw [if_neg e, if_neg e, val_sum h2]
      omega
end Cs

set_option Elab.async false
set_option linter.all false
set_option maxRecDepth 100000
set_option maxHeartbeats 4000000
/-! C.m(e, .., k=e2), m a classmethod; a def with defaults called by a keyword. -/
namespace Cs
open PySem PySem.Spec PyProof.Rows L2 ClX
section
variable {X : Cx} {pins : List (Addr × Obj)} {σ : L2.St} {H : Hp} {s : Shared} {C p g : Addr} {mc : Value} {nm m : Str}
theorem run_fnL {CX : CXT} {k : Nat} {f : Addr} {sp : Sp} {E : XK} {Q : VK} {us : List Value} {vs : List V} {u : Value} {v : V} (F : FnL X.prog X.w X.K X.mg X.base CX k f nm sp) (hr : Room k X.A) (hx : Passes CX X E) (I : Inv X pins σ H s) (r : Vals vs us) (ru : RelV v u) (h : sp (v :: vs) H Q E) :
    codeAny (model X.prog X.w) X.A (.call (.ref f) ⟨us, [(nm, u)]⟩) (fun r s' => match r with | .ok (.ret v) => EP X pins σ Q v s' | .ok _ => False | .error e => X.xe e s') s := by
  refine codeAny_mono (F X.A X.stack s H us vs u v Q E hr I.env0 r ru h) fun r s' hq => ?_
  cases r with
  | error e => exact hx pins σ H s e s' I hq
  | ok fl =>
    cases fl with
    | ret u => exact I.after hq
    | next => exact False.elim hq
    | brk => exact False.elim hq
    | cont => exact False.elim hq
theorem run_cmL {CX : CXT} {k : Nat} {q : Addr} {sp : Sp} {E : XK} {Q : VK} {us : List Value} {vs : List V} {u : Value} {v : V} (F : FnL X.prog X.w X.K X.mg X.base CX k g nm sp) (hr : Room k X.A) (hx : Passes CX X E) (I : Inv X ((q, PySem.W.methodObj (.ref g) (.ref C)) :: pins) σ H s)
    (r : Vals vs us) (ru : RelV v u) (h : sp (v :: .ref C :: vs) H Q E) : wpAny (model X.prog X.w) X.A (call (.ref q) us [(nm, u)]) (EP X pins σ Q) X.xe s := by
  have z : wpAny (model X.prog X.w) X.A (call (.ref q) us [(nm, u)]) (EP X ((q, PySem.W.methodObj (.ref g) (.ref C)) :: pins) σ Q) X.xe s :=
    wpAny_call (PySem.W.method_call (pin_at I) (run_fnL (us := .ref C :: us) (vs := .ref C :: vs) F hr hx I (.cons rfl r) ru h))
  exact thn z fun _ _ y => unpinE y
end
section
variable {X : Cx} {CX : CXT} {k : Nat} {C p g : Addr} {mc : Value} {nm m : Str} {sp : Sp} {E : XK} {o e e2 : Expr} {es : List Expr} {pos apos kp : Pos} {ta te2 : TE} {t : TA} {pl : Sem Bool}
def tCMethK (C : Addr) (sp : Sp) (E : XK) (ta : TE) (t : TA) (te2 : TE) : TE := fun σ H Q => ta σ H fun x H1 => x = .ref C ∧ t σ H1 fun vs H2 => te2 σ H2 fun v H3 => sp (v :: .ref C :: vs) H3 Q E
theorem pe_cmethK (he : PE X o ta) (r : CRead X.K C mc) (c : CMet X.K C mc m p g) (F : FnL X.prog X.w X.K X.mg X.base CX k g nm sp) (hr : Room k X.A) (hx : Passes CX X E) (ha : PA X (e :: es) t) (he2 : PE X e2 te2)
    (hall : (backToKw pos (keywordEach [⟨some nm, e2, kp⟩] X.env)).all (·.1.isSome) = true := by rfl) (hks : (backToKw pos (keywordEach [⟨some nm, e2, kp⟩] X.env)).filterMap (·.1) = [nm] := by rfl)
    (hst : starEach (e :: es) X.env = (false, eval e X.env) :: starEach es X.env := by rfl) (hpl : ((backTo pos (starEach (e :: es) X.env)).any (·.1) || (backToKw pos (keywordEach [⟨some nm, e2, kp⟩] X.env)).any (·.1.isNone)) = false := by rfl)
    (ht : eval (.Call (.Attribute o m apos) (e :: es) [⟨some nm, e2, kp⟩] pos) X.env = (do
      let ov ← eval o X.env
      standAt apos.atName
      let (f, first) ← holding [ov] (getMethod ov m pl)
      callWith pos f first (backTo pos (starEach (e :: es) X.env)) (backToKw pos (keywordEach [⟨some nm, e2, kp⟩] X.env))) := by rfl) :
    PE X (.Call (.Attribute o m apos) (e :: es) [⟨some nm, e2, kp⟩] pos) (tCMethK C sp E ta t te2) := by
  refine ⟨fun pins s σ H Q I h => ?_⟩
  refine PySem.W.methodCall_KW (pl := pl) (thn (he.run pins s σ H _ I h) fun u s1 ⟨x, H1, I1, rx, ex, q⟩ => ?_) ht
  subst ex
  obtain rfl : u = Value.ref C := rx
  refine getmethcm_ok I1 r c fun s2 I2 => ?_
  refine PySem.W.callWith_of hpl (PySem.W.keeps_M (self := .ref C) c.fi) (evalArgs_kw2 hall (thn (ha.run pos _ s2 σ H1 _ I2 q) fun us s3 ⟨vs, H2, I3, rv, q2⟩ => ?_) hst)
  refine thn ((pk_cons (kpos := kp) (nm := some nm) he2 pk_nil).run pos _ s3 σ H2 (fun zs H3 => match zs with
    | [z] => sp (z :: .ref C :: vs) H3 Q E
    | _ => False) I3 q2) fun ws s4 ⟨zs, H3, I4, rz, q3⟩ => ?_
  match zs, q3, rz with
  | [z], q3, .cons ru .nil =>
    rw [hks]
    exact ⟨⟨pin_at I4, I4.kIn⟩, run_cmL F hr hx I4 rv ru q3⟩
end
/-- a def with defaults, the last parameter by its name -/
theorem fnL_kw {P : Program} {w : World} {K : PySem.W.Frag} {mg : Str → Option Value} {base : Heap} {CX : CXT} {k n : Nat} {x qual nm : Str} {params : Arguments} {body : List Stmt} {scope : Scope} {dvs : List V} {f : Addr} {fd : FuncData} {ps : List Str} {sp : Sp}
    (F : FunD K x qual params body scope dvs [] f fd) (G : FnOk P w K mg base CX k f fd ps sp) (hd : dvs ≠ []) (hn : n + 1 = ps.length)
    (h : ∀ (T : Addr) (kV doc pm : Value) (an : Option Addr) (cdv ct : Value) (us its : List Value) (u : Value), us.length = n → its.length = dvs.length →
      ∃ k, bindArgs (PySem.W.fnOf x qual params body scope (.ref T) kV doc pm an cdv ct) ⟨us, [(nm, u)]⟩ = seqItems? (.ref T) >>= k ∧ k (some its.toArray) = pure (ps.zip (us ++ [u]))) :
    FnL P w K mg base CX k f nm (fun vs H Q E => ∃ v ws, vs = v :: ws ∧ sp (ws ++ [v]) H Q E) := by
  intro A outer s H us vs u v Q E hr e0 r ru hsp
  obtain ⟨v', ws, ev, hq⟩ := hsp
  obtain ⟨rfl, rfl⟩ := List.cons.inj ev
  have hl := G.len _ _ _ _ hq
  obtain ⟨oc, od, dV, kV, doc, pm, an, cdv, ct, osl, rfl, lk, hcd, hD, hK⟩ := F.ex
  rcases hD with ⟨e, _⟩ | ⟨_, T, o, its, m, rfl, lT, oT, rT⟩
  · exact absurd e hd
  have nu : us.length = n := by rw [← r.length]; rw [List.length_append] at hl; simp at hl; omega
  obtain ⟨kk, h1, h2⟩ := h T kV doc pm an cdv ct us its u nu rT.length.symm
  have X : K.In s.heap := fun b o e => (e0.bs b o (e0.mod.kin b o e)).1
  have bt : BindsTo s (PySem.W.fnOf x qual params body scope (.ref T) kV doc pm an cdv ct) ⟨us, [(nm, u)]⟩ (ps.zip (us ++ [u])) := PySem.W.binds_K X rfl lT oT h1 h2
  exact G.run A outer s H _ (us ++ [u]) (vs ++ [v]) Q E hr e0 bt (r.append (.cons ru .nil)) hq
end Cs

set_option Elab.async false
set_option linter.all false
set_option maxRecDepth 100000
set_option maxHeartbeats 4000000
/-! Own errors with one field. -/
namespace Cs
open PySem PySem.Spec PyProof.Rows L2
/-- __init__ of an own error: self.fld = y -/
def spXi (C : Addr) (fld : Str) : Sp := fun vs H Q _ => ∃ (a : Addr) (y : V), vs = [.ref a, y] ∧ H a = some (exo a C none) ∧ ∀ dx, H dx = none → dx ≠ a → Q .non (upd (upd H dx (exd dx [(fld, y)])) a (exo a C (some dx)))
theorem upd_back {H : Hp} {a dx : Addr} {o1 o2 o3 o4 : HO} (ha : H a = none) (n : dx ≠ a) : upd (del (upd (upd (upd H a o1) dx o2) a o3) a) dx o4 = upd H dx o4 := by
  funext b
  by_cases c : b = dx
  · subst c
    rw [upd_same, upd_same]
  · rw [upd_ne c, upd_ne c]
    by_cases e : b = a
    · subst e
      rw [del_same, ha]
    · rw [del_ne e, upd_ne e, upd_ne c, upd_ne e]
theorem xmk {C : Addr} {fld : Str} {y : V} {H1 : Hp} {Q : XK} (k : ∀ dx, H1 dx = none → Q (.ref C) (some dx) (upd H1 dx (.xd [(fld, y)]))) :
    ([y] : List V).length ≤ 1000 ∧ ∀ a, H1 a = none → spXi C fld (.ref a :: ([y] ++ [])) (upd H1 a (exo a C none)) (fun v H2 => v = .non ∧ ∃ (d : Addr) (fs : List (Str × V)), H2 a = some (exo a C (some d)) ∧ H2 d = some (exd d fs) ∧ H1 d = none ∧ Q (.ref C) (some d) (upd (del H2 a) d (.xd fs))) (fun _ _ _ => False) := by
  refine ⟨by show 1 ≤ 1000; decide, fun a ha => ⟨a, y, rfl, upd_same, fun dx hdx ne => ⟨rfl, dx, _, upd_same, by rw [upd_ne ne]; exact upd_same, ?_, ?_⟩⟩⟩
  · rw [upd_ne ne] at hdx
    exact hdx
  · rw [upd_back ha ne]
    exact k dx (by rw [upd_ne ne] at hdx; exact hdx)
/-- an error of the class at S is caught by its own name -/
theorem exm_self {K : PySem.W.Frag} {S : Addr} (h1 : PySem.W.subIn K (.ref S) (.type "BaseException") = some true) (h2 : PySem.W.isClsIn K S = true) (h3 : PySem.W.typeIn K (.ref S) = some (.type "type")) (h4 : PySem.W.subIn K (.ref S) (.ref S) = some true) : PySem.W.exmOne K (.ref S) (.ref S) = some true := by
  have h2' : (PySem.W.clsIn K S).isSome = true := h2
  unfold PySem.W.exmOne PySem.W.kitCls
  simp [h1, h2', h3, h4]
/-- an own error as those have it that raise it -/
structure XDef (P : Program) (w : World) (K : PySem.W.Frag) (mg : Str → Option Value) (base : Heap) (x : Str) (C fI : Addr) (fld : Str) (ps : List Str) (fd : FuncData) : Prop where
  c : OexC K C
  iC : PySem.W.findIn K (.ref C) "__init__" = some (some (.ref fI))
  tI : PySem.W.typeIn K (.ref fI) = some (.type "function")
  ok : FnOk P w K mg base CX0 1 fI fd ps (spXi C fld)
  b : Binds K fd ps []
  mg_ : mg x = some (.ref C)
  te : PySem.W.exmOne K (.ref C) (.ref C) = some true
end Cs

set_option Elab.async false
set_option linter.all false
set_option maxRecDepth 100000
set_option maxHeartbeats 4000000
/-! isinstance(e, C) of a caught error that has its own dict; defs that let nothing out after all. -/
namespace Cs
open PySem PySem.Spec PyProof.Rows L2
section
variable {prog : Program} {w : World} {A : Around} {E : Value → Shared → Prop} {s : Shared} {K : PySem.W.Frag} {x D : Addr} {ox od : Obj}
/-- e.__class__ of an error with a dict -/
theorem exd_class {Q : Option Value → Shared → Prop} (C : ExcC K D) (X : K.In s.heap) (I : PySem.W.InstAt s.heap x ox D (some od)) (h : Q (some (.ref D)) { s with toks := s.toks + 1 }) : wpAny (model prog w) A (getAttr? (.ref x) "__class__") Q E s := by
  have hf : PySem.W.findObj K D (some od) "__class__" = some (.bind (.builtin "getset_descriptor.__get__") (.builtin "object.__class__")) := PySem.W.findObj_data (by obtain ⟨cd, hc, _⟩ := PySem.W.any_some C.hd; rw [hc]; rfl) C.ha C.hn C.ht
  obtain ⟨hp, g, d, t, os⟩ := s
  have T0 := I.type (M := model prog w)
  have T1 := PySem.W.looks_findIn (M := model prog w) X C.hg
  have T2 := PySem.W.looks_findIn (M := model prog w) X C.hk
  have T3 := PySem.W.looks_find (M := model prog w) X I hf
  have up : PySem.W.Looks (model prog w) hp (isInstance (.ref x) (.type "BaseException")) true := T0.andThen (PySem.W.looks_subIn X C.hs)
  have e2 : (Value.builtin "BaseException.__getattribute__" == Value.builtin "object.__getattribute__") = false := by decide +kernel
  have e1 : (onTheHeap (Value.ref D) && Value.builtin "BaseException.__getattribute__" == Value.builtin "object.__getattribute__") = false := by rw [e2]; rfl
  unfold getAttr?; unfold getAttrBy?; unfold getAttrBy
  refine wpAny_bind (wpAny_mkText (wpAny_bind (wpAny_attempt (wpAny_holding (wpAny_bind (T0.at (wpAny_bind (T1.at ?_))))))))
  show wpAny _ _ (if (onTheHeap (Value.ref D) && Value.builtin "BaseException.__getattribute__" == Value.builtin "object.__getattribute__") = true then _ else _) _ _ _
  rw [e1, if_neg Bool.false_ne_true]; unfold getAttrByItsOwn; unfold hookBefore
  refine wpAny_bind ?_; rw [if_pos (show onTheHeap (Value.ref D) = true from rfl)]
  refine T2.at (wpAny_bind (wpAny_attempt (wpAny_holding ?_)))
  unfold callGetattribute; rw [show (false && onTheHeap (Value.builtin "BaseException.__getattribute__")) = false from rfl, if_neg Bool.false_ne_true]; unfold boundAndCalled
  rw [PySem.F.excAttr_ValueError.ga.bind (.ref x)]; refine wpAny_bind (wpAny_pure ?_)
  show wpAny _ _ (call (.builtin "BaseException.__getattribute__") [.ref x, .str "__class__" t]) _ _ _
  refine wpAny_call (codeAny_call_builtin PySem.F.excAttr_ValueError.ga.plain PySem.F.entry_bexc_ga (@PySem.W.check_slot (model prog w) _ _ ⟨hp, g, d, t + 1, os⟩ "BaseException.__getattribute__" "BaseException" "__getattribute__" (.ref x) [.str "__class__" t] [] _ (by decide +kernel) (by decide +kernel) up (PySem.F.args_bexc_ga (.ref x) (.str "__class__" t)) ?_))
  unfold Builtin.«object.__getattribute__»; refine wpAny_bind (wpAny_of_eq (a := ((Value.ref x : Value), [Value.str "__class__" t])) (by first | rfl | (simp only [slotArgs]; rfl)) ?_)
  refine wpAny_bind (wpAny_pure (wpAny_bind (T0.at (wpAny_bind (T3.at ?_))))); show wpAny _ _ (holding [Value.builtin "object.__class__"] (call (.builtin "getset_descriptor.__get__") [.builtin "object.__class__", .ref x, .ref D]) >>= ret) _ _ _
  refine wpAny_bind (wpAny_holding (wpAny_call (PySem.W.class_get (s := ⟨hp, g, d, t + 1, os⟩) (ox := ox) (od := some od) X I C.hm (wpAny_pure ?_)))); show wpAny _ _ (handedOut (.ref D)) _ _ _
  rw [PySem.W.handedOut_of (v := .ref D) rfl]; first | exact wpAny_pure (wpAny_pure h) | exact wpAny_pure h | exact wpAny_pure (wpAny_bind (wpAny_pure (wpAny_pure h)))
theorem exd_kit (C : ExcC K D) : PySem.W.KitX K (.ref x) (.ref D) (fun h => PySem.W.InstAt h x ox D (some od)) := by
  have hc : ∃ c' d' cd' sl', K.lookup D = some ⟨c', d', .cls cd', sl'⟩ := by
    obtain ⟨cdD, hcD, _⟩ := PySem.W.any_some C.hd
    unfold PySem.W.clsIn at hcD
    split at hcD
    · rename_i c' d' cd' sl' ho
      exact ⟨c', d', _, sl', ho⟩
    · cases hcD
  obtain ⟨c', d', cd', sl', ho⟩ := hc
  have h3 : ∀ (h : Heap) (tp : Addr) (dd : Option Addr) (its : Array Value) (n : Nat) (sl : Array (Option Value)), K.In h → h.get? tp = some ⟨.type "tuple", dd, .seq its n, sl⟩ → (Value.ref D == Value.ref tp) = false := fun h tp dd its n sl X htp => by
    refine Bool.eq_false_iff.mpr fun q => ?_
    have e : D = tp := Value.ref.inj (beq_iff_eq.mp q)
    subst e
    have z := (X _ _ ho).symm.trans htp
    cases z
  refine ⟨fun _ _ _ I => I.type, fun _ _ X _ A1 Q1 E1 s1 k q => ?_, fun h tp dd its => h3 h tp dd its.toArray, fun X I k => exd_class C X I k⟩
  unfold isType; unfold loadHead; exact wpAny_bind (wpAny_loadPart (k _ _ (X _ _ ho)) (wpAny_pure q))
end
/-- isinstance(e, c), e the error that the suite holds -/
def rIsD (K : PySem.W.Frag) (a : Addr) (cls : Value) (d : Option Addr) : List V → Hp → VK → Prop := fun xs H Q => ∃ (D dd : Addr) (fs : List (Str × V)) (c : V) (cv : Value) (b : Bool), ExcC K D ∧ cls = .ref D ∧ d = some dd ∧ H dd = some (.xd fs) ∧ xs = [.ref a, c] ∧ (∀ u, RelV c u → u = cv) ∧ PySem.W.kitOne K (.ref D) cv = some b ∧ Q (.bl b) H
theorem call_isD {X : Cx} {a : Addr} {oe : Obj} {cls : Value} {d : Option Addr} {pn : List (Addr × Obj)} (hz : Zc cls d oe) (hf : ∃ vs, oe.data = .fields vs) : CallR (X.suite a ((a, oe) :: pn)) (.builtin "isinstance") (rIsD X.K a cls d) := by
  intro pins s σ H xs us Q I r h
  obtain ⟨D, dd, fs, c, cv, b, C, rfl, rfl, hdd, rfl, hcv, e, q⟩ := h
  cases r with
  | cons rx rr =>
    cases rr with
    | cons rt rr =>
      cases rr
      cases rx
      have ec := hcv _ rt
      subst ec
      obtain ⟨hget, _⟩ := I.pin (a, oe) (List.mem_append.mpr (.inl List.mem_cons_self))
      obtain ⟨vs, hv⟩ := hf
      have hx : ObjOk X.prog X.w H s.heap dd (.xd fs) := I.hok dd _ hdd
      obtain ⟨mA, hns, hr⟩ := hx
      obtain ⟨od, ho, hl⟩ := lookIn_ns hns
      have J : PySem.W.InstAt s.heap a oe D (some od) := ⟨hget, hz.1, by unfold PySem.W.notCls; rw [hv] <;> rfl, by rw [hz.2]; exact ho⟩
      exact PySem.W.kia_one (exd_kit C) I.kIn J e (fun z => nomatch z) fun tk => ⟨.bl b, H, I.kept (t' := tk) fun _ _ z => z, rfl, q⟩
/-- a def whose promise lets nothing out -/
theorem FnR.calm {P : Program} {w : World} {K : PySem.W.Frag} {mg : Str → Option Value} {base : Heap} {k : Nat} {f : Addr} {sp : Sp} (F : FnR P w K mg base (L2.CX P w) k f sp) : FnR P w K mg base CX0 k f (fun vs H Q _ => sp vs H Q fun _ _ _ => False) := by
  intro A outer s H us vs Q E hr e0 r hs
  refine codeAny_mono (F A outer s H us vs Q _ hr e0 r hs) fun r s' h => ?_
  cases r with
  | ok fl => cases fl <;> exact h
  | error e =>
    obtain ⟨_, _, _, _, _, _, _, _, _, _, _, _, z⟩ := h
    exact z.elim
theorem FnOk.calm {P : Program} {w : World} {K : PySem.W.Frag} {mg : Str → Option Value} {base : Heap} {k : Nat} {f : Addr} {fd : FuncData} {ps : List Str} {sp : Sp} (F : FnOk P w K mg base (L2.CX P w) k f fd ps sp) : FnOk P w K mg base CX0 k f fd ps (fun vs H Q _ => sp vs H Q fun _ _ _ => False) := by
  refine ⟨fun vs H Q E h => F.len vs H Q _ h, fun A outer s H args us vs Q E hr e0 b r hs => ?_⟩
  refine codeAny_mono (F.run A outer s H args us vs Q _ hr e0 b r hs) fun r s' h => ?_
  cases r with
  | ok fl => cases fl <;> exact h
  | error e =>
    obtain ⟨_, _, _, _, _, _, _, _, _, _, _, _, z⟩ := h
    exact z.elim
end Cs

set_option Elab.async false
set_option linter.all false
set_option maxRecDepth 100000
set_option maxHeartbeats 4000000
set_option pp.maxSteps 600
/-! Rules made of any values, or BadRule raised. -/
namespace Cs
open PySem L2 NdefX
/-- the values that are handed in -/
inductive VO (H : Hp) : V → Prop where
  | non : VO H .non
  | bl (b : Bool) : VO H (.bl b)
  | int (n : Int) : VO H (.int n)
  | str (z : Str) (h : z.length ≤ 100000) : VO H (.str z)
  | lst {a : Addr} {xs : List V} (h : H a = some (.lst xs)) : VO H (.ref a)
  | tup {a : Addr} {xs : List V} (h : H a = some (.tup xs)) : VO H (.ref a)
def bndV : V → Bool
  | .int n => decide (0 ≤ n) && decide (n ≤ 9)
  | _ => false
def kndV : V → Bool
  | .str z => kindB z
  | _ => false
theorem VO.up {H H' : Hp} {v : V} {x C dx : Addr} {fs : List (Str × V)} (h : VO H v) (hx : H x = some (.ins C dx fs)) (k : ∀ b o, H b = some o → b ≠ x → H' b = some o) : VO H' v := by
  cases h with
  | non => exact .non
  | bl b => exact .bl b
  | int n => exact .int n
  | str z h => exact .str z h
  | lst h => exact .lst (k _ _ h (ne_of h hx (by intro z; cases z)))
  | tup h => exact .tup (k _ _ h (ne_of h hx (by intro z; cases z)))
theorem VO.same {H H' : Hp} {v : V} (s : Same H H') (h : VO H v) : VO H' v := by
  cases h with
  | non => exact .non
  | bl b => exact .bl b
  | int n => exact .int n
  | str z h => exact .str z h
  | lst h => exact .lst (s _ _ h)
  | tup h => exact .tup (s _ _ h)
theorem bnd_ask {K : PySem.W.Frag} {H : Hp} {v : V} {Q : VK} {E : XK} (h : VO H v) (q : Q (.bl (bndV v)) H) : spIsBound K [v] H Q E := by
  cases h with
  | non => exact .inr ⟨_, rfl, ⟨"NoneType", .base .non, .inr (by decide +kernel)⟩, q⟩
  | bl b => exact .inr ⟨_, rfl, ⟨"bool", .base (.bl b), .inl rfl⟩, q⟩
  | int n => exact .inl ⟨n, rfl, q⟩
  | str z h => exact .inr ⟨_, rfl, ⟨"str", .base (.str z), .inr (by decide +kernel)⟩, q⟩
  | lst h => exact .inr ⟨_, rfl, ⟨"list", .base (.lst h), .inr (by decide +kernel)⟩, q⟩
  | tup h => exact .inr ⟨_, rfl, ⟨"tuple", .base (.tup h), .inr (by decide +kernel)⟩, q⟩
theorem knd_ask {K : PySem.W.Frag} {H : Hp} {v : V} {Q : VK} {E : XK} (h : VO H v) (q : ∀ H', Same H H' → Q (.bl (kndV v)) H') : spIsKind K [v] H Q E := by
  have q0 := q H (Same.refl H)
  cases h with
  | non => exact .inr ⟨_, "NoneType", rfl, .base .non, by decide +kernel, q0⟩
  | bl b => exact .inr ⟨_, "bool", rfl, .base (.bl b), by decide +kernel, q0⟩
  | int n => exact .inr ⟨_, "int", rfl, .base (.int n), by decide +kernel, q0⟩
  | str z h => exact .inl ⟨z, rfl, h, q⟩
  | lst h => exact .inr ⟨_, "list", rfl, .base (.lst h), by decide +kernel, q0⟩
  | tup h => exact .inr ⟨_, "tuple", rfl, .base (.tup h), by decide +kernel, q0⟩
theorem nil_it {σ : L2.St} {H : Hp} {k : List V → Hp → Prop} (h : k [] H) : tNil σ H k := h
theorem bndV_int {v : V} (h : bndV v = true) : ∃ n, v = .int n ∧ Bnd9 n := by
  cases v with
  | int n =>
    have h : (decide (0 ≤ n) && decide (n ≤ 9)) = true := h
    rw [Bool.and_eq_true, decide_eq_true_eq, decide_eq_true_eq] at h
    exact ⟨n, rfl, h⟩
  | _ => cases h
theorem kndV_str {v : V} (h : kndV v = true) : ∃ z, v = .str z ∧ kindB z = true := by
  cases v with
  | str z => exact ⟨z, rfl, h⟩
  | _ => cases h
theorem knd_strs {ks : List V} (h : ks.all kndV = true) : ∃ zs : List Str, ks = zs.map V.str := by
  induction ks with
  | nil => exact ⟨[], rfl⟩
  | cons v ks ih =>
    rw [List.all_cons, Bool.and_eq_true] at h
    obtain ⟨z, rfl, _⟩ := kndV_str h.1
    obtain ⟨zs, rfl⟩ := ih h.2
    exact ⟨z :: zs, rfl⟩
/-- one to three kinds, none twice -/
def kindsV (ks : List V) : Bool := (decide (1 ≤ ks.length) && decide (ks.length ≤ 3)) && (ks.all kndV && decide ks.Nodup)
/-- BadRule is raised -/
def BadR (B : Addr) (H : Hp) (x : Addr) (z : Str) (E : XK) : Prop := ∀ (H' : Hp) (dd : Addr), (∀ b o, H b = some o → b ≠ x → H' b = some o) → H' dd = none → E (.ref B) (some dd) (upd H' dd (.xd [(("what" : Str), .str z)]))
def RulNewV (C : Addr) (H : Hp) (Q : VK) (x dx : Addr) (ks : List V) (F : Addr → List (Str × V)) : Prop :=
  ∀ (kt : Addr) (H' : Hp), H kt = none → H' kt = some (.tup ks) → H' x = some (.ins C dx (F kt)) → (∀ b o, H b = some o → b ≠ x → H' b = some o) → Q .non H'
/-- good kinds and what follows, or bad ones -/
def EndK (B C : Addr) (H : Hp) (Q : VK) (E : XK) (x dx : Addr) (ks : List V) (F : Addr → List (Str × V)) : Prop := (kindsV ks = true ∧ RulNewV C H Q x dx ks F) ∨ (kindsV ks = false ∧ BadR B H x "kinds" E)
def spRuleBX (B C : Addr) : Sp := fun vs H Q E => ∃ (x kt dx : Addr) (fs : List (Str × V)) (ks : List V), vs = [.ref x, .ref kt] ∧ H x = some (.ins C dx fs) ∧ fs.length < 900 ∧ H kt = some (.tup ks) ∧ ks.length ≤ 100 ∧ (∀ v ∈ ks, VO H v) ∧
  ((kindsV ks = true ∧ ∀ H', H' x = some (.ins C dx (putF "kinds" (.ref kt) fs)) → (∀ b o, H b = some o → b ≠ x → H' b = some o) → Q .non H') ∨ (kindsV ks = false ∧ BadR B H x "kinds" E))
def spRuleX (B C : Addr) : Sp := fun vs H Q E => ∃ (x dx : Addr) (fs : List (Str × V)) (ks : List V), vs = .ref x :: ks ∧ H x = some (.ins C dx fs) ∧ fs.length < 900 ∧ ks.length ≤ 100 ∧ (∀ v ∈ ks, VO H v) ∧ EndK B C H Q E x dx ks (fun kt => putF "kinds" (.ref kt) fs)
theorem str_inj_nodup {zs : List Str} : (zs.map V.str).Nodup ↔ zs.Nodup := by
  rw [List.Nodup, List.pairwise_map]
  constructor
  · exact fun h => h.imp fun n e => n (by rw [e])
  · exact fun h => h.imp fun n e => n (V.str.inj e)
theorem nd_of_len {ws zs : List Str} (hw : ws.Nodup) (hm : ∀ z, z ∈ ws ↔ z ∈ zs) (q : zs.length ≤ ws.length) : zs.Nodup := by
  induction zs generalizing ws with
  | nil => exact List.nodup_nil
  | cons z zs ih =>
    rw [List.length_cons] at q
    by_cases hz : z ∈ zs
    · have := nd_len hw (ys := zs) fun y hy => by
        rcases List.mem_cons.mp ((hm y).mp hy) with e | e
        · rw [e]; exact hz
        · exact e
      omega
    · have hzw : z ∈ ws := (hm z).mpr List.mem_cons_self
      refine List.nodup_cons.mpr ⟨hz, ih (ws := ws.erase z) (hw.erase z) (fun y => ?_) ?_⟩
      · rw [hw.mem_erase_iff, hm y, List.mem_cons]
        constructor
        · rintro ⟨a, b | b⟩
          · exact absurd b a
          · exact b
        · exact fun h => ⟨fun e => hz (e ▸ h), .inr h⟩
      · rw [List.length_erase_of_mem hzw]
        omega
section
variable {P : Program} {w : World} {K : PySem.W.Frag} {mg : Str → Option Value} {base : Heap}
theorem ok_xrule {B f : Addr} {fd : FuncData} (F : Fun K "__init__" "BadRule.__init__" s_BadRule_init f fd) (T : OexC K B) (hno : PySem.W.findIn K (.ref B) "what" = some none) : FnOk P w K mg base CX0 1 f fd ["self", "what"] (spXi B "what") := by
  refine F.ok sc_BadRule_init (fun vs H Q E h => ?_) (fun cdv A outer s H vs Q E hr h => ?_)
  · obtain ⟨_, _, rfl, _⟩ := h
    rfl
  · obtain ⟨a, y, rfl, ha, k⟩ := h
    refine ⟨_, (pss_one (ps_ost (pv 0) (pv 1))), ?_⟩
    exact ⟨_, rfl, _, rfl, a, B, rfl, T, hno, .inl ⟨ha, fun dx hdx ne => k dx hdx ne⟩⟩
theorem rule_bodyX {B C f fIk fDt fX : Addr} {fdIk fdDt fdX : FuncData} {cdv : Value} {A : Around} {outer : List Env} {s : Shared} {H : Hp} {vs : List V} {Q : VK} {E : XK} (g : Bi mg) (R : RC K C)
    (FIk : Def P w K mg base CX0 2 "is_kind" ["thing"] (spIsKind K) fIk fdIk) (FDt : Def P w K mg base CX0 1 "distinct" ["words"] (spDistinctT K) fDt fdDt) (XB : XDef P w K mg base "BadRule" B fX "what" ["self", "what"] fdX)
    (hr : Room 2 (A.deeper (PyProof.Rows.envOfC "Rule.__init__" (defScope s_Rule_init) s.heap.objs.size f cdv))) (h : spRuleBX B C vs H Q E) :
    ∃ t, PSs (cxOf (L2.CX P w) P w K mg base ["self", "kinds", "kind"] "Rule.__init__" (defScope s_Rule_init) f cdv A outer s H E) (defBody s_Rule_init) t ∧ t { nx := fun _ H' => Q .non H', rt := Q } (L2.start ["self", "kinds", "kind"] vs) H := by
  obtain ⟨GIk, mIk, _, bIk⟩ := id FIk
  obtain ⟨GDi, mDi, _, bDi⟩ := id FDt
  have FDi := FDt
  have hrIk : Room 2 _ := hr
  have hrX : Room 2 _ := hr
  have hrDi : Room 1 _ := hr.mono (by decide)
  obtain ⟨x, kt, dx, fs, ks, rfl, hx, hfs, hkt, hln, hV, k⟩ := h
  refine ⟨_, (pss_cons (ps_if (PW.pt (pw_or (pt_not (pt_chain op_le op_le pe_int (pe_callB call_len (by rfl) g.len PySem.boot_len (pa_cons (pv 1) pa_nil)) pe_int)) (pw_or1 (pt_not (pt_val (pe_callB (cr_all rfl) (by rfl) g.all (by decide +kernel) (pa_cons (pe_lc (own := [("kind", 2)]) (g := gName 2)  (by rfl) sc_Rule_init.nd (pi_tup (pv 1)) (blkOk_by (own := [("kind", 2)]) (N := ["self", "kinds", "kind"]) (sc := defScope s_Rule_init) (by decide +kernel)) (fun _ _ _ _ _ => (pg_name (i := 2) sc_Rule_init.nd rfl (Or.inl rfl))) (fun _ _ _ _ _ => pts_nil) (fun _ _ _ _ _ => (pe_call GIk hrIk rfl mIk FIk.kp bIk .nil pass0 (pa_cons (pv 2) pa_nil)))) pa_nil))))))) (pss_one (ps_raise rfl (takes_of rfl rfl rfl rfl) (pmk_oex XB.c XB.iC XB.tI XB.ok hrX XB.b .nil pass0 rfl XB.mg_ (pa_cons pe_str pa_nil)))) pss_nil)
      (pss_cons (ps_if (pt_cmpR op_lt (pe_callB call_len (by rfl) g.len PySem.boot_len (pa_cons (pe_call GDi hrDi rfl mDi FDi.kp bDi .nil pass0 (pa_cons (pv 1) pa_nil)) pa_nil)) (pe_callB call_len (by rfl) g.len PySem.boot_len (pa_cons (pv 1) pa_nil)) (nomark _)) (pss_one (ps_raise rfl (takes_of rfl rfl rfl rfl) (pmk_oex XB.c XB.iC XB.tI XB.ok hrX XB.b .nil pass0 rfl XB.mg_ (pa_cons pe_str pa_nil)))) pss_nil)
      (pss_one (ps_fld (pv 0) (pe_callTy call_tuple_of (by rfl) g.tuple (by decide +kernel) (pa_cons (pv 1) pa_nil)) rfl)))), ?_⟩
  have bad : ∀ {H1 : Hp}, Same H H1 → kindsV ks = false → _ := fun {H1} s1 hb => xmk (C := B) (fld := "what") (y := .str "kinds") (H1 := H1) (Q := E) fun dd hdd => by
    rcases k with ⟨h1, _⟩ | ⟨_, k⟩
    · rw [hb] at h1; cases h1
    · exact k H1 dd (fun b o e _ => s1 b o e) hdd
  refine ⟨_, rfl, _, _, rfl, .inr ⟨_, SqT.of hkt, rfl⟩, _, _, rfl, rfl, _, rfl, ?_⟩
  by_cases c1 : 1 ≤ ks.length
  case neg =>
    rw [decide_eq_false (show ¬ (1 : Int) ≤ (ks.length : Int) by omega)]
    refine iteF ⟨_, rfl, iteT ?_⟩
    exact bad (Same.refl H) (by unfold kindsV; rw [decide_eq_false c1]; rfl)
  rw [decide_eq_true (show (1 : Int) ≤ (ks.length : Int) by omega)]
  refine iteT ⟨_, _, rfl, rfl, _, rfl, ?_⟩
  by_cases c2 : ks.length ≤ 3
  case neg =>
    rw [decide_eq_false (show ¬ (ks.length : Int) ≤ 3 by omega)]
    refine iteT ?_
    exact bad (Same.refl H) (by unfold kindsV; rw [decide_eq_false c2, Bool.and_false]; rfl)
  rw [decide_eq_true (show (ks.length : Int) ≤ 3 by omega)]
  refine iteF ?_
  refine ⟨_, rfl, kt, rfl, ⟨_, SqT.of hkt⟩, fun D hD => lc_valsT (ys := ks.map fun v => V.bl (kndV v)) (by rw [List.length_map]) hkt hD (by omega) (fun _ => rfl) (fun i a b ha hb H' s' Qe qk => ?_) fun H1 s1 hD1 => ?_⟩
  · rw [List.getElem?_map, ha] at hb
    obtain rfl := Option.some.inj hb
    exact ⟨_, rfl, nil_it <| knd_ask ((hV a (List.mem_of_getElem? ha)).same s') fun H2 s2 => qk H2 s2⟩
  refine ⟨D, ks.map kndV, rfl, SqL.of (by rw [hD1, List.map_map]; rfl), ?_⟩
  have eall : (ks.map kndV).all id = ks.all kndV := by rw [List.all_map]; rfl
  rw [eall]
  cases c3 : ks.all kndV with
  | false =>
    refine ⟨_, rfl, iteT ?_⟩
    exact bad s1 (by unfold kindsV; rw [c3, Bool.false_and, Bool.and_false])
  | true =>
    refine ⟨_, rfl, iteF ?_⟩
    obtain ⟨zs, rfl⟩ := knd_strs c3
    rw [List.length_map] at c1 c2
    refine ⟨_, rfl, kt, zs, rfl, SqT.of (s1 _ _ hkt), by omega, fun p H2 ws hp s2 h2 ha hm hle => ?_⟩
    have s12 := s1.trans s2
    have hkt2 := s12 _ _ hkt
    refine ⟨_, _, rfl, .inl ⟨_, SqL.of h2, rfl⟩, _, rfl, _, _, rfl, .inr ⟨_, SqT.of hkt2, rfl⟩, _, _, rfl, rfl, _, rfl, ?_⟩
    rw [List.length_map, List.length_map]
    by_cases c4 : zs.Nodup
    · have hlen : ws.length = zs.length := Nat.le_antisymm hle (nd_len c4 fun z hz => (hm z).mpr hz)
      rw [hlen, decide_eq_false (Int.lt_irrefl _)]
      refine iteF ?_
      rcases k with ⟨_, k⟩ | ⟨hb, _⟩
      · refine ⟨_, rfl, kt, _, rfl, .inr ⟨SqT.of hkt2, _, rfl, x, C, dx, fs, rfl, s12 _ _ hx, R.cl, R.nk, by omega, ?_⟩⟩
        exact k _ upd_same fun b o e n => by rw [upd_ne n]; exact s12 _ _ e
      · unfold kindsV at hb
        rw [List.length_map, decide_eq_true c1, decide_eq_true c2, c3, decide_eq_true (str_inj_nodup.mpr c4)] at hb
        cases hb
    · have hlt : ws.length < zs.length := by
        rcases Nat.lt_or_ge ws.length zs.length with q | q
        · exact q
        · exact absurd (nd_of_len ha.nodup hm q) c4
      rw [decide_eq_true (show (ws.length : Int) < (zs.length : Int) by omega)]
      refine iteT ?_
      exact bad s12 (by unfold kindsV; rw [decide_eq_false (fun q => c4 (str_inj_nodup.mp q)), Bool.and_false, Bool.and_false])
theorem ok_ruleX {B C f fIk fDt fX : Addr} {fdIk fdDt fdX : FuncData} {oc od kV doc pm an cdv ct osl} (g : Bi mg) (R : RC K C) (FIk : Def P w K mg base CX0 2 "is_kind" ["thing"] (spIsKind K) fIk fdIk) (FDt : Def P w K mg base CX0 1 "distinct" ["words"] (spDistinctT K) fDt fdDt) (XB : XDef P w K mg base "BadRule" B fX "what" ["self", "what"] fdX)
    (lk : K.lookup f = some ⟨oc, od, .func (PySem.W.fnOf "__init__" "Rule.__init__" (defArgs s_Rule_init) (defBody s_Rule_init) (defScope s_Rule_init) .none kV doc pm an cdv ct), osl⟩) (hcd : PySem.W.codeIn K cdv "Rule.__init__" = true) :
    FnR P w K mg base (L2.CX P w) 3 f (spRuleX B C) := by
  have G := StX.fn_star (P := P) (w := w) (mg := mg) (base := base) (CX := L2.CX P w) (k := 2) (ps := ["self"]) (pv := "kinds") (sp := spRuleBX B C) lk hcd sc_Rule_init StX.cxUp
    (fun us rest hl => match us, rest, hl with | [a], [], _ => rfl | [a], r :: rs, _ => rfl)
    (fun A outer s H vs Q E hr h => rule_bodyX (P := P) (w := w) (mg := mg) (base := base) (outer := outer) (s := s) g R FIk FDt XB hr h)
  refine G.imp fun vs H Q E h => ?_
  obtain ⟨x, dx, fs, ks, rfl, hx, hfs, hln, hV, k⟩ := h
  refine ⟨[.ref x], ks, rfl, rfl, Nat.le_trans hln (by decide), fun p hp => ?_⟩
  have s1 : Same H (upd H p (.tup ks)) := Same.new hp
  refine ⟨x, p, dx, fs, ks, rfl, s1 _ _ hx, hfs, upd_same, hln, fun v hv => (hV v hv).same s1, ?_⟩
  rcases k with ⟨hk, k⟩ | ⟨hk, k⟩
  · exact .inl ⟨hk, fun H' h1 h2 => k p H' hp (h2 _ _ upd_same (ne_of_none hx hp).symm) h1 fun b o e n => h2 b o (s1 _ _ e) n⟩
  · exact .inr ⟨hk, fun H' dd h1 h2 => k H' dd (fun b o e n => h1 b o (s1 _ _ e) n) h2⟩
end
end Cs

set_option Elab.async false
set_option linter.all false
set_option maxRecDepth 100000
set_option maxHeartbeats 8000000
set_option pp.maxSteps 600
/-! Rules refused: BadRules is raised. -/
namespace Cs
open PySem L2 NdefX
theorem pi_or {X : Cx} {tg iter : Expr} {w1 w2 : TI} (h1 : PI X tg iter w1) (h2 : PI X tg iter w2) : PI X tg iter (fun σ H R => w1 σ H R ∨ w2 σ H R) := ⟨fun pins s σ H R I h => h.elim (h1.run pins s σ H R I) (h2.run pins s σ H R I)⟩
theorem FnOk.or {P : Program} {w : World} {K : PySem.W.Frag} {mg : Str → Option Value} {base : Heap} {CX : CXT} {k : Nat} {f : Addr} {fd : FuncData} {ps : List Str} {sp sp' : Sp} (F : FnOk P w K mg base CX k f fd ps sp) (G : FnOk P w K mg base CX k f fd ps sp') :
    FnOk P w K mg base CX k f fd ps (fun vs H Q E => sp vs H Q E ∨ sp' vs H Q E) :=
  ⟨fun vs H Q E h => h.elim (F.len vs H Q E) (G.len vs H Q E), fun A outer s H args us vs Q E hr e0 b r h => h.elim (F.run A outer s H args us vs Q E hr e0 b r) (G.run A outer s H args us vs Q E hr e0 b r)⟩
theorem paired_get {α β : Type} {R : α → β → Prop} {xs : List α} {bs : List β} (h : Paired R xs bs) {i : Nat} {y : α} (e : xs[i]? = some y) : ∃ b, bs[i]? = some b ∧ R y b := by
  induction h generalizing i with
  | nil => cases e
  | cons hx _ ih =>
    cases i with
    | zero => cases e; exact ⟨_, rfl, hx⟩
    | succ i => exact ih e
/-- a list or a tuple -/
def Sq2 (H : Hp) (a : Addr) (ys : List V) : Prop := H a = some (.lst ys) ∨ H a = some (.tup ys)
theorem Sq2.same {H H' : Hp} {a : Addr} {ys : List V} (s : Same H H') (h : Sq2 H a ys) : Sq2 H' a ys := h.imp (fun h => s _ _ h) fun h => s _ _ h
theorem Sq2.len {K : PySem.W.Frag} {H : Hp} {a : Addr} {ys : List V} (h : Sq2 H a ys) : SqL K H a ys ∨ SqT K H a ys := h.imp (fun h => SqL.of h) fun h => SqT.of h
def TY6V : List String := ["NoneType", "bool", "int", "list", "tuple", "str"]
theorem VO.tyx {K : PySem.W.Frag} {H : Hp} {v : V} (h : VO H v) : ∃ ty, ty ∈ TY6V ∧ TyX K H v (.type ty) := by
  cases h with
  | non => exact ⟨"NoneType", by simp [TY6V], .base .non⟩
  | bl b => exact ⟨"bool", by simp [TY6V], .base (.bl b)⟩
  | int n => exact ⟨"int", by simp [TY6V], .base (.int n)⟩
  | str z h => exact ⟨"str", by simp [TY6V], .base (.str z)⟩
  | lst h => exact ⟨"list", by simp [TY6V], .base (.lst h)⟩
  | tup h => exact ⟨"tuple", by simp [TY6V], .base (.tup h)⟩
/-- an entry of the rules: a rule, another value, or counts -/
def RuE (a : RAd) (Cc : Addr) (H : Hp) (v : V) (b : Bool) : Prop := (b = true ∧ ∃ p c l m ks, v = .ref p ∧ RulAt a H p c l m ks) ∨ (b = false ∧ (VO H v ∨ ∃ p dx fs, v = .ref p ∧ H p = some (.ins Cc dx fs)))
theorem RuE.same {a : RAd} {Cc : Addr} {H H' : Hp} {v : V} {b : Bool} (s : Same H H') (h : RuE a Cc H v b) : RuE a Cc H' v b := by
  rcases h with ⟨e, p, c, l, m, ks, rfl, h⟩ | ⟨e, h | ⟨p, dx, fs, rfl, h⟩⟩
  · exact .inl ⟨e, p, c, l, m, ks, rfl, h.same s⟩
  · exact .inr ⟨e, .inl (h.same s)⟩
  · exact .inr ⟨e, .inr ⟨p, dx, fs, rfl, s _ _ h⟩⟩
def notIn (nm : List Str) : V → Bool
  | .str z => !decide (z ∈ nm)
  | _ => true
def looseB (nm : List Str) (ys : List V) : Bool := decide (ys.length ≤ 2) && (ys.all (fun v => kndV v && notIn nm v) && decide ys.Nodup)
/-- BadRules is raised -/
def BadS (B : Addr) (H : Hp) (z : Str) (E : XK) : Prop := ∀ (H' : Hp) (dd : Addr), Same H H' → H' dd = none → E (.ref B) (some dd) (upd H' dd (.xd [(("what" : Str), .str z)]))
/-- what is wrong, and what is raised for it -/
inductive Bad19 (K : PySem.W.Frag) (a : RAd) (Cc B : Addr) (H : Hp) (E : XK) (l : V) (ps : List V) : Prop where
  | rules (bs : List Bool) (h : Paired (RuE a Cc H) ps bs) (c : ps = [] ∨ 5 ≤ ps.length ∨ false ∈ bs) (k : BadS B H "rules" E)
  | noseq (rs : List RuD) (h : RsAt a H ps rs) (lo : 1 ≤ rs.length) (hi : rs.length ≤ 4) (hl : l = .non ∨ ∃ z, l = .str z) (k : BadS B H "loose" E)
  | loose (rs : List RuD) (h : RsAt a H ps rs) (lo : 1 ≤ rs.length) (hi : rs.length ≤ 4) (ll : Addr) (ys : List V) (el : l = .ref ll) (hl : Sq2 H ll ys) (hn : ys.length ≤ 100) (hv : ∀ v ∈ ys, VO H v) (hb : looseB (rs.flatMap RuD.ks) ys = false) (k : BadS B H "loose" E)
  | kinds (rs : List RuD) (h : RsAt a H ps rs) (lo : 1 ≤ rs.length) (hi : rs.length ≤ 4) (ll : Addr) (el : l = .ref ll) (hl : Sq2 H ll []) (ks : List Str) (ha : Asc ks) (hm : ∀ z, z ∈ ks ↔ ∃ r ∈ rs, z ∈ r.ks) (c : 4 < ks.length ∨ ∃ z ∈ ks, capOf rs z = none) (k : BadS B H "kinds" E)
  | counts (rs : List RuD) (h : RsAt a H ps rs) (lo : 1 ≤ rs.length) (hi : rs.length ≤ 4) (ll : Addr) (el : l = .ref ll) (hl : Sq2 H ll []) (ks : List Str) (ha : Asc ks) (hm : ∀ z, z ∈ ks ↔ ∃ r ∈ rs, z ∈ r.ks) (c : ks.length ≤ 4) (hc : ∀ z ∈ ks, ∃ n, capOf rs z = some n ∧ Bnd9 n) (hp : 1000 < prodN (capsN rs ks)) (k : BadS B H "counts" E)
theorem BadS.same {B : Addr} {H H' : Hp} {z : Str} {E : XK} (s : Same H H') (h : BadS B H z E) : BadS B H' z E := fun H2 dd s2 hd => h H2 dd (s.trans s2) hd
def spRulesXB (K : PySem.W.Frag) (a : RAd) (Cc B C : Addr) : Sp := fun vs H Q E => ∃ (x dx R : Addr) (l : V) (ps : List V), vs = [.ref x, l, .ref R] ∧ H x = some (.ins C dx []) ∧ H R = some (.tup ps) ∧ ps.length ≤ 100 ∧ Bad19 K a Cc B H E l ps
section
variable {P : Program} {w : World} {K : PySem.W.Frag} {mg : Str → Option Value} {base : Heap}
theorem ok_xrules {B f : Addr} {fd : FuncData} (F : Fun K "__init__" "BadRules.__init__" s_BadRules_init f fd) (T : OexC K B) (hno : PySem.W.findIn K (.ref B) "what" = some none) : FnOk P w K mg base CX0 1 f fd ["self", "what"] (spXi B "what") := by
  refine F.ok sc_BadRules_init (fun vs H Q E h => ?_) (fun cdv A outer s H vs Q E hr h => ?_)
  · obtain ⟨_, _, rfl, _⟩ := h
    rfl
  · obtain ⟨a, y, rfl, ha, k⟩ := h
    refine ⟨_, (pss_one (ps_ost (pv 0) (pv 1))), ?_⟩
    exact ⟨_, rfl, _, rfl, a, B, rfl, T, hno, .inl ⟨ha, fun dx hdx ne => k dx hdx ne⟩⟩
theorem rules_bodyX {B C Cc f fIk fDi fCp fAn fWi fX : Addr} {fdIk fdDi fdCp fdAn fdWi fdX : FuncData} {a : RAd} {cdv : Value} {A : Around} {outer : List Env} {s : Shared} {H : Hp} {vs : List V} {Q : VK} {E : XK} (g : Bi mg) (Wo : RWo K mg a) (RK : RsC K C) (ciC : CI K Cc)
    (FIk : Def P w K mg base CX0 2 "is_kind" ["thing"] (spIsKind K) fIk fdIk) (FD2 : Def P w K mg base CX0 1 "distinct" ["words"] (fun vs H Q E => spDistinct K vs H Q E ∨ spDistinctT K vs H Q E) fDi fdDi)
    (FCp : Def P w K mg base CX0 1 "caps_of" ["rules", "kinds"] (spCaps a) fCp fdCp) (FAn : Def P w K mg base CX0 1 "all_numbers" ["caps"] spAllN fAn fdAn) (FWi : Def P w K mg base CX0 1 "is_within" ["rules", "kinds", "numbers"] (spWithin a) fWi fdWi)
    (XB : XDef P w K mg base "BadRules" B fX "what" ["self", "what"] fdX) (hTR : ∀ ty, ty ∈ TY6V → PySem.W.kitOne K (.type ty) (.ref a.R) = some false) (hCR : PySem.W.kitOne K (.ref Cc) (.ref a.R) = some false)
    (hr : Room 2 (A.deeper (PyProof.Rows.envOfC "Rules.__init__" (defScope s_Rules_init) s.heap.objs.size f cdv))) (h : spRulesXB K a Cc B C vs H Q E) :
    ∃ t, PSs (cxOf (L2.CX P w) P w K mg base ["self", "loose", "rules", "names", "rule", "kinds", "caps", "product", "cap", "row", "kind"] "Rules.__init__" (defScope s_Rules_init) f cdv A outer s H E) (defBody s_Rules_init) t ∧ t { nx := fun _ H' => Q .non H', rt := Q } (L2.start ["self", "loose", "rules", "names", "rule", "kinds", "caps", "product", "cap", "row", "kind"] vs) H := by
  obtain ⟨GIk, mIk, _, bIk⟩ := id FIk
  obtain ⟨GDi, mDi, _, bDi⟩ := id FD2
  have FDi := FD2
  obtain ⟨GCp, mCp, _, bCp⟩ := id FCp
  obtain ⟨GAn, mAn, _, bAn⟩ := id FAn
  obtain ⟨GWi, mWi, _, bWi⟩ := id FWi
  have hrIk : Room 2 _ := hr
  have hrX : Room 2 _ := hr
  have hrDi : Room 1 _ := hr.mono (by decide)
  have hrCp : Room 1 _ := hr.mono (by decide)
  have hrAn : Room 1 _ := hr.mono (by decide)
  have hrWi : Room 1 _ := hr.mono (by decide)
  obtain ⟨x, dx, R, l, ps, rfl, hx, hR, hpl, h⟩ := h
  refine ⟨_, (pss_cons (ps_if (PW.pt (pw_or (pt_not (pt_chain op_le op_le pe_int (pe_callB call_len (by rfl) g.len PySem.boot_len (pa_cons (pv 2) pa_nil)) pe_int)) (pw_or1 (pt_not (pt_val (pe_callB (cr_all rfl) (by rfl) g.all (by decide +kernel) (pa_cons (pe_lc (own := [("rule", 4)]) (g := gName 4) (te := (tCB (rIsi K) _))  (by rfl) sc_Rules_init.nd (pi_tup (pv 2)) (blkOk_by (own := [("rule", 4)]) (N := ["self", "loose", "rules", "names", "rule", "kinds", "caps", "product", "cap", "row", "kind"]) (sc := defScope s_Rules_init) (by decide +kernel)) (fun _ _ _ _ _ => (pg_name (i := 4) sc_Rules_init.nd rfl (Or.inl rfl))) (fun _ _ _ _ _ => pts_nil) (fun _ _ _ _ _ => (pe_callB call_isi (by rfl) g.isinstance (by decide +kernel) (pa_cons (pv 4) (pa_cons (pe_glob (v := .ref a.R) rfl Wo.mR rfl) pa_nil))))) pa_nil))))))) (pss_one (ps_raise rfl (takes_of rfl rfl rfl rfl) (pmk_oex XB.c XB.iC XB.tI XB.ok hrX XB.b .nil pass0 rfl XB.mg_ (pa_cons pe_str pa_nil)))) pss_nil)
      (pss_cons (ps_set (i := 3) sc_Rules_init.nd rfl (Or.inr rfl) (pe_lst pa_nil))
      (pss_cons (ps_for (passes_of rfl) rfl (pi_tup (pv 2)) (pg_name (i := 4) sc_Rules_init.nd rfl (Or.inl rfl)) (pss_one (ps_set (i := 3) sc_Rules_init.nd rfl (Or.inr rfl) (pe_op op_cat (pv 3) (pe_callTy call_list_of (by rfl) g.list (by decide +kernel) (pa_cons (pe_fld (pv 4) rfl) pa_nil))))))
      (pss_cons (ps_if (PW.pt (pw_or (pt_not (pt_val (pe_callB call_isiT (by rfl) g.isinstance (by decide +kernel) (pa_cons (pv 1) (pa_cons (pe_tup (pa_cons (pe_bltn (v := .ty "list") (by rfl) g.list (by decide +kernel) rfl) (pa_cons (pe_bltn (v := .ty "tuple") (by rfl) g.tuple (by decide +kernel) rfl) pa_nil))) pa_nil))))) (pw_or1 (pt_cmpR op_gt (pe_callB call_len (by rfl) g.len PySem.boot_len (pa_cons (pv 1) pa_nil)) pe_int (nomark _))))) (pss_one (ps_raise rfl (takes_of rfl rfl rfl rfl) (pmk_oex XB.c XB.iC XB.tI XB.ok hrX XB.b .nil pass0 rfl XB.mg_ (pa_cons pe_str pa_nil)))) pss_nil)
      (pss_cons (ps_if (pt_not (pt_val (pe_callB (cr_all rfl) (by rfl) g.all (by decide +kernel) (pa_cons (pe_lc (own := [("kind", 10)]) (g := gName 10) (te := (tAndV _ (tOp (rIn K true) _ _)))  (by rfl) sc_Rules_init.nd (pi_or (pi_list (pv 1)) (pi_tup (pv 1))) (blkOk_by (own := [("kind", 10)]) (N := ["self", "loose", "rules", "names", "rule", "kinds", "caps", "product", "cap", "row", "kind"]) (sc := defScope s_Rules_init) (by decide +kernel)) (fun _ _ _ _ _ => (pg_name (i := 10) sc_Rules_init.nd rfl (Or.inl rfl))) (fun _ _ _ _ _ => pts_nil) (fun _ _ _ _ _ => (pe_and (pe_call GIk hrIk rfl mIk FIk.kp bIk .nil pass0 (pa_cons (pv 10) pa_nil)) (pe_one (pe_cmpR op_notIn_seq (pv 10) (pv 3) (by rfl)))))) pa_nil)))) (pss_one (ps_raise rfl (takes_of rfl rfl rfl rfl) (pmk_oex XB.c XB.iC XB.tI XB.ok hrX XB.b .nil pass0 rfl XB.mg_ (pa_cons pe_str pa_nil)))) pss_nil)
      (pss_cons (ps_if (pt_cmpR op_lt (pe_callB call_len (by rfl) g.len PySem.boot_len (pa_cons (pe_call GDi hrDi rfl mDi FDi.kp bDi .nil pass0 (pa_cons (pv 1) pa_nil)) pa_nil)) (pe_callB call_len (by rfl) g.len PySem.boot_len (pa_cons (pv 1) pa_nil)) (nomark _)) (pss_one (ps_raise rfl (takes_of rfl rfl rfl rfl) (pmk_oex XB.c XB.iC XB.tI XB.ok hrX XB.b .nil pass0 rfl XB.mg_ (pa_cons pe_str pa_nil)))) pss_nil)
      (pss_cons (ps_set (i := 5) sc_Rules_init.nd rfl (Or.inr rfl) (pe_call GDi hrDi rfl mDi FDi.kp bDi .nil pass0 (pa_cons (pv 3) pa_nil)))
      (pss_cons (ps_set (i := 6) sc_Rules_init.nd rfl (Or.inl rfl) (pe_call GCp hrCp rfl mCp FCp.kp bCp .nil pass0 (pa_cons (pv 2) (pa_cons (pv 5) pa_nil))))
      (pss_cons (ps_if (PW.pt (pw_or (pt_cmpR op_gt (pe_callB call_len (by rfl) g.len PySem.boot_len (pa_cons (pv 5) pa_nil)) pe_int (nomark _)) (pw_or1 (pt_not (pt_val (pe_callB (cr_all rfl) (by rfl) g.all (by decide +kernel) (pa_cons (pe_lc (own := [("cap", 8)]) (g := gName 8)  (by rfl) sc_Rules_init.nd (pi_list (pv 6)) (blkOk_by (own := [("cap", 8)]) (N := ["self", "loose", "rules", "names", "rule", "kinds", "caps", "product", "cap", "row", "kind"]) (sc := defScope s_Rules_init) (by decide +kernel)) (fun _ _ _ _ _ => (pg_name (i := 8) sc_Rules_init.nd rfl (Or.inl rfl))) (fun _ _ _ _ _ => pts_nil) (fun _ _ _ _ _ => (pe_cmpR op_notN (pv 8) pe_non (nomark _)))) pa_nil))))))) (pss_one (ps_raise rfl (takes_of rfl rfl rfl rfl) (pmk_oex XB.c XB.iC XB.tI XB.ok hrX XB.b .nil pass0 rfl XB.mg_ (pa_cons pe_str pa_nil)))) pss_nil)
      (pss_cons (ps_set (i := 7) sc_Rules_init.nd rfl (Or.inl rfl) pe_int)
      (pss_cons (ps_for (passes_of rfl) rfl (pi_list (pv 6)) (pg_name (i := 8) sc_Rules_init.nd rfl (Or.inl rfl)) (pss_one (ps_set (i := 7) sc_Rules_init.nd rfl (Or.inl rfl) (pe_op op_mul (pv 7) (pe_op op_add (pv 8) pe_int)))))
      (pss_cons (ps_if (pt_cmpR op_gt (pv 7) pe_int (nomark _)) (pss_one (ps_raise rfl (takes_of rfl rfl rfl rfl) (pmk_oex XB.c XB.iC XB.tI XB.ok hrX XB.b .nil pass0 rfl XB.mg_ (pa_cons pe_str pa_nil)))) pss_nil)
      (pss_cons (ps_fld (pv 0) (pe_callTy call_tuple_of (by rfl) g.tuple (by decide +kernel) (pa_cons (pv 2) pa_nil)) rfl)
      (pss_cons (ps_fld (pv 0) (pe_callTy call_tuple_of (by rfl) g.tuple (by decide +kernel) (pa_cons (pv 5) pa_nil)) rfl)
      (pss_cons (ps_fld (pv 0) (pe_callTy call_tuple_of (by rfl) g.tuple (by decide +kernel) (pa_cons (pe_call GDi hrDi rfl mDi FDi.kp bDi .nil pass0 (pa_cons (pv 1) pa_nil)) pa_nil)) rfl)
      (pss_cons (ps_fld (pv 0) (pe_callTy call_tuple_of (by rfl) g.tuple (by decide +kernel) (pa_cons (pv 6) pa_nil)) rfl)
      (pss_one (ps_fld (pv 0) (pe_lc (own := [("row", 9)]) (g := gName 9)  (by rfl) sc_Rules_init.nd (pi_list (pe_call GAn hrAn rfl mAn FAn.kp bAn .nil pass0 (pa_cons (pv 6) pa_nil))) (blkOk_by (own := [("row", 9)]) (N := ["self", "loose", "rules", "names", "rule", "kinds", "caps", "product", "cap", "row", "kind"]) (sc := defScope s_Rules_init) (by decide +kernel)) (fun _ _ _ _ _ => (pg_name (i := 9) sc_Rules_init.nd rfl (Or.inl rfl))) (fun _ _ _ _ _ => (pts_one (pt_val (pe_call GWi hrWi rfl mWi FWi.kp bWi .nil pass0 (pa_cons (pv 2) (pa_cons (pv 5) (pa_cons (pv 9) pa_nil))))))) (fun _ _ _ _ _ => (pv 9))) rfl)))))))))))))))))), ?_⟩
  have bad : ∀ {H1 : Hp} (z : Str), Same H H1 → BadS B H z E → _ := fun {H1} z s1 hb => xmk (C := B) (fld := "what") (y := .str z) (H1 := H1) (Q := E) fun dd hdd => hb H1 dd s1 hdd
  -- is each entry a rule
  have goes : ∀ {bs : List Bool}, Paired (RuE a Cc H) ps bs → ∀ {i : Nat} {y : V} {b : Bool}, ps[i]? = some y → bs[i]? = some b → ∀ {H' : Hp}, Same H H' → ∃ ty, TyX K H' y ty ∧ PySem.W.kitOne K ty (.ref a.R) = some b := by
    intro bs hq i y b hy hb H' s'
    obtain ⟨b', hb', hz⟩ := paired_get hq hy
    rw [hb] at hb'
    obtain rfl := Option.some.inj hb'
    rcases hz with ⟨e, p, c, l, m, ks, rfl, hh⟩ | ⟨e, hh | ⟨p, dx, fs, rfl, hh⟩⟩
    · subst e
      obtain ⟨dx, kt, fs, hp, _⟩ := hh.same s'
      exact ⟨_, (Wo.ri c).ty (K := K) hp, Wo.kitR c⟩
    · subst e
      obtain ⟨ty, h1, h2⟩ := (hh.same s').tyx (K := K)
      exact ⟨_, h2, hTR ty h1⟩
    · subst e
      exact ⟨_, ciC.ty (s' _ _ hh), hCR⟩
  refine ⟨_, rfl, _, _, rfl, .inr ⟨_, SqT.of hR, rfl⟩, _, _, rfl, rfl, _, rfl, ?_⟩
  by_cases c1 : 1 ≤ ps.length
  case neg =>
    rw [decide_eq_false (show ¬ (1 : Int) ≤ (ps.length : Int) by omega)]
    refine iteF ⟨_, rfl, iteT ?_⟩
    cases h with
    | rules bs hq c k => exact bad "rules" (Same.refl H) k
    | noseq rs hrs lo => have := hrs.len; omega
    | loose rs hrs lo => have := hrs.len; omega
    | kinds rs hrs lo => have := hrs.len; omega
    | counts rs hrs lo => have := hrs.len; omega
  rw [decide_eq_true (show (1 : Int) ≤ (ps.length : Int) by omega)]
  refine iteT ⟨_, _, rfl, rfl, _, rfl, ?_⟩
  by_cases c2 : ps.length ≤ 4
  case neg =>
    rw [decide_eq_false (show ¬ (ps.length : Int) ≤ 4 by omega)]
    refine iteT ?_
    cases h with
    | rules bs hq c k => exact bad "rules" (Same.refl H) k
    | noseq rs hrs lo hi => have := hrs.len; omega
    | loose rs hrs lo hi => have := hrs.len; omega
    | kinds rs hrs lo hi => have := hrs.len; omega
    | counts rs hrs lo hi => have := hrs.len; omega
  rw [decide_eq_true (show (ps.length : Int) ≤ 4 by omega)]
  refine iteF ?_
  obtain ⟨bs, hq, hbs⟩ : ∃ bs : List Bool, Paired (RuE a Cc H) ps bs ∧ ((false ∈ bs ∧ BadS B H "rules" E) ∨ (bs.all id = true ∧ ∃ rs, RsAt a H ps rs ∧ 1 ≤ rs.length ∧ rs.length ≤ 4 ∧ (((l = .non ∨ ∃ z, l = .str z) ∧ BadS B H "loose" E) ∨
      (∃ ll ys, l = .ref ll ∧ Sq2 H ll ys ∧ ys.length ≤ 100 ∧ (∀ v ∈ ys, VO H v) ∧ looseB (rs.flatMap RuD.ks) ys = false ∧ BadS B H "loose" E) ∨
      (∃ ll ks, l = .ref ll ∧ Sq2 H ll [] ∧ Asc ks ∧ (∀ z, z ∈ ks ↔ ∃ r ∈ rs, z ∈ r.ks) ∧ (((4 < ks.length ∨ ∃ z ∈ ks, capOf rs z = none) ∧ BadS B H "kinds" E) ∨ (ks.length ≤ 4 ∧ (∀ z ∈ ks, ∃ n, capOf rs z = some n ∧ Bnd9 n) ∧ 1000 < prodN (capsN rs ks) ∧ BadS B H "counts" E)))))) := by
    have ofR : ∀ {rs : List RuD}, RsAt a H ps rs → Paired (RuE a Cc H) ps (ps.map fun _ => true) := fun hrs => by
      unfold RsAt at hrs
      clear hR hpl h c1 c2 goes
      induction hrs with
      | nil => exact .nil
      | cons hz _ ih =>
        obtain ⟨p, e, hh, _⟩ := hz
        exact .cons (.inl ⟨rfl, p, _, _, _, _, e, hh⟩) ih
    have allT : (ps.map fun _ => true).all id = true := by rw [List.all_map, List.all_eq_true]; intro _ _; rfl
    cases h with
    | rules bs hq c k =>
      refine ⟨bs, hq, .inl ⟨?_, k⟩⟩
      rcases c with c | c | c
      · subst c; exact absurd c1 (by decide)
      · omega
      · exact c
    | noseq rs hrs lo hi hl k => exact ⟨_, ofR hrs, .inr ⟨allT, rs, hrs, lo, hi, .inl ⟨hl, k⟩⟩⟩
    | loose rs hrs lo hi ll ys el hl hn hv hb k => exact ⟨_, ofR hrs, .inr ⟨allT, rs, hrs, lo, hi, .inr (.inl ⟨ll, ys, el, hl, hn, hv, hb, k⟩)⟩⟩
    | kinds rs hrs lo hi ll el hl ks ha hm c k => exact ⟨_, ofR hrs, .inr ⟨allT, rs, hrs, lo, hi, .inr (.inr ⟨ll, ks, el, hl, ha, hm, .inl ⟨c, k⟩⟩)⟩⟩
    | counts rs hrs lo hi ll el hl ks ha hm c hc hp k => exact ⟨_, ofR hrs, .inr ⟨allT, rs, hrs, lo, hi, .inr (.inr ⟨ll, ks, el, hl, ha, hm, .inr ⟨c, hc, hp, k⟩⟩)⟩⟩
  clear h
  have hbl : bs.length = ps.length := hq.length.symm
  refine ⟨_, rfl, R, rfl, ⟨_, SqT.of hR⟩, fun D hD => lc_valsT (ys := bs.map V.bl) (by rw [List.length_map, hbl]) hR hD (by omega) (fun _ => rfl) (fun i y b ha hb H' s' Qe qk => ?_) fun H1 s1 hD1 => ?_⟩
  · rw [List.getElem?_map] at hb
    cases eb : bs[i]? with
    | none => rw [eb] at hb; cases hb
    | some b0 =>
      rw [eb] at hb
      obtain rfl := Option.some.inj hb
      obtain ⟨ty, h1, h2⟩ := goes hq ha eb s'
      exact ⟨_, rfl, _, _, _, _, _, rfl, .own a.R, h1, h2, qk _ (Same.refl _)⟩
  refine ⟨D, bs, rfl, SqL.of hD1, ?_⟩
  rcases hbs with ⟨hf, k⟩ | ⟨hall, rs, hrs, lo, hi, h⟩
  · have e : bs.all id = false := by
      rw [List.all_eq_false]
      exact ⟨false, hf, by simp⟩
    rw [e]
    refine ⟨_, rfl, iteT ?_⟩
    exact bad "rules" s1 k
  rw [hall]
  refine ⟨_, rfl, iteF ?_⟩
  have hlp := hrs.len
  -- names
  refine ⟨Nat.zero_le _, fun N0 hN0 => ?_⟩
  have s2 : Same H1 (upd H1 N0 (.lst [])) := Same.new hN0
  have gN0 : (upd H1 N0 (.lst [])) N0 = some (.lst []) := upd_same
  generalize upd H1 N0 (.lst []) = H2 at s2 gN0
  have s02 := s1.trans s2
  refine ⟨_, rfl, R, rfl, ⟨_, SqT.of (s02 _ _ hR)⟩, for_tup (K := K) (a := R) (xs := ps) (fun i σ' H' => ∃ (N : Addr) (x4 : Option V), σ' = [some (.ref x), some l, some (.ref R), some (.ref N), x4, none, none, none, none, none, none] ∧ Same H H' ∧ H' N = some (.lst (((rs.take i).flatMap RuD.ks).map V.str))) ⟨N0, _, rfl, s02, gN0⟩ (fun i σ' H' _ ⟨_, _, _, h, _⟩ => SqT.of (h _ _ hR)) ?_ ?_⟩
  · rintro i y σ' H' hy ⟨N, x4, rfl, s', gN⟩
    obtain ⟨p, r, hr1, rfl, hrA, hro⟩ := (hrs.same s').at hy
    obtain ⟨dx', kt, fs, hp, hkt, f1, f2, f3, f4⟩ := hrA
    have rc := Wo.rc r.c
    refine ⟨_, rfl, _, rfl, p, _, dx', fs, _, rfl, hp, rc.cl, rc.nk, f1, kt, _, rfl, .inr (SqT.of hkt), fun l2 hl2' => ?_⟩
    have u1 : Same H' (upd H' l2 (.lst (r.ks.map V.str))) := Same.new hl2'
    have g1 : (upd H' l2 (.lst (r.ks.map V.str))) l2 = some (.lst (r.ks.map V.str)) := upd_same
    generalize upd H' l2 (.lst (r.ks.map V.str)) = H3 at u1 g1
    refine ⟨N, l2, _, _, rfl, rfl, u1 _ _ gN, g1, ?_, fun N2 hN2 => ⟨N2, _, rfl, (s'.trans u1).trans (Same.new hN2), ?_⟩⟩
    · rw [List.length_map, List.length_map]
      have h1 := names_len (rs := rs.take i) fun r h => hrs.oks r (List.mem_of_mem_take h)
      have h2 := hro.1.hi
      rw [List.length_take] at h1
      exact Nat.le_trans (show _ ≤ 100 by omega) (by decide)
    · rw [upd_same, List.take_succ, hr1, List.flatMap_append, List.map_append]
      simp
  rintro σ' H3 ⟨N, x4, rfl, s3, gN⟩
  rw [hlp, List.take_length] at gN
  -- loose
  refine ⟨_, rfl, by show 2 ≤ sizeLine; decide, fun tp htp => ?_⟩
  have s4 : Same H3 (upd H3 tp (.tup [.ty "list", .ty "tuple"])) := Same.new htp
  have gtp : (upd H3 tp (.tup [.ty "list", .ty "tuple"])) tp = some (.tup [.ty "list", .ty "tuple"]) := upd_same
  generalize upd H3 tp (.tup [.ty "list", .ty "tuple"]) = H4 at s4 gtp
  have s04 := s3.trans s4
  have gN4 := s4 _ _ gN
  rcases h with ⟨hl, k⟩ | h
  · obtain ⟨ty, ht, e1, e2⟩ : ∃ ty, TyX K H4 l (.type ty) ∧ kitB ty "list" = some false ∧ kitB ty "tuple" = some false := by
      rcases hl with e | ⟨z, e⟩ <;> subst e
      · exact ⟨"NoneType", .base .non, by decide +kernel, by decide +kernel⟩
      · exact ⟨"str", .base (.str z), by decide +kernel, by decide +kernel⟩
    refine ⟨l, tp, _, _, _, false, rfl, gtp, .cons (.ty "list") (.cons (.ty "tuple") .nil), ht, kitAny_cons (b := false) (kit_ty e1) (fun _ => kitAny_cons (b := false) (kit_ty e2) (fun _ => rfl) (fun h => h)) (fun h => h), _, rfl, iteT ?_⟩
    exact bad "loose" s04 k
  obtain ⟨ll, ys, el, hl, hn, hv, hh⟩ : ∃ (ll : Addr) (ys : List V), l = .ref ll ∧ Sq2 H ll ys ∧ ys.length ≤ 100 ∧ (∀ v ∈ ys, VO H v) ∧ ((looseB (rs.flatMap RuD.ks) ys = false ∧ BadS B H "loose" E) ∨ (ys = [] ∧ ∃ ks, Asc ks ∧ (∀ z, z ∈ ks ↔ ∃ r ∈ rs, z ∈ r.ks) ∧ (((4 < ks.length ∨ ∃ z ∈ ks, capOf rs z = none) ∧ BadS B H "kinds" E) ∨ (ks.length ≤ 4 ∧ (∀ z ∈ ks, ∃ n, capOf rs z = some n ∧ Bnd9 n) ∧ 1000 < prodN (capsN rs ks) ∧ BadS B H "counts" E)))) := by
    rcases h with ⟨ll, ys, el, hl, hn, hv, hb, k⟩ | ⟨ll, ks, el, hl, ha, hm, h⟩
    · exact ⟨ll, ys, el, hl, hn, hv, .inl ⟨hb, k⟩⟩
    · exact ⟨ll, [], el, hl, Nat.zero_le _, (fun v h => absurd h List.not_mem_nil), .inr ⟨rfl, ks, ha, hm, h⟩⟩
  clear h
  subst el
  have hl4 := hl.same s04
  have hty : ∃ b : Bool, TyX K H4 (.ref ll) (.type (if b then "list" else "tuple")) ∧ kitB (if b then "list" else "tuple") "list" = some b ∧ (b = false → kitB (if b then "list" else "tuple") "tuple" = some true) := by
    rcases hl4 with q | q
    · exact ⟨true, .base (.lst q), by decide +kernel, fun h => by cases h⟩
    · exact ⟨false, .base (.tup q), by decide +kernel, fun _ => by decide +kernel⟩
  obtain ⟨b0, hty, k1, k2⟩ := hty
  refine ⟨_, tp, _, _, _, true, rfl, gtp, .cons (.ty "list") (.cons (.ty "tuple") .nil), hty, kitAny_cons (b := b0) (kit_ty k1) (fun h => kitAny_cons (b := true) (kit_ty (k2 h)) (fun h => by cases h) (fun _ => rfl)) (fun _ => rfl), _, rfl, iteF ?_⟩
  refine ⟨_, rfl, _, _, rfl, hl4.len.imp (fun q => ⟨_, q, rfl⟩) (fun q => ⟨_, q, rfl⟩), _, _, rfl, rfl, _, rfl, ?_⟩
  by_cases c3 : ys.length ≤ 2
  case neg =>
    rw [decide_eq_true (show (2 : Int) < (ys.length : Int) by omega)]
    refine iteT ?_
    rcases hh with ⟨_, k⟩ | ⟨e, _⟩
    · exact bad "loose" s04 k
    · subst e; exact absurd (show ([] : List V).length ≤ 2 by decide) c3
  rw [decide_eq_false (show ¬ (2 : Int) < (ys.length : Int) by omega)]
  refine iteF ?_
  have hnm : ∀ z, z ∈ rs.flatMap RuD.ks ↔ ∃ r ∈ rs, z ∈ r.ks := fun z => List.mem_flatMap
  obtain ⟨ysB, eB⟩ : ∃ ysB : List Bool, ysB = ys.map fun y => kndV y && notIn (rs.flatMap RuD.ks) y := ⟨_, rfl⟩
  rcases hl4 with hq4 | hq4
  · refine .inl ⟨_, rfl, ll, rfl, ⟨_, SqL.of hq4⟩, fun D hD => lc_vals (ys := ysB.map V.bl) (by rw [eB, List.length_map, List.length_map]) hq4 hD (by omega) (fun _ => rfl) (fun i y b ha hb H' s' Qe qk => ?_) fun H5 s5 hD5 => ?_⟩
    · rw [eB, List.getElem?_map, List.getElem?_map, ha] at hb
      obtain rfl := Option.some.inj hb
      refine ⟨_, rfl, nil_it ?_⟩
      refine knd_ask ((hv y (List.mem_of_getElem? ha)).same (s04.trans s')) fun H2 s2 => ?_
      have q2 : Qe (V.bl (kndV y && notIn (rs.flatMap RuD.ks) y)) H2 := qk H2 s2
      cases ek : kndV y with
      | false =>
        rw [ek] at q2
        exact ⟨_, rfl, iteF q2⟩
      | true =>
        obtain ⟨z, rfl, hz⟩ := kndV_str ek
        refine ⟨_, rfl, iteT ⟨_, rfl, _, rfl, N, _, rfl, .inl (SqL.of (s2 _ _ (s' _ _ gN4))), rfl, flat_strs _, ?_⟩⟩
        show Qe (V.bl (!inV (.str z) ((rs.flatMap RuD.ks).map V.str))) H2
        rw [inV_str]
        rw [ek] at q2
        exact q2
    refine ⟨D, ysB, rfl, SqL.of hD5, ?_⟩
    have s05 := s04.trans s5
    have eall : ysB.all id = ys.all (fun v => kndV v && notIn (rs.flatMap RuD.ks) v) := by rw [eB, List.all_map]; rfl
    cases c4 : ysB.all id with
    | false =>
      refine ⟨_, rfl, iteT ?_⟩
      rcases hh with ⟨_, k⟩ | ⟨e, _⟩
      · exact bad "loose" s05 k
      · subst e
        subst eB
        cases c4
    | true =>
    refine ⟨_, rfl, iteF ?_⟩
    rw [eall] at c4
    obtain ⟨zs, ezs⟩ := knd_strs (ks := ys) (by
      rw [List.all_eq_true] at c4 ⊢
      intro v hv2
      have := c4 v hv2
      rw [Bool.and_eq_true] at this
      exact this.1)
    have hq5 := s5 _ _ hq4
    rw [ezs] at hq5
    have ezl : zs.length = ys.length := by rw [ezs, List.length_map]
    refine ⟨_, rfl, .inl ⟨ll, zs, rfl, SqL.of hq5, by omega, fun p1 H6 ws hp1 s6 h6 ha6 hm6 hle6 => ?_⟩⟩
    have s06 := s05.trans s6
    refine ⟨_, _, rfl, .inl ⟨_, SqL.of h6, rfl⟩, _, rfl, _, _, rfl, .inl ⟨_, SqL.of (s6 _ _ hq5), rfl⟩, _, _, rfl, rfl, _, rfl, ?_⟩
    rw [List.length_map, List.length_map]
    by_cases c6 : zs.Nodup
    case neg =>
      have hlt : ws.length < zs.length := by
        rcases Nat.lt_or_ge ws.length zs.length with q | q
        · exact q
        · exact absurd (nd_of_len ha6.nodup hm6 q) c6
      rw [decide_eq_true (show (ws.length : Int) < (zs.length : Int) by omega)]
      refine iteT ?_
      rcases hh with ⟨_, k⟩ | ⟨e, _⟩
      · exact bad "loose" s06 k
      · subst e
        have : zs = [] := List.length_eq_zero_iff.mp ezl
        subst this
        exact absurd List.nodup_nil c6
    have hlen : ws.length = zs.length := Nat.le_antisymm hle6 (nd_len c6 fun z hz => (hm6 z).mpr hz)
    rw [hlen, decide_eq_false (Int.lt_irrefl _)]
    refine iteF ?_
    rcases hh with ⟨hb, _⟩ | ⟨_, ks, hka, hkm, h⟩
    · unfold looseB at hb
      rw [decide_eq_true c3, c4, decide_eq_true (by rw [ezs]; exact str_inj_nodup.mpr c6)] at hb
      cases hb
    -- kinds
    have hoks := hrs.oks
    have hnl := names_len hoks
    have gN6 := s6 _ _ (s5 _ _ gN4)
    refine ⟨_, rfl, .inl ⟨N, _, rfl, SqL.of gN6, by omega, fun kl H7 ws7 hkl s7 h7 ha7 hm7 hle7 => ?_⟩⟩
    have ek : ws7 = ks := asc_eq ha7 hka fun z => (hm7 z).trans ((hnm z).trans (hkm z).symm)
    subst ek
    have s07 := s06.trans s7
    refine ⟨_, rfl, _, rfl, R, kl, ps, rs, ws7, rfl, s07 _ _ hR, hrs.same s07, hi, h7, by omega, ?_, fun cl H8 hcl s8 h8 => ?_⟩
    · intro z hz
      obtain ⟨r, hr1, hr2⟩ := (hkm z).mp hz
      exact (hoks r hr1).1.kd z hr2
    have s08 := s07.trans s8
    refine ⟨_, rfl, _, _, rfl, .inl ⟨_, SqL.of (s8 _ _ h7), rfl⟩, _, _, rfl, rfl, _, rfl, ?_⟩
    rw [List.length_map]
    by_cases c5 : ws7.length ≤ 4
    case neg =>
      rw [decide_eq_true (show (4 : Int) < (ws7.length : Int) by omega)]
      refine iteT ?_
      rcases h with ⟨_, k⟩ | ⟨q, _⟩
      · exact bad "kinds" s08 k
      · omega
    rw [decide_eq_false (show ¬ (4 : Int) < (ws7.length : Int) by omega)]
    refine iteF ?_
    refine ⟨_, rfl, cl, rfl, ⟨_, SqL.of h8⟩, fun D hD => lc_vals (ys := ws7.map fun z => V.bl (capOf rs z).isSome) (by rw [List.length_map, List.length_map]) h8 hD (by rw [List.length_map]; omega) (fun _ => rfl) (fun i y b ha hb H' s' Qe qk => ?_) fun H9 s9 hD9 => ?_⟩
    · rw [List.getElem?_map] at ha hb
      cases e : ws7[i]? with
      | none => rw [e] at ha; cases ha
      | some z =>
        rw [e] at ha hb
        obtain rfl := Option.some.inj ha
        obtain rfl := Option.some.inj hb
        refine ⟨_, rfl, rfl, ?_⟩
        have q2 : Qe (V.bl (capOf rs z).isSome) H' := qk H' (Same.refl _)
        show Qe (V.bl !decide (optV (capOf rs z) = V.non)) H'
        cases ec : capOf rs z with
        | none => rw [ec] at q2; exact q2
        | some n => rw [ec] at q2; exact q2
    refine ⟨D, ws7.map fun z => (capOf rs z).isSome, rfl, SqL.of (by rw [hD9, List.map_map]; rfl), ?_⟩
    have s09 := s08.trans s9
    have eall2 : (ws7.map fun z => (capOf rs z).isSome).all id = ws7.all fun z => (capOf rs z).isSome := by rw [List.all_map]; rfl
    rw [eall2]
    rcases h with ⟨c, k⟩ | ⟨_, hc, hp, k⟩
    · have e : (ws7.all fun z => (capOf rs z).isSome) = false := by
        rcases c with c | ⟨z, hz, hn⟩
        · omega
        · rw [List.all_eq_false]
          exact ⟨z, hz, by rw [hn]; simp⟩
      rw [e]
      refine ⟨_, rfl, iteT ?_⟩
      exact bad "kinds" s09 k
    have e : (ws7.all fun z => (capOf rs z).isSome) = true := by
      rw [List.all_eq_true]
      intro z hz
      obtain ⟨n, hn, _⟩ := hc z hz
      rw [hn]
      rfl
    rw [e]
    refine ⟨_, rfl, iteF ?_⟩
    have ecl : (ws7.map fun k => optV (capOf rs k)) = (capsN rs ws7).map V.int := by
      unfold capsN
      rw [List.map_map]
      refine List.map_congr_left fun z hz => ?_
      obtain ⟨n, hn, _⟩ := hc z hz
      show optV (capOf rs z) = V.int ((capOf rs z).getD 0)
      rw [hn]
      rfl
    rw [ecl] at h8
    have hc9 : ∀ c ∈ capsN rs ws7, 0 ≤ c ∧ c ≤ 9 := fun c hc2 => by
      obtain ⟨z, hz, rfl⟩ := List.mem_map.mp hc2
      obtain ⟨n, hn, hb⟩ := hc z hz
      rw [hn]
      exact hb
    generalize hcs : capsN rs ws7 = cs at h8 hc9 hp
    have h89 := s9 _ _ h8
    refine ⟨_, rfl, cl, rfl, ⟨_, SqL.of h89⟩, for_list (K := K) (a := cl) (xs := cs.map V.int) (fun i σ' H' => ∃ x8 : Option V, σ' = [some (.ref x), some (.ref ll), some (.ref R), some (.ref N), x4, some (.ref kl), some (.ref cl), some (.int (prodN (cs.take i) : Nat)), x8, none, none] ∧ H' = H9) ⟨_, rfl, rfl⟩ (fun i σ' H' _ h => by obtain ⟨_, _, rfl⟩ := h; exact SqL.of h89) ?_ ?_⟩
    · rintro i y σ' H' hy ⟨x8, rfl, rfl⟩
      rw [List.getElem?_map] at hy
      cases e : cs[i]? with
      | none => rw [e] at hy; cases hy
      | some c =>
        rw [e] at hy
        obtain rfl := Option.some.inj hy
        have hc := (hc9 c (List.mem_of_getElem? e)).1
        have hcb := (hc9 c (List.mem_of_getElem? e)).2
        refine ⟨_, rfl, _, rfl, _, _, rfl, rfl, _, _, rfl, rfl, .inr ⟨by omega, by omega⟩, some (.int c), ?_, rfl⟩
        rw [prodN_take cs i c e, Int.natCast_mul, Int.toNat_of_nonneg (show 0 ≤ c + 1 by omega)]
        rfl
    rintro σ' H' ⟨x8, rfl, eH⟩
    obtain rfl := eH.symm
    rw [List.length_map, List.take_length]
    refine ⟨_, rfl, _, _, rfl, rfl, _, rfl, ?_⟩
    rw [decide_eq_true (show (1000 : Int) < (prodN cs : Int) by omega)]
    refine iteT ?_
    exact bad "counts" s09 k
  · refine .inr ⟨_, rfl, ll, rfl, ⟨_, SqT.of hq4⟩, fun D hD => lc_valsT (ys := ysB.map V.bl) (by rw [eB, List.length_map, List.length_map]) hq4 hD (by omega) (fun _ => rfl) (fun i y b ha hb H' s' Qe qk => ?_) fun H5 s5 hD5 => ?_⟩
    · rw [eB, List.getElem?_map, List.getElem?_map, ha] at hb
      obtain rfl := Option.some.inj hb
      refine ⟨_, rfl, nil_it ?_⟩
      refine knd_ask ((hv y (List.mem_of_getElem? ha)).same (s04.trans s')) fun H2 s2 => ?_
      have q2 : Qe (V.bl (kndV y && notIn (rs.flatMap RuD.ks) y)) H2 := qk H2 s2
      cases ek : kndV y with
      | false =>
        rw [ek] at q2
        exact ⟨_, rfl, iteF q2⟩
      | true =>
        obtain ⟨z, rfl, hz⟩ := kndV_str ek
        refine ⟨_, rfl, iteT ⟨_, rfl, _, rfl, N, _, rfl, .inl (SqL.of (s2 _ _ (s' _ _ gN4))), rfl, flat_strs _, ?_⟩⟩
        show Qe (V.bl (!inV (.str z) ((rs.flatMap RuD.ks).map V.str))) H2
        rw [inV_str]
        rw [ek] at q2
        exact q2
    refine ⟨D, ysB, rfl, SqL.of hD5, ?_⟩
    have s05 := s04.trans s5
    have eall : ysB.all id = ys.all (fun v => kndV v && notIn (rs.flatMap RuD.ks) v) := by rw [eB, List.all_map]; rfl
    cases c4 : ysB.all id with
    | false =>
      refine ⟨_, rfl, iteT ?_⟩
      rcases hh with ⟨_, k⟩ | ⟨e, _⟩
      · exact bad "loose" s05 k
      · subst e
        subst eB
        cases c4
    | true =>
    refine ⟨_, rfl, iteF ?_⟩
    rw [eall] at c4
    obtain ⟨zs, ezs⟩ := knd_strs (ks := ys) (by
      rw [List.all_eq_true] at c4 ⊢
      intro v hv2
      have := c4 v hv2
      rw [Bool.and_eq_true] at this
      exact this.1)
    have hq5 := s5 _ _ hq4
    rw [ezs] at hq5
    have ezl : zs.length = ys.length := by rw [ezs, List.length_map]
    refine ⟨_, rfl, .inr ⟨ll, zs, rfl, SqT.of hq5, by omega, fun p1 H6 ws hp1 s6 h6 ha6 hm6 hle6 => ?_⟩⟩
    have s06 := s05.trans s6
    refine ⟨_, _, rfl, .inl ⟨_, SqL.of h6, rfl⟩, _, rfl, _, _, rfl, .inr ⟨_, SqT.of (s6 _ _ hq5), rfl⟩, _, _, rfl, rfl, _, rfl, ?_⟩
    rw [List.length_map, List.length_map]
    by_cases c6 : zs.Nodup
    case neg =>
      have hlt : ws.length < zs.length := by
        rcases Nat.lt_or_ge ws.length zs.length with q | q
        · exact q
        · exact absurd (nd_of_len ha6.nodup hm6 q) c6
      rw [decide_eq_true (show (ws.length : Int) < (zs.length : Int) by omega)]
      refine iteT ?_
      rcases hh with ⟨_, k⟩ | ⟨e, _⟩
      · exact bad "loose" s06 k
      · subst e
        have : zs = [] := List.length_eq_zero_iff.mp ezl
        subst this
        exact absurd List.nodup_nil c6
    have hlen : ws.length = zs.length := Nat.le_antisymm hle6 (nd_len c6 fun z hz => (hm6 z).mpr hz)
    rw [hlen, decide_eq_false (Int.lt_irrefl _)]
    refine iteF ?_
    rcases hh with ⟨hb, _⟩ | ⟨_, ks, hka, hkm, h⟩
    · unfold looseB at hb
      rw [decide_eq_true c3, c4, decide_eq_true (by rw [ezs]; exact str_inj_nodup.mpr c6)] at hb
      cases hb
    -- kinds
    have hoks := hrs.oks
    have hnl := names_len hoks
    have gN6 := s6 _ _ (s5 _ _ gN4)
    refine ⟨_, rfl, .inl ⟨N, _, rfl, SqL.of gN6, by omega, fun kl H7 ws7 hkl s7 h7 ha7 hm7 hle7 => ?_⟩⟩
    have ek : ws7 = ks := asc_eq ha7 hka fun z => (hm7 z).trans ((hnm z).trans (hkm z).symm)
    subst ek
    have s07 := s06.trans s7
    refine ⟨_, rfl, _, rfl, R, kl, ps, rs, ws7, rfl, s07 _ _ hR, hrs.same s07, hi, h7, by omega, ?_, fun cl H8 hcl s8 h8 => ?_⟩
    · intro z hz
      obtain ⟨r, hr1, hr2⟩ := (hkm z).mp hz
      exact (hoks r hr1).1.kd z hr2
    have s08 := s07.trans s8
    refine ⟨_, rfl, _, _, rfl, .inl ⟨_, SqL.of (s8 _ _ h7), rfl⟩, _, _, rfl, rfl, _, rfl, ?_⟩
    rw [List.length_map]
    by_cases c5 : ws7.length ≤ 4
    case neg =>
      rw [decide_eq_true (show (4 : Int) < (ws7.length : Int) by omega)]
      refine iteT ?_
      rcases h with ⟨_, k⟩ | ⟨q, _⟩
      · exact bad "kinds" s08 k
      · omega
    rw [decide_eq_false (show ¬ (4 : Int) < (ws7.length : Int) by omega)]
    refine iteF ?_
    refine ⟨_, rfl, cl, rfl, ⟨_, SqL.of h8⟩, fun D hD => lc_vals (ys := ws7.map fun z => V.bl (capOf rs z).isSome) (by rw [List.length_map, List.length_map]) h8 hD (by rw [List.length_map]; omega) (fun _ => rfl) (fun i y b ha hb H' s' Qe qk => ?_) fun H9 s9 hD9 => ?_⟩
    · rw [List.getElem?_map] at ha hb
      cases e : ws7[i]? with
      | none => rw [e] at ha; cases ha
      | some z =>
        rw [e] at ha hb
        obtain rfl := Option.some.inj ha
        obtain rfl := Option.some.inj hb
        refine ⟨_, rfl, rfl, ?_⟩
        have q2 : Qe (V.bl (capOf rs z).isSome) H' := qk H' (Same.refl _)
        show Qe (V.bl !decide (optV (capOf rs z) = V.non)) H'
        cases ec : capOf rs z with
        | none => rw [ec] at q2; exact q2
        | some n => rw [ec] at q2; exact q2
    refine ⟨D, ws7.map fun z => (capOf rs z).isSome, rfl, SqL.of (by rw [hD9, List.map_map]; rfl), ?_⟩
    have s09 := s08.trans s9
    have eall2 : (ws7.map fun z => (capOf rs z).isSome).all id = ws7.all fun z => (capOf rs z).isSome := by rw [List.all_map]; rfl
    rw [eall2]
    rcases h with ⟨c, k⟩ | ⟨_, hc, hp, k⟩
    · have e : (ws7.all fun z => (capOf rs z).isSome) = false := by
        rcases c with c | ⟨z, hz, hn⟩
        · omega
        · rw [List.all_eq_false]
          exact ⟨z, hz, by rw [hn]; simp⟩
      rw [e]
      refine ⟨_, rfl, iteT ?_⟩
      exact bad "kinds" s09 k
    have e : (ws7.all fun z => (capOf rs z).isSome) = true := by
      rw [List.all_eq_true]
      intro z hz
      obtain ⟨n, hn, _⟩ := hc z hz
      rw [hn]
      rfl
    rw [e]
    refine ⟨_, rfl, iteF ?_⟩
    have ecl : (ws7.map fun k => optV (capOf rs k)) = (capsN rs ws7).map V.int := by
      unfold capsN
      rw [List.map_map]
      refine List.map_congr_left fun z hz => ?_
      obtain ⟨n, hn, _⟩ := hc z hz
      show optV (capOf rs z) = V.int ((capOf rs z).getD 0)
      rw [hn]
      rfl
    rw [ecl] at h8
    have hc9 : ∀ c ∈ capsN rs ws7, 0 ≤ c ∧ c ≤ 9 := fun c hc2 => by
      obtain ⟨z, hz, rfl⟩ := List.mem_map.mp hc2
      obtain ⟨n, hn, hb⟩ := hc z hz
      rw [hn]
      exact hb
    generalize hcs : capsN rs ws7 = cs at h8 hc9 hp
    have h89 := s9 _ _ h8
    refine ⟨_, rfl, cl, rfl, ⟨_, SqL.of h89⟩, for_list (K := K) (a := cl) (xs := cs.map V.int) (fun i σ' H' => ∃ x8 : Option V, σ' = [some (.ref x), some (.ref ll), some (.ref R), some (.ref N), x4, some (.ref kl), some (.ref cl), some (.int (prodN (cs.take i) : Nat)), x8, none, none] ∧ H' = H9) ⟨_, rfl, rfl⟩ (fun i σ' H' _ h => by obtain ⟨_, _, rfl⟩ := h; exact SqL.of h89) ?_ ?_⟩
    · rintro i y σ' H' hy ⟨x8, rfl, rfl⟩
      rw [List.getElem?_map] at hy
      cases e : cs[i]? with
      | none => rw [e] at hy; cases hy
      | some c =>
        rw [e] at hy
        obtain rfl := Option.some.inj hy
        have hc := (hc9 c (List.mem_of_getElem? e)).1
        have hcb := (hc9 c (List.mem_of_getElem? e)).2
        refine ⟨_, rfl, _, rfl, _, _, rfl, rfl, _, _, rfl, rfl, .inr ⟨by omega, by omega⟩, some (.int c), ?_, rfl⟩
        rw [prodN_take cs i c e, Int.natCast_mul, Int.toNat_of_nonneg (show 0 ≤ c + 1 by omega)]
        rfl
    rintro σ' H' ⟨x8, rfl, eH⟩
    obtain rfl := eH.symm
    rw [List.length_map, List.take_length]
    refine ⟨_, rfl, _, _, rfl, rfl, _, rfl, ?_⟩
    rw [decide_eq_true (show (1000 : Int) < (prodN cs : Int) by omega)]
    refine iteT ?_
    exact bad "counts" s09 k
end
end Cs

set_option Elab.async false
set_option linter.all false
set_option maxRecDepth 100000
set_option maxHeartbeats 4000000
/-! C.m(e, .., k=e2) in a try. -/
namespace Cs
open PySem PySem.Spec PyProof.Rows L2 ClX
/-- a promise that lets nothing out, where something may be let out -/
theorem FnL.upX {P : Program} {w : World} {K : PySem.W.Frag} {mg : Str → Option Value} {base : Heap} {k : Nat} {f : Addr} {nm : Str} {sp : Sp} (F : FnL P w K mg base CX0 k f nm sp) : FnL P w K mg base (L2.CX P w) k f nm sp := by
  intro A outer s H us vs u v Q E hr e0 r ru hs
  refine codeAny_mono (F A outer s H us vs u v Q E hr e0 r ru hs) fun r s' h => ?_
  cases r with
  | ok fl => cases fl <;> exact h
  | error e => exact False.elim h
section
variable {X : Cx} {pins : List (Addr × Obj)} {σ : L2.St} {H : Hp} {s : Shared} {C p g : Addr} {mc : Value} {nm m : Str}
theorem run_fnLS {CX : CXT} {k : Nat} {f : Addr} {sp : Sp} {E : XK} {Q : VK} {us : List Value} {vs : List V} {u : Value} {v : V} (F : FnL X.prog X.w X.K X.mg X.base CX k f nm sp) (hr : Room k X.A) (hx : PassesAt CX X σ E) (I : Inv X pins σ H s) (r : Vals vs us) (ru : RelV v u) (h : sp (v :: vs) H Q E) :
    codeAny (model X.prog X.w) X.A (.call (.ref f) ⟨us, [(nm, u)]⟩) (fun r s' => match r with | .ok (.ret v) => EP X pins σ Q v s' | .ok _ => False | .error e => X.xe e s') s := by
  refine codeAny_mono (F X.A X.stack s H us vs u v Q E hr I.env0 r ru h) fun r s' hq => ?_
  cases r with
  | error e => exact hx pins H s e s' I hq
  | ok fl =>
    cases fl with
    | ret u => exact I.after hq
    | next => exact False.elim hq
    | brk => exact False.elim hq
    | cont => exact False.elim hq
theorem run_cmLS {CX : CXT} {k : Nat} {q : Addr} {sp : Sp} {E : XK} {Q : VK} {us : List Value} {vs : List V} {u : Value} {v : V} (F : FnL X.prog X.w X.K X.mg X.base CX k g nm sp) (hr : Room k X.A) (hx : PassesAt CX X σ E) (I : Inv X ((q, PySem.W.methodObj (.ref g) (.ref C)) :: pins) σ H s)
    (r : Vals vs us) (ru : RelV v u) (h : sp (v :: .ref C :: vs) H Q E) : wpAny (model X.prog X.w) X.A (call (.ref q) us [(nm, u)]) (EP X pins σ Q) X.xe s := by
  have z : wpAny (model X.prog X.w) X.A (call (.ref q) us [(nm, u)]) (EP X ((q, PySem.W.methodObj (.ref g) (.ref C)) :: pins) σ Q) X.xe s :=
    wpAny_call (PySem.W.method_call (pin_at I) (run_fnLS (us := .ref C :: us) (vs := .ref C :: vs) F hr hx I (.cons rfl r) ru h))
  exact thn z fun _ _ y => unpinE y
end
section
variable {X : Cx} {CX : CXT} {k : Nat} {C p g : Addr} {mc : Value} {nm m : Str} {sp : Sp} {E : L2.St → XK} {o e e2 : Expr} {es : List Expr} {pos apos kp : Pos} {ta te2 : TE} {t : TA} {pl : Sem Bool}
def tCMethKS (C : Addr) (sp : Sp) (E : L2.St → XK) (ta : TE) (t : TA) (te2 : TE) : TE := fun σ H Q => ta σ H fun x H1 => x = .ref C ∧ t σ H1 fun vs H2 => te2 σ H2 fun v H3 => sp (v :: .ref C :: vs) H3 Q (E σ)
theorem pe_cmethKS (he : PE X o ta) (r : CRead X.K C mc) (c : CMet X.K C mc m p g) (F : FnL X.prog X.w X.K X.mg X.base CX k g nm sp) (hr : Room k X.A) (hx : ∀ σ, PassesAt CX X σ (E σ)) (ha : PA X (e :: es) t) (he2 : PE X e2 te2)
    (hall : (backToKw pos (keywordEach [⟨some nm, e2, kp⟩] X.env)).all (·.1.isSome) = true := by rfl) (hks : (backToKw pos (keywordEach [⟨some nm, e2, kp⟩] X.env)).filterMap (·.1) = [nm] := by rfl)
    (hst : starEach (e :: es) X.env = (false, eval e X.env) :: starEach es X.env := by rfl) (hpl : ((backTo pos (starEach (e :: es) X.env)).any (·.1) || (backToKw pos (keywordEach [⟨some nm, e2, kp⟩] X.env)).any (·.1.isNone)) = false := by rfl)
    (ht : eval (.Call (.Attribute o m apos) (e :: es) [⟨some nm, e2, kp⟩] pos) X.env = (do
      let ov ← eval o X.env
      standAt apos.atName
      let (f, first) ← holding [ov] (getMethod ov m pl)
      callWith pos f first (backTo pos (starEach (e :: es) X.env)) (backToKw pos (keywordEach [⟨some nm, e2, kp⟩] X.env))) := by rfl) :
    PE X (.Call (.Attribute o m apos) (e :: es) [⟨some nm, e2, kp⟩] pos) (tCMethKS C sp E ta t te2) := by
  refine ⟨fun pins s σ H Q I h => ?_⟩
  refine PySem.W.methodCall_KW (pl := pl) (thn (he.run pins s σ H _ I h) fun u s1 ⟨x, H1, I1, rx, ex, q⟩ => ?_) ht
  subst ex
  obtain rfl : u = Value.ref C := rx
  refine getmethcm_ok I1 r c fun s2 I2 => ?_
  refine PySem.W.callWith_of hpl (PySem.W.keeps_M (self := .ref C) c.fi) (evalArgs_kw2 hall (thn (ha.run pos _ s2 σ H1 _ I2 q) fun us s3 ⟨vs, H2, I3, rv, q2⟩ => ?_) hst)
  refine thn ((pk_cons (kpos := kp) (nm := some nm) he2 pk_nil).run pos _ s3 σ H2 (fun zs H3 => match zs with
    | [z] => sp (z :: .ref C :: vs) H3 Q (E σ)
    | _ => False) I3 q2) fun ws s4 ⟨zs, H3, I4, rz, q3⟩ => ?_
  match zs, q3, rz with
  | [z], q3, .cons ru .nil =>
    rw [hks]
    exact ⟨⟨pin_at I4, I4.kIn⟩, run_cmLS F hr (hx σ) I4 rv ru q3⟩
end
end Cs

set_option Elab.async false
set_option linter.all false
set_option maxRecDepth 100000
set_option maxHeartbeats 8000000
set_option pp.maxSteps 600
/-! Rules.of, of any values. -/
namespace Cs
open PySem L2 NdefX
theorem Bad19.same {K : PySem.W.Frag} {a : RAd} {Cc B : Addr} {H H' : Hp} {E : XK} {l : V} {ps : List V} (s : Same H H') (h : Bad19 K a Cc B H E l ps) : Bad19 K a Cc B H' E l ps := by
  cases h with
  | rules bs h c k => exact .rules bs (L2.Paired.mapP h fun _ _ q => q.same s) c (k.same s)
  | noseq rs h lo hi hl k => exact .noseq rs (h.same s) lo hi hl (k.same s)
  | loose rs h lo hi ll ys el hl hn hv hb k => exact .loose rs (h.same s) lo hi ll ys el (hl.same s) hn (fun v q => (hv v q).same s) hb (k.same s)
  | kinds rs h lo hi ll el hl ks ha hm c k => exact .kinds rs (h.same s) lo hi ll el (hl.same s) ks ha hm c (k.same s)
  | counts rs h lo hi ll el hl ks ha hm c hc hp k => exact .counts rs (h.same s) lo hi ll el (hl.same s) ks ha hm c hc hp (k.same s)
theorem Bad19.up {K : PySem.W.Frag} {a : RAd} {Cc B : Addr} {H H' : Hp} {E : XK} {l : V} {ps : List V} (s : Same H H') (h : ∀ E', (∀ z, BadS B H z E → BadS B H' z E') → Bad19 K a Cc B H E' l ps) : Bad19 K a Cc B H' E l ps := (h E fun z q => q.same s).same s
section
variable {P : Program} {w : World} {K : PySem.W.Frag} {mg : Str → Option Value} {base : Heap}
def spRulesX (K : PySem.W.Frag) (a : RAd) (Cc B C : Addr) : Sp := fun vs H Q E => ∃ (x dx : Addr) (l : V) (ps : List V), vs = l :: .ref x :: ps ∧ H x = some (.ins C dx []) ∧ ps.length ≤ 100 ∧
  ((∃ (ll : Addr) (rs : List RuD) (ks ls : List Str), l = .ref ll ∧ RsAt a H ps rs ∧ H ll = some (.lst (ls.map V.str)) ∧ RsOk rs ks ls ∧ ∀ H', (∀ b o, H b = some o → b ≠ x → H' b = some o) → Q .non H') ∨ Bad19 K a Cc B H E l ps)
theorem ok_rulesX {B C Cc f fIk fDi fCp fAn fWi fX : Addr} {fdIk fdDi fdCp fdAn fdWi fdX : FuncData} {a : RAd} {oc od dV kV doc pm an cdv ct osl} (g : Bi mg) (Wo : RWo K mg a) (RK : RsC K C) (ciC : CI K Cc)
    (FIk : Def P w K mg base CX0 2 "is_kind" ["thing"] (spIsKind K) fIk fdIk) (FDi : Def P w K mg base CX0 1 "distinct" ["words"] (spDistinct K) fDi fdDi) (FDt : Def P w K mg base CX0 1 "distinct" ["words"] (spDistinctT K) fDi fdDi)
    (FCp : Def P w K mg base CX0 1 "caps_of" ["rules", "kinds"] (spCaps a) fCp fdCp) (FAn : Def P w K mg base CX0 1 "all_numbers" ["caps"] spAllN fAn fdAn) (FWi : Def P w K mg base CX0 1 "is_within" ["rules", "kinds", "numbers"] (spWithin a) fWi fdWi)
    (XB : XDef P w K mg base "BadRules" B fX "what" ["self", "what"] fdX) (hTR : ∀ ty, ty ∈ TY6V → PySem.W.kitOne K (.type ty) (.ref a.R) = some false) (hCR : PySem.W.kitOne K (.ref Cc) (.ref a.R) = some false)
    (lk : K.lookup f = some ⟨oc, od, .func (PySem.W.fnOf "__init__" "Rules.__init__" (defArgs s_Rules_init) (defBody s_Rules_init) (defScope s_Rules_init) dV kV doc pm an cdv ct), osl⟩) (hcd : PySem.W.codeIn K cdv "Rules.__init__" = true)
    (hb : ∀ (us rest : List Value) (u : Value), us.length = 1 → bindArgs (PySem.W.fnOf "__init__" "Rules.__init__" (defArgs s_Rules_init) (defBody s_Rules_init) (defScope s_Rules_init) dV kV doc pm an cdv ct) ⟨us ++ rest, [(("loose" : Str), u)]⟩ = (newTuple rest >>= fun t => pure ((["self"] : List Str).zip us ++ [(("loose" : Str), u), (("rules" : Str), t)]))) :
    FnL P w K mg base (L2.CX P w) 3 f "loose" (spRulesX K a Cc B C) := by
  have G1 := (ok_rules (P := P) (w := w) (mg := mg) (base := base) (C := C) g Wo RK FIk FDi FCp FAn FWi lk hcd hb).upX
  have FD2 : Def P w K mg base CX0 1 "distinct" ["words"] (fun vs H Q E => spDistinct K vs H Q E ∨ spDistinctT K vs H Q E) fDi fdDi := ⟨FnOk.or FDi.ok FDt.ok, FDi.m, FDi.kp, FDi.b⟩
  have G := fn_kwstar (P := P) (w := w) (mg := mg) (base := base) (CX := L2.CX P w) (k := 2) (ps := ["self"]) (pv := "rules") (nm := "loose") (sp := spRulesXB K a Cc B C) lk hcd sc_Rules_init StX.cxUp hb
    (fun A outer s H vs Q E hr h => rules_bodyX (P := P) (w := w) (mg := mg) (base := base) (outer := outer) (s := s) g Wo RK ciC FIk FD2 FCp FAn FWi XB hTR hCR hr h)
  intro A outer s H us vs u v Q E hr e0 r ru hsp
  obtain ⟨x, dx, l, ps, e, hx, hln, h⟩ := hsp
  rcases h with ⟨ll, rs, ks, ls, rfl, hrs, hl, ok, k⟩ | hb
  · exact G1 A outer s H us vs u v Q E hr e0 r ru ⟨x, dx, ll, ps, rs, ks, ls, e, hx, hrs, hl, ok, fun ev H' _ _ h2 => k H' h2⟩
  · refine G A outer s H us vs u v Q E hr e0 r ru ?_
    refine ⟨l, [.ref x], ps, e, rfl, Nat.le_trans hln (by decide), fun p hp => ?_⟩
    have s1 : Same H (upd H p (.tup ps)) := Same.new hp
    exact ⟨x, dx, p, l, ps, rfl, s1 _ _ hx, upd_same, hln, hb.same s1⟩
/-- Rules.of of any values, loose told first -/
def spRsX (K : PySem.W.Frag) (a : RAd) (Cc B C : Addr) : Sp := fun vs H Q E => ∃ (rl : Addr) (l : V) (ps : List V), vs = [.ref C, .ref rl, l] ∧ H rl = some (.lst ps) ∧ ps.length ≤ 100 ∧
  ((∃ (ll : Addr) (rs : List RuD) (ks ls : List Str), l = .ref ll ∧ RsAt a H ps rs ∧ H ll = some (.lst (ls.map V.str)) ∧ RsOk rs ks ls ∧ ∀ x H', Same H H' → Q (.ref x) H') ∨ Bad19 K a Cc B H E l ps)
theorem ok_rules_ofX {B C Cc f fI : Addr} {fd : FuncData} {a : RAd} {dvs : List V} (F : FunD K "of" "Rules.of" (defArgs s_Rules_of) (defBody s_Rules_of) (defScope s_Rules_of) dvs [] f fd) (MK : Mk K C fI) (IK : FnL P w K mg base (L2.CX P w) 3 fI "loose" (spRulesX K a Cc B C)) : FnOk P w K mg base (L2.CX P w) 5 f fd ["cls", "rules", "loose"] (spRsX K a Cc B C) := by
  refine F.ok sc_Rules_of (fun vs H Q E h => ?_) (fun cdv A outer s H vs Q E hr h => ?_)
  · obtain ⟨_, _, _, rfl, _⟩ := h
    rfl
  · obtain ⟨rl, l, ps, rfl, hrl, hln, h⟩ := h
    have hrI : Room 4 _ := hr
    refine ⟨_, (pss_one (ps_ret (pe_mkSLk (i := 0) MK IK hrI rfl (Or.inl rfl) (passes_call (takes_of rfl rfl rfl rfl) fun _ _ _ _ h => h) (pv 1) (pv 2)))), ?_⟩
    refine ⟨rfl, _, rfl, _, rfl, rl, ps, rfl, .inr (SqL.of hrl), fun x dx hx hdx ne => ?_⟩
    have s1 : Same H (upd H dx (.own x)) := Same.new hdx
    have hx1 : (upd H dx (.own x)) x = none := by rw [upd_ne ne.symm]; exact hx
    have s12 := s1.trans (Same.new (o := .ins C dx []) hx1)
    refine ⟨x, dx, l, ps, rfl, upd_same, hln, ?_⟩
    rcases h with ⟨ll, rs, ks, ls, rfl, hrs, hl, ok, k⟩ | hb
    · exact .inl ⟨ll, rs, ks, ls, rfl, hrs.same s12, s12 _ _ hl, ok, fun H' h2 => ⟨rfl, k x H' fun b o e => h2 _ _ (s12 _ _ e) (ne_of_none e hx)⟩⟩
    · exact .inr (hb.same s12)
end
end Cs

set_option Elab.async false
set_option linter.all false
set_option maxRecDepth 100000
set_option maxHeartbeats 8000000
set_option pp.maxSteps 600
/-! The law of sets of rules refused: plain. -/
namespace Cs
open PySem L2
theorem prodN_from (cs : List Int) : ∀ m : Nat, cs.foldl (fun m c => m * (c + 1).toNat) m = m * prodN cs := by
  unfold prodN
  induction cs with
  | nil => intro m; simp
  | cons c cs ih =>
    intro m
    rw [List.foldl_cons, List.foldl_cons, ih, ih (1 * _)]
    rw [Nat.one_mul, Nat.mul_assoc]
theorem prodN_cons (c : Int) (cs : List Int) : prodN (c :: cs) = (c + 1).toNat * prodN cs := by
  show (cs.foldl (fun m c => m * (c + 1).toNat) (1 * (c + 1).toNat)) = _
  rw [prodN_from, Nat.one_mul]
theorem prodN_perm {cs ds : List Int} (h : cs.Perm ds) : prodN cs = prodN ds := by
  induction h with
  | nil => rfl
  | cons c _ ih => rw [prodN_cons, prodN_cons, ih]
  | swap a b l => rw [prodN_cons, prodN_cons, prodN_cons, prodN_cons, ← Nat.mul_assoc, ← Nat.mul_assoc, Nat.mul_comm (b + 1).toNat (a + 1).toNat]
  | trans _ _ ih1 ih2 => rw [ih1, ih2]
/-- two rules that say at most 9 of three kinds and at most e of a fourth -/
def wideR (e : Int) (a b c d : Str) : List RuD := [⟨.am, 0, some 9, [a, b, c]⟩, ⟨.am, 0, some e, [d]⟩]
theorem wide_cap {e : Int} {a b c d : Str} (nd : [a, b, c, d].Nodup) : capOf (wideR e a b c d) a = some 9 ∧ capOf (wideR e a b c d) b = some 9 ∧ capOf (wideR e a b c d) c = some 9 ∧ capOf (wideR e a b c d) d = some e := by
  simp only [List.nodup_cons, List.mem_cons, List.not_mem_nil, or_false, not_or] at nd
  obtain ⟨⟨n1, n2, n3⟩, ⟨n4, n5⟩, n6, _⟩ := nd
  have m1 := Ne.symm n3
  have m2 := Ne.symm n5
  have m3 := Ne.symm n6
  refine ⟨?_, ?_, ?_, ?_⟩ <;> simp [capOf, mostsOf, wideR, minL, n1, n2, n3, n4, n5, n6, m1, m2, m3]
theorem wide_prod {e : Int} {a b c d : Str} {ks : List Str} (nd : [a, b, c, d].Nodup) (hp : ks.Perm [a, b, c, d]) : prodN (capsN (wideR e a b c d) ks) = 1000 * (e + 1).toNat := by
  obtain ⟨h1, h2, h3, h4⟩ := wide_cap (e := e) nd
  unfold capsN
  rw [prodN_perm (hp.map _)]
  simp only [List.map_cons, List.map_nil, h1, h2, h3, h4, Option.getD_some]
  rw [prodN_cons, prodN_cons, prodN_cons, prodN_cons]
  show 10 * (10 * (10 * ((e + 1).toNat * 1))) = _
  omega
theorem wide_caps {e : Int} {a b c d : Str} {ks : List Str} (he : Bnd9 e) (nd : [a, b, c, d].Nodup) (hp : ks.Perm [a, b, c, d]) : ∀ z ∈ ks, ∃ n, capOf (wideR e a b c d) z = some n ∧ Bnd9 n := by
  obtain ⟨h1, h2, h3, h4⟩ := wide_cap (e := e) nd
  intro z hz
  have := hp.mem_iff.mp hz
  simp only [List.mem_cons, List.not_mem_nil, or_false] at this
  have b9 : Bnd9 9 := ⟨by decide, by decide⟩
  rcases this with q | q | q | q <;> subst q
  · exact ⟨_, h1, b9⟩
  · exact ⟨_, h2, b9⟩
  · exact ⟨_, h3, b9⟩
  · exact ⟨_, h4, he⟩
theorem wide_mem {e : Int} {a b c d : Str} {ks : List Str} (hp : ks.Perm [a, b, c, d]) : ∀ z, z ∈ ks ↔ ∃ r ∈ wideR e a b c d, z ∈ r.ks := fun z => by
  rw [hp.mem_iff]
  simp only [wideR, List.mem_cons, List.not_mem_nil, or_false, exists_eq_or_imp, exists_eq_left]
  constructor
  · rintro (q | q | q | q)
    · exact .inl (.inl q)
    · exact .inl (.inr (.inl q))
    · exact .inl (.inr (.inr q))
    · exact .inr q
  · rintro ((q | q | q) | q)
    · exact .inl q
    · exact .inr (.inl q)
    · exact .inr (.inr (.inl q))
    · exact .inr (.inr (.inr q))
theorem wide_ok {a b c d : Str} {ks ls : List Str} (nd : [a, b, c, d].Nodup) (ha : Asc ks) (hp : ks.Perm [a, b, c, d]) (l2 : ls.length ≤ 2) (lk : ∀ z ∈ ls, Kind z ∧ z ∉ ks) (ln : ls.Nodup) : RsOk (wideR 0 a b c d) ks ls where
  lo := by show 1 ≤ 2; decide
  hi := by show 2 ≤ 4; decide
  asc := ha
  mem := wide_mem hp
  few := by rw [hp.length_eq]; exact Nat.le_refl 4
  cap := wide_caps ⟨by decide, by decide⟩ nd hp
  pr := by rw [wide_prod nd hp]; decide
  l2 := l2
  lk := lk
  nd := ln
end Cs

set_option Elab.async false
set_option linter.all false
set_option maxRecDepth 100000
set_option maxHeartbeats 8000000
set_option pp.maxSteps 600
/-! The law of sets of rules refused: its helpers. -/
namespace Cs
open PySem L2
section
variable {P : Program} {w : World} {K : PySem.W.Frag} {mg : Str → Option Value} {base : Heap}
def spWhat19 (K : PySem.W.Frag) (a : RAd) (Cc B : Addr) : Sp := fun vs H Q _ => ∃ (rl : Addr) (l : V) (ps : List V), vs = [.ref rl, l] ∧ H rl = some (.lst ps) ∧ ps.length ≤ 100 ∧
  ((∃ (ll : Addr) (rs : List RuD) (ks ls : List Str), l = .ref ll ∧ RsAt a H ps rs ∧ H ll = some (.lst (ls.map V.str)) ∧ RsOk rs ks ls ∧ ∀ H', Same H H' → Q (.str "") H') ∨
    (∃ z : Str, (∀ E, BadS B H z E → Bad19 K a Cc B H E l ps) ∧ ∀ H', Same H H' → Q (.str z) H'))
theorem ok_what19 {f g1 q1 B C Cc fX ce cbr : Addr} {mr : Value} {fd fdX : FuncData} {a : RAd} (F : Fun K "_law_what" "_law_what" s_l_what f fd) (g : Bi mg) (mRs : mg "Rules" = some (.ref C)) (r : ClX.CRead K C mr) (c : ClX.CMet K C mr "of" q1 g1)
    (G : FnL P w K mg base (L2.CX P w) 5 g1 "loose" (fun vs H Q E => ∃ v ws, vs = v :: ws ∧ spRsX K a Cc B C (ws ++ [v]) H Q E))
    (XB : XDef P w K mg base "BadRules" B fX "what" ["self", "what"] fdX) (EC : ExcC K B) (XF : XfC K B) (hno : PySem.W.findIn K (.ref B) "what" = some none) (mCE : mg "CountsheldError" = some (.ref ce)) (mBR : mg "BadRule" = some (.ref cbr)) (k1 : PySem.W.kitOne K (.ref B) (.ref ce) = some true) (k2 : PySem.W.kitOne K (.ref B) (.ref cbr) = some false) :
    FnOk P w K mg base CX0 6 f fd ["_law_rules", "_law_free"] (spWhat19 K a Cc B) := by
  refine F.ok sc_l_what (fun vs H Q E h => ?_) (fun cdv A outer s H vs Q E hr h => ?_)
  · obtain ⟨_, _, _, rfl, _⟩ := h
    rfl
  · obtain ⟨rl, l, ps, rfl, hrl, hln, h⟩ := h
    have hrC : Room 5 _ := hr
    refine ⟨_, (pss_cons (ps_try_as (i := 2) (tb := fun W => tDrop (tCMethKS C (fun vs H Q E => ∃ v ws, vs = v :: ws ∧ spRsX K a Cc B C (ws ++ [v]) H Q E) (WE W) (tC (.ref C)) (tCons (tVar 0) tNil) (tVar 1))) rfl rfl sc_l_what.nd rfl rfl ⟨rfl, by decide, Or.inl XB.mg_⟩ takes0
          (fun W pn xe tk _ => pss_one (ps_expr (pe_cmethKS (pe_glob (v := .ref C) rfl mRs rfl) r c G hrC (fun σ => passAt tk σ) (pa_cons (pv 0) pa_nil) (pv 1))))
          (fun ae oe cls d pn hz hf => pss_one (ps_ret (pe_ifExp (PW.pt (pw_and (pt_val (pe_callB (call_isD hz hf) (by rfl) g.isinstance (by decide +kernel) (pa_cons (pv 2) (pa_cons (pe_glob (v := .ref ce) rfl mCE rfl) pa_nil)))) (pw_and1 (pt_not (pt_val (pe_callB (call_isD hz hf) (by rfl) g.isinstance (by decide +kernel) (pa_cons (pv 2) (pa_cons (pe_glob (v := .ref cbr) rfl mBR rfl) pa_nil)))))))) (pe_xf XF hno hz hf (pv 2)) pe_str))))
      (pss_one (ps_ret pe_str))), ?_⟩
    refine ⟨rfl, _, rfl, _, rfl, l, [.ref C, .ref rl], rfl, rl, l, ps, rfl, hrl, hln, ?_⟩
    rcases h with ⟨ll, rs, ks, ls, rfl, hrs, hl, ok, k⟩ | ⟨z, hb, k⟩
    · exact .inl ⟨ll, rs, ks, ls, rfl, hrs, hl, ok, fun x H' s' => k H' s'⟩
    · refine .inr (hb _ fun H' dd s' hdd => ?_)
      refine ⟨true, XB.te, fun _ ae ha => ?_, fun q => Bool.noConfusion q⟩
      refine ⟨_, rfl, B, dd, _, _, _, _, EC, rfl, rfl, upd_same, rfl, fun _ q => q, k1, _, rfl, iteT ?_⟩
      refine ⟨_, rfl, B, dd, _, _, _, _, EC, rfl, rfl, upd_same, rfl, fun _ q => q, k2, _, rfl, iteT ?_⟩
      refine ⟨_, rfl, rfl, rfl, dd, _, _, rfl, upd_same, rfl, ?_⟩
      exact k _ (s'.trans (Same.new (o := .xd [(("what" : Str), .str z)]) hdd))
end
end Cs

set_option Elab.async false
set_option linter.all false
set_option maxRecDepth 100000
set_option maxHeartbeats 4000000
/-! Order of an own class: <= < by its own methods, >= > by those of the other side; == and != with a value of a built-in type. -/
namespace Cs
open PySem PySem.Spec PyProof.Rows L2
section
variable {M : Model} {prog : Program} {w : World} {A : Around} {E : Value → Shared → Prop} {s : Shared} {K : PySem.W.Frag} {x y C f : Addr} {ox oy : Obj} {od oe : Option Obj}
theorem ifBound_obj {nm : Str} {id : String} {args : List Value} {Q : Option Value → Shared → Prop} (S : Slot "object" nm id) (X : K.In s.heap) (I : PySem.W.InstAt s.heap x ox C od) (hs : PySem.W.findIn K (.ref C) nm = some (some (.builtin id)))
    (h : wpAny M A (call (.builtin id) (.ref x :: args)) (fun v => Q (some v)) E s) : wpAny M A (callSpecialIfBound? (.ref x) nm args) Q E s := by
  simp only [callSpecialIfBound?, bindSpecialIfBound?]
  refine wpAny_holding (wpAny_bind (wpAny_bind (wpAny_bind (I.type.here ((PySem.W.looks_findIn X hs).here ?_)))))
  refine wpAny_bind (wpAny_askSetting (wpAny_ite ?_))
  have fin : wpAny M A (call (.builtin id) ([.ref x] ++ args) >>= fun v => pure (some v)) Q E s := wpAny_bind (wpAny_mono h (fun v s' h' => wpAny_pure h') fun _ _ h' => h')
  split
  · exact wpAny_bind (wpAny_of_eq (S.bind _) (wpAny_pure (by exact fin)))
  · exact wpAny_tryCatch (wpAny_bind (wpAny_of_eq (S.bind _) (wpAny_pure (by exact fin))))
theorem kind_ge : builtinKind "object.__ge__" = some .slot := by decide +kernel
theorem kind_gt : builtinKind "object.__gt__" = some .slot := by decide +kernel
theorem split_ge : splitId "object.__ge__" = some ("object", "__ge__") := by decide +kernel
theorem split_gt : splitId "object.__gt__" = some ("object", "__gt__") := by decide +kernel
theorem try_ge {b : Value} {Q : Option Value → Shared → Prop} (X : K.In s.heap) (I : PySem.W.InstAt s.heap x ox C od) (hm : PySem.W.mroIn K C (.type "object") = some true) (hs : PySem.W.findIn K (.ref C) "__ge__" = some (some (.builtin "object.__ge__"))) (h : Q none s) :
    wpAny (model prog w) A (tryCompare (.ref x) "__ge__" b) Q E s := by
  unfold tryCompare
  refine wpAny_bind (ifBound_obj PySem.F.slot_object_ge X I hs (wpAny_call (codeAny_call_builtin PySem.F.slot_object_ge.plain PySem.F.entry_object_ge (PySem.W.check_slot kind_ge split_ge (I.type.andThen (PySem.W.looks_mroIn X hm)) (PySem.F.args_object_ge_2 _ _) ?_))))
  show wpAny _ _ (slotArgs "__ge__" 1 ⟨[.ref x, b], []⟩ >>= fun _ => ret .notImplemented) _ _ _
  refine wpAny_bind (wpAny_of_eq (a := (.ref x, [b])) (by rfl) ?_)
  refine wpAny_pure ?_
  exact wpAny_pure h
theorem try_gt {b : Value} {Q : Option Value → Shared → Prop} (X : K.In s.heap) (I : PySem.W.InstAt s.heap x ox C od) (hm : PySem.W.mroIn K C (.type "object") = some true) (hs : PySem.W.findIn K (.ref C) "__gt__" = some (some (.builtin "object.__gt__"))) (h : Q none s) :
    wpAny (model prog w) A (tryCompare (.ref x) "__gt__" b) Q E s := by
  unfold tryCompare
  refine wpAny_bind (ifBound_obj PySem.F.slot_object_gt X I hs (wpAny_call (codeAny_call_builtin PySem.F.slot_object_gt.plain PySem.F.entry_object_gt (PySem.W.check_slot kind_gt split_gt (I.type.andThen (PySem.W.looks_mroIn X hm)) (PySem.F.args_object_gt_2 _ _) ?_))))
  show wpAny _ _ (slotArgs "__gt__" 1 ⟨[.ref x, b], []⟩ >>= fun _ => ret .notImplemented) _ _ _
  refine wpAny_bind (wpAny_of_eq (a := (.ref x, [b])) (by rfl) ?_)
  refine wpAny_pure ?_
  exact wpAny_pure h
/-- x >= y, x > y: the other side's own method answers -/
theorem refl_own {op : CmpOp} {Q : Value → Shared → Prop} (hu : A.units < cLine) (X : K.In s.heap) (I : PySem.W.InstAt s.heap x ox C od) (J : PySem.W.InstAt s.heap y oy C oe)
    (dec : ∀ Q' : Option Value → Shared → Prop, Q' none s → wpAny (model prog w) A (tryCompare (.ref x) (cmpInfo op).2.1 (.ref y)) Q' E s)
    (hs : PySem.W.findIn K (.ref C) (cmpInfo op).2.2 = some (some (.ref f))) (hf : PySem.W.isFn K (.ref f) = true)
    (h : wpAny (model prog w) A (call (.ref f) [.ref y, .ref x]) (PySem.W.CmpBack Q) E s) : wpAny (model prog w) A (richCompare op (.ref x) (.ref y)) Q E s := by
  have one : wpAny (model prog w) A (tryCompare (.ref y) (cmpInfo op).2.2 (.ref x)) (fun r s' => ∃ v, r = some v ∧ Q v s') E s := by
    unfold tryCompare
    refine wpAny_bind (PySem.W.ifBound_K X J hs hf (wpAny_mono h (fun v s' hv => ?_) fun _ _ e => e))
    cases v <;> first | exact hv.elim | exact wpAny_pure ⟨_, rfl, hv⟩
  unfold richCompare
  simp only [oneThing_ref]
  refine wpAny_holding (wpAny_bind (wpAny_cRoomFor hu ?_))
  refine wpAny_bind (I.type.here (wpAny_bind (J.type.here ?_)))
  have hne : (Value.ref C != Value.ref C) = false := by simp
  simp only [hne, Bool.false_eq_true, if_false]
  refine wpAny_bind (wpAny_pure ?_)
  simp only [Bool.false_eq_true, if_false]
  refine wpAny_bind (dec _ ?_)
  dsimp only
  simp only [Bool.not_false, if_true]
  refine wpAny_bind (wpAny_mono one (fun r s' z => ?_) fun _ _ e => e)
  obtain ⟨v, rfl, hq⟩ := z
  exact wpAny_pure hq
end
section
variable {X : Cx} {CX : CXT} {k : Nat} {f C : Addr} {fd : FuncData} {ps : List Str} {sp : Sp} {E : XK}
/-- what the order asks of the class -/
structure OrC (K : PySem.W.Frag) (C fle flt : Addr) : Prop where
  le : PySem.W.findIn K (.ref C) "__le__" = some (some (.ref fle))
  lef : PySem.W.isFn K (.ref fle) = true
  lt : PySem.W.findIn K (.ref C) "__lt__" = some (some (.ref flt))
  ltf : PySem.W.isFn K (.ref flt) = true
  ge : PySem.W.findIn K (.ref C) "__ge__" = some (some (.builtin "object.__ge__"))
  gt : PySem.W.findIn K (.ref C) "__gt__" = some (some (.builtin "object.__gt__"))
  hm : PySem.W.mroIn K C (.type "object") = some true
def rCmpR (C : Addr) (sp : Sp) (E : XK) : R2 := fun x y H Q => ∃ p q dp dq fp fq, x = .ref p ∧ y = .ref q ∧ H p = some (.ins C dp fp) ∧ H q = some (.ins C dq fq) ∧ sp [.ref q, .ref p] H Q E
theorem op_leO {g : Addr} (c : OrC X.K C f g) (F : FnOk X.prog X.w X.K X.mg X.base CX k f fd ps sp) (hr : Room k X.A) (hb : Binds X.K fd ps []) (hx : Passes CX X E) : OpR X (compareOp .LtE) (rEqO C sp E) := by
  intro pins s σ H x y v u Q I rx ry h
  obtain ⟨p, q, dp, dq, fp, fq, rfl, rfl, hp, hq, k⟩ := h
  cases rx
  cases ry
  obtain ⟨ox, od, J, _⟩ := ins_inst I hp
  obtain ⟨oy, oe, J2, _⟩ := ins_inst I hq
  obtain ⟨m, Fr⟩ := I.fr
  show wpAny _ _ (richCompare .LtE (.ref p) (.ref q)) _ _ _
  refine PySem.W.cmp_K (op := .LtE) (tb := .ref C) hr.units0 Fr I.ok.mod.kin J J2.type first_self c.le c.lef ?_
  exact wpAny_mono (run_fn (us := [.ref p, .ref q]) (vs := [.ref p, .ref q]) (dvs := []) F hr hb .nil hx I (.cons rfl (.cons rfl .nil)) k) (fun v s' z => back_of z) fun _ _ z => z
theorem op_ltO {g : Addr} (c : OrC X.K C g f) (F : FnOk X.prog X.w X.K X.mg X.base CX k f fd ps sp) (hr : Room k X.A) (hb : Binds X.K fd ps []) (hx : Passes CX X E) : OpR X (compareOp .Lt) (rEqO C sp E) := by
  intro pins s σ H x y v u Q I rx ry h
  obtain ⟨p, q, dp, dq, fp, fq, rfl, rfl, hp, hq, k⟩ := h
  cases rx
  cases ry
  obtain ⟨ox, od, J, _⟩ := ins_inst I hp
  obtain ⟨oy, oe, J2, _⟩ := ins_inst I hq
  obtain ⟨m, Fr⟩ := I.fr
  show wpAny _ _ (richCompare .Lt (.ref p) (.ref q)) _ _ _
  refine PySem.W.cmp_K (op := .Lt) (tb := .ref C) hr.units0 Fr I.ok.mod.kin J J2.type first_self c.lt c.ltf ?_
  exact wpAny_mono (run_fn (us := [.ref p, .ref q]) (vs := [.ref p, .ref q]) (dvs := []) F hr hb .nil hx I (.cons rfl (.cons rfl .nil)) k) (fun v s' z => back_of z) fun _ _ z => z
theorem op_geO {g : Addr} (c : OrC X.K C f g) (F : FnOk X.prog X.w X.K X.mg X.base CX k f fd ps sp) (hr : Room k X.A) (hb : Binds X.K fd ps []) (hx : Passes CX X E) : OpR X (compareOp .GtE) (rCmpR C sp E) := by
  intro pins s σ H x y v u Q I rx ry h
  obtain ⟨p, q, dp, dq, fp, fq, rfl, rfl, hp, hq, k⟩ := h
  cases rx
  cases ry
  obtain ⟨ox, od, J, _⟩ := ins_inst I hp
  obtain ⟨oy, oe, J2, _⟩ := ins_inst I hq
  show wpAny _ _ (richCompare .GtE (.ref p) (.ref q)) _ _ _
  refine refl_own (op := .GtE) hr.units0 I.kIn J J2 (fun Q' q => try_ge I.kIn J c.hm c.ge q) c.le c.lef ?_
  exact wpAny_mono (run_fn (us := [.ref q, .ref p]) (vs := [.ref q, .ref p]) (dvs := []) F hr hb .nil hx I (.cons rfl (.cons rfl .nil)) k) (fun v s' z => back_of z) fun _ _ z => z
theorem op_gtO {g : Addr} (c : OrC X.K C g f) (F : FnOk X.prog X.w X.K X.mg X.base CX k f fd ps sp) (hr : Room k X.A) (hb : Binds X.K fd ps []) (hx : Passes CX X E) : OpR X (compareOp .Gt) (rCmpR C sp E) := by
  intro pins s σ H x y v u Q I rx ry h
  obtain ⟨p, q, dp, dq, fp, fq, rfl, rfl, hp, hq, k⟩ := h
  cases rx
  cases ry
  obtain ⟨ox, od, J, _⟩ := ins_inst I hp
  obtain ⟨oy, oe, J2, _⟩ := ins_inst I hq
  show wpAny _ _ (richCompare .Gt (.ref p) (.ref q)) _ _ _
  refine refl_own (op := .Gt) hr.units0 I.kIn J J2 (fun Q' q => try_gt I.kIn J c.hm c.gt q) c.lt c.ltf ?_
  exact wpAny_mono (run_fn (us := [.ref q, .ref p]) (vs := [.ref q, .ref p]) (dvs := []) F hr hb .nil hx I (.cons rfl (.cons rfl .nil)) k) (fun v s' z => back_of z) fun _ _ z => z
/-- == and != with a value of a built-in type -/
def rEqY (K : PySem.W.Frag) (C : Addr) (sp : Sp) (E : XK) : R2 := fun x y H Q => ∃ p dp fp ty, x = .ref p ∧ H p = some (.ins C dp fp) ∧ TyX K H y (.type ty) ∧ PySem.W.subIn K (.type ty) (.ref C) = some false ∧ sp [.ref p, y] H Q E
def rNeY (K : PySem.W.Frag) (C : Addr) (sp : Sp) (E : XK) : R2 := fun x y H Q => ∃ p dp fp ty, x = .ref p ∧ H p = some (.ins C dp fp) ∧ TyX K H y (.type ty) ∧ PySem.W.subIn K (.type ty) (.ref C) = some false ∧ sp [.ref p, y] H (fun v H' => ∃ b, v = .bl b ∧ Q (.bl (!b)) H') E
theorem not_first {K : PySem.W.Frag} {ty : String} (h : PySem.W.subIn K (.type ty) (.ref C) = some false) : PySem.W.notFirst K C (.type ty) = true := by
  unfold PySem.W.notFirst
  rw [h]
  simp
theorem op_eqY (c : EqC X.K C f) (F : FnOk X.prog X.w X.K X.mg X.base CX k f fd ps sp) (hr : Room k X.A) (hb : Binds X.K fd ps []) (hx : Passes CX X E) : OpR X (compareOp .Eq) (rEqY X.K C sp E) := by
  intro pins s σ H x y v u Q I rx ry h
  obtain ⟨p, dp, fp, ty, rfl, hp, hy, hs, k⟩ := h
  cases rx
  obtain ⟨ox, od, J, _⟩ := ins_inst I hp
  obtain ⟨P, Z, hP, _⟩ := kit_of I ry hy
  obtain ⟨m, Fr⟩ := I.fr
  show wpAny _ _ (richCompare .Eq (.ref p) u) _ _ _
  refine PySem.W.cmp_K (op := .Eq) (tb := .type ty) hr.units0 Fr I.ok.mod.kin J (Z.ty _ _ I.kIn hP) (not_first hs) c.at_ c.fn ?_
  exact wpAny_mono (run_fn (us := [.ref p, u]) (vs := [.ref p, y]) (dvs := []) F hr hb .nil hx I (.cons rfl (.cons ry .nil)) k) (fun v s' z => back_of z) fun _ _ z => z
theorem op_neY (c : EqC X.K C f) (F : FnOk X.prog X.w X.K X.mg X.base CX k f fd ps sp) (hr : Room (k + 1) X.A) (hb : Binds X.K fd ps []) (hx : Passes CX X E) : OpR X (compareOp .NotEq) (rNeY X.K C sp E) := by
  intro pins s σ H x y v u Q I rx ry h
  obtain ⟨p, dp, fp, ty, rfl, hp, hy, hs, k⟩ := h
  cases rx
  obtain ⟨ox, od, J, _⟩ := ins_inst I hp
  obtain ⟨P, Z, hP, _⟩ := kit_of I ry hy
  refine ne_own (hu_of hr) I.kIn J (Z.ty _ _ I.kIn hP) (not_first hs) c.hm c.ne c.at_ c.fn ?_
  refine wpAny_mono (run_fn1 (us := [.ref p, u]) (vs := [.ref p, y]) F hr hb hx I (.cons rfl (.cons ry .nil)) k) (fun v s' z => ?_) fun _ _ z => z
  obtain ⟨v', H', I', rv, b, rfl, qq⟩ := z
  cases rv
  exact ⟨b, rfl, .bl (!b), H', I', rfl, qq⟩
end
end Cs

set_option Elab.async false
set_option linter.all false
set_option maxRecDepth 100000
set_option maxHeartbeats 4000000
/-! repr(o) by an own __repr__. -/
namespace Cs
open PySem PySem.Spec PyProof.Rows L2
/-- isinstance by the class's own facts -/
theorem kit_by {K : PySem.W.Frag} {C : Addr} {t : Value} {b : Bool} (h1 : PySem.W.isClsIn K C = true) (h2 : PySem.W.typeIn K (.ref C) = some (.type "type")) (h : PySem.W.subIn K t (.ref C) = some b) (hn : (t == Value.ref C) = false) : PySem.W.kitOne K t (.ref C) = some b := by
  have h1' : (PySem.W.clsIn K C).isSome = true := h1
  unfold PySem.W.kitOne PySem.W.kitCls
  simp [hn, h1', h2, h]
theorem kit_ty0 {K : PySem.W.Frag} {C : Addr} {ty : String} {b : Bool} (h1 : PySem.W.isClsIn K C = true) (h2 : PySem.W.typeIn K (.ref C) = some (.type "type")) (h : PySem.W.subIn K (.type ty) (.ref C) = some b) : PySem.W.kitOne K (.type ty) (.ref C) = some b :=
  kit_by h1 h2 h (beq_eq_false_iff_ne.mpr fun q => by cases q)
/-- an f-string's reading by a name -/
def tJn (ts : List TE) : TE := fun σ H Q => tJs ts Str.empty σ H fun out H1 => Q (.str out) H1
theorem pe_jn {X : Cx} {v1 v2 : Expr} {rest : List Expr} {ts : List TE} {pos : Pos} (h : PJ X (v1 :: v2 :: rest) ts) : PE X (.JoinedStr (v1 :: v2 :: rest) pos) (tJn ts) := pe_joined h
section
variable {X : Cx} {CX : CXT} {k : Nat} {f C : Addr} {fd : FuncData} {ps : List Str} {sp : Sp} {E : XK}
def rReprO (C : Addr) (sp : Sp) (E : XK) : List V → Hp → VK → Prop := fun xs H Q => ∃ a dx fs, xs = [.ref a] ∧ H a = some (.ins C dx fs) ∧ sp [.ref a] H (fun v H2 => ∃ z : Str, v = .str z ∧ Q (.str z) H2) E
theorem call_reprO (c : Spc X.K C "__repr__" f) (F : FnOk X.prog X.w X.K X.mg X.base CX k f fd ps sp) (hr : Room (k + 1) X.A) (hb : Binds X.K fd ps []) (hx : Passes CX X E) : CallR X (.builtin "repr") (rReprO C sp E) := by
  intro pins s σ H xs us Q I r h
  obtain ⟨a, dx, fs, rfl, ha, q⟩ := h
  rw [Vals.ref1 r]
  obtain ⟨ox, od, J, _⟩ := ins_inst I ha
  obtain ⟨m, Fr⟩ := I.fr
  refine PySem.W.repr_K (hu_of hr) Fr I.ok.mod.kin J c.at_ c.fn (wpAny_mono (run_fn1 (us := [.ref a]) (vs := [.ref a]) F hr hb hx I (.cons rfl .nil) q) (fun v s' z => ?_) fun _ _ z => z)
  obtain ⟨v0, H2, I2, rv, n, e, q2⟩ := z
  subst e
  obtain ⟨tk, rfl⟩ := rv
  exact ⟨.str n, H2, I2, ⟨tk, rfl⟩, q2⟩
end
end Cs

set_option Elab.async false
set_option linter.all false
set_option maxRecDepth 100000
set_option maxHeartbeats 4000000
/-! list(text); x in o, bool(o) by own methods; C(k1=v1, ..) where __init__ takes **d. -/
namespace Cs
open PySem PySem.Spec PyProof.Rows L2
/-- the signs of a text -/
def signsV (z : Str) : List V := z.cps.toList.map fun c => V.str ⟨#[c]⟩
theorem vals_pw : ∀ {xs : List V} {us : List Value}, xs.length = us.length → (∀ (i : Nat) x u, xs[i]? = some x → us[i]? = some u → RelV x u) → Vals xs us
  | [], [], _, _ => .nil
  | x :: xs, u :: us, hl, h => .cons (h 0 x u rfl rfl) (vals_pw (Nat.succ.inj hl) fun i a b ha hb => h (i + 1) a b ha hb)
  | [], _ :: _, hl, _ => by cases hl
  | _ :: _, [], hl, _ => by cases hl
section
variable {X : Cx} {CX : CXT} {k : Nat} {f C : Addr} {fd : FuncData} {ps : List Str} {sp : Sp} {E : XK}
theorem call_listS (hc : X.calm = true) : CallR X (.type "list") (fun xs H Q => ∃ z : Str, xs = [.str z] ∧ z.length ≤ sizeLine ∧ ∀ q, H q = none → Q (.ref q) (upd H q (.lst (signsV z)))) := by
  intro pins s σ H xs us Q I r h
  obtain ⟨z, rfl, hz, q⟩ := h
  obtain ⟨tk, rfl⟩ : ∃ tk, us = [Value.str z tk] := by
    cases r with
    | cons r rr =>
      cases rr
      obtain ⟨tk, rfl⟩ := r
      exact ⟨tk, rfl⟩
  refine call_list_str (I.ok.hd hc) z tk (hn := hz) fun h' tk' acc c' hk e' hi => ?_
  have hl : acc.toList.length = z.cps.size := by rw [Array.length_toList]; exact hi.1
  refine ⟨.ref s.heap.objs.size, upd H s.heap.objs.size (.lst (signsV z)), I.laid hk (Nat.le_refl _) (show ObjOk X.prog X.w _ _ _ (.lst (signsV z)) from ⟨?_, acc.toList, c', vals_pw ?_ fun i x u hx hu => ?_, ?_⟩), rfl, q _ (I.hok.fresh (Nat.le_refl _))⟩
  · unfold signsV
    rw [List.length_map, Array.length_toList]
    exact hz
  · unfold signsV
    rw [List.length_map, Array.length_toList]
    exact hl.symm
  · obtain ⟨c, u', hc', rfl⟩ := hi.2 i u (by rw [← Array.getElem?_toList]; exact hu)
    unfold signsV at hx
    rw [List.getElem?_map, Array.getElem?_toList, hc'] at hx
    cases hx
    exact ⟨u', rfl⟩
  · rw [Array.toArray_toList]
    exact e'
/-- x in o -/
def rInO (C : Addr) (sp : Sp) (E : XK) : R2 := fun x y H Q => ∃ p dp fp, y = .ref p ∧ H p = some (.ins C dp fp) ∧ sp [.ref p, x] H (fun v H2 => ∃ b, v = .bl b ∧ Q (.bl b) H2) E
theorem op_inO (c : Spc X.K C "__contains__" f) (F : FnOk X.prog X.w X.K X.mg X.base CX k f fd ps sp) (hr : Room k X.A) (hb : Binds X.K fd ps []) (hx : Passes CX X E) : OpR X (compareOp .In) (rInO C sp E) := by
  intro pins s σ H x y v u Q I rx ry h
  obtain ⟨p, dp, fp, rfl, hp, k⟩ := h
  cases ry
  obtain ⟨ox, od, J, _⟩ := ins_inst I hp
  obtain ⟨m, Fr⟩ := I.fr
  refine PySem.W.in_K Fr I.ok.mod.kin J c.at_ c.fn ?_
  refine wpAny_mono (run_fn (us := [.ref p, v]) (vs := [.ref p, x]) (dvs := []) F hr hb .nil hx I (.cons rfl (.cons rx .nil)) k) (fun v s' z => ?_) fun _ _ z => z
  obtain ⟨v0, H2, I2, rv, b, rfl, q2⟩ := z
  cases rv
  exact wpAny_truthy_bool ⟨.bl b, H2, I2, rfl, q2⟩
/-- bool(o) -/
def rBoolO (C : Addr) (sp : Sp) (E : XK) : List V → Hp → VK → Prop := fun xs H Q => ∃ a dx fs, xs = [.ref a] ∧ H a = some (.ins C dx fs) ∧ sp [.ref a] H (fun v H2 => ∃ b, v = .bl b ∧ Q (.bl b) H2) E
theorem meets_boolO {prog : Program} {w : World} (x : Addr) : MeetsIn prog w (Builtin.«bool.__new__» ⟨[.type "bool", .ref x], []⟩) (fun A R s => wpAny (model prog w) A.in1 (truthy (.ref x)) (fun b s' => R (.ok (.ret (.bool b))) s') (fun e s' => R (.error e) s') s) :=
  .of_wp fun A R s h => by
    have f1 := F.conv_sub_bool
    obtain ⟨hp, g, d, tk, os⟩ := s
    repeat (any_goals (first | assumption | (refine wpAny_bind (m := truthy (.ref x)) (wpAny_mono h (fun b s' z => ?_) fun _ _ z => z)) | wp_step))
    all_goals first | exact ⟨_, rfl, z⟩ | exact z | skip
theorem bool_own {prog : Program} {w : World} {A : Around} {E : Value → Shared → Prop} {s : Shared} {K : PySem.W.Frag} {h₀ : Heap} {L x C f : Addr} {m : Str → Option Value} {ox : Obj} {od : Option Obj} {Q : Value → Shared → Prop} (Fh : Fr h₀ L s.heap m) (X₀ : K.In h₀) (I : PySem.W.InstAt s.heap x ox C od)
    (hs : PySem.W.findIn K (.ref C) "__bool__" = some (some (.ref f))) (hf : PySem.W.isFn K (.ref f) = true) (h : wpAny (model prog w) A.in1.in1 (call (.ref f) [.ref x]) (PySem.W.BoolBack fun b s' => Q (.bool b) s') E s) : wpAny (model prog w) A (call (.type "bool") [.ref x]) Q E s := by
  refine callType_newIn F.called_bool F.newNe_bool (F.typeCall_bool_1 _) (F.newCall_bool_1 _) (fun obj => F.args_object_init_2 obj _) F.entry_bool_new (meets_boolO x) ?_
  refine wpAny_mono (PySem.W.truthy_K Fh X₀ I hs hf h) (fun b s' z => ?_) fun _ _ z => z
  exact ⟨rfl, z⟩
theorem run_fn2 {pins : List (Addr × Obj)} {σ : L2.St} {H : Hp} {s : Shared} {Q : VK} {us : List Value} {vs : List V} (F : FnOk X.prog X.w X.K X.mg X.base CX k f fd ps sp) (hr : Room (k + 2) X.A) (hb : Binds X.K fd ps []) (hx : Passes CX X E)
    (I : Inv X pins σ H s) (r : Vals vs us) (h : sp vs H Q E) : wpAny (model X.prog X.w) X.A.in1.in1 (call (.ref f) us) (EP X pins σ Q) X.xe s := by
  have hl : us.length = ps.length := by rw [← r.length]; exact F.len _ _ _ _ h
  have hb' := hb s us I.kIn (by rw [List.append_nil]; exact hl)
  rw [List.append_nil] at hb'
  refine wpAny_call (codeAny_mono (F.run X.A.in1.in1 X.stack s H ⟨us, []⟩ us vs Q E hr.in1.in1 I.env0.in1.in1 hb' r h) fun r s' hq => ?_)
  cases r with
  | error e => exact hx pins σ H s e s' I hq
  | ok fl =>
    cases fl with
    | ret u => exact I.after hq
    | next => exact False.elim hq
    | brk => exact False.elim hq
    | cont => exact False.elim hq
theorem call_boolO (c : Spc X.K C "__bool__" f) (F : FnOk X.prog X.w X.K X.mg X.base CX k f fd ps sp) (hr : Room (k + 2) X.A) (hb : Binds X.K fd ps []) (hx : Passes CX X E) : CallR X (.type "bool") (rBoolO C sp E) := by
  intro pins s σ H xs us Q I r h
  obtain ⟨a, dx, fs, rfl, ha, q⟩ := h
  rw [Vals.ref1 r]
  obtain ⟨ox, od, J, _⟩ := ins_inst I ha
  obtain ⟨m, Fr⟩ := I.fr
  refine bool_own Fr I.ok.mod.kin J c.at_ c.fn (wpAny_mono (run_fn2 (us := [.ref a]) (vs := [.ref a]) F hr hb hx I (.cons rfl .nil) q) (fun v s' z => ?_) fun _ _ z => z)
  obtain ⟨v0, H2, I2, rv, n, e, q2⟩ := z
  subst e
  cases rv
  exact ⟨.bl n, H2, I2, rfl, q2⟩
/-- bool(d), d a dict -/
theorem call_boolD : CallR X (.type "bool") (fun xs H Q => ∃ (a : Addr) (kvs : List (Key × V)), xs = [.ref a] ∧ H a = some (.dK kvs) ∧ Q (.bl (!kvs.isEmpty)) H) := by
  intro pins s σ H xs us Q I r h
  obtain ⟨a, kvs, rfl, ha, q⟩ := h
  rw [Vals.ref1 r]
  obtain ⟨hz, hs, vs, kv, dd⟩ := (show ObjOk X.prog X.w H s.heap a (.dK kvs) from I.hok a _ ha)
  have hl : kvs.length = vs.length := Paired.length kv
  refine callType_newIn F.called_bool F.newNe_bool (F.typeCall_bool_1 _) (F.newCall_bool_1 _) (fun obj => F.args_object_init_2 obj _) F.entry_bool_new (meets_boolO a) ?_
  have l63 := line63
  refine wpAny_truthy_dict (knd := mixKind X.prog X.w) hs dd (by omega) ?_
  refine ⟨rfl, .bl (!kvs.isEmpty), H, I.tok _, ?_, q⟩
  show Value.bool _ = Value.bool _
  congr 2
  cases kvs <;> cases vs <;> first | rfl | (simp at hl)
end
/-! ### keywords into a new dict -/
theorem push_update (h : Heap) (o : Obj) (g : Obj → Obj) : (h.push o).update h.objs.size g = h.push (g o) := by
  obtain ⟨objs, l⟩ := h
  show (⟨(objs.push o).modify objs.size g, l⟩ : Heap) = ⟨objs.push (g o), l⟩
  congr 1
  apply Array.ext
  · simp
  · intro i h1 h2
    rw [Array.getElem_modify]
    by_cases c : i = objs.size
    · subst c
      simp
    · have hi : i < objs.size := by simp at h2; omega
      rw [if_neg (fun q => c q.symm), Array.getElem_push_lt hi, Array.getElem_push_lt hi]
theorem nsSet_push {prog : Program} {w : World} {A : Around} {E : Value → Shared → Prop} {h : Heap} {g : Array GenState} {dr : Drawn} {t : Nat} {os : OsState} {es : List DictEntry} {n : Nat} {k : Str} {v : Value} {Q : Unit → Shared → Prop}
    (hs : ∀ e ∈ es, e.key.isStr k = false) (hr : ∀ e ∈ es, e.refKey = false)
    (hq : Q () ⟨h.push (PySem.W.dictOf (es ++ [⟨PyData.keyHash w.params k, .str k t, v⟩]) (n + 1)), g, dr, t + 1, os⟩) :
    wpAny (model prog w) A (nsSet h.objs.size k v) Q E ⟨h.push (PySem.W.dictOf es n), g, dr, t, os⟩ := by
  have e1 : es.any (·.key.isStr k) = false := List.any_eq_false.mpr fun e he => by rw [hs e he]; exact Bool.false_ne_true
  have e2 : es.any (·.refKey) = false := List.any_eq_false.mpr fun e he => by rw [hr e he]; exact Bool.false_ne_true
  have e : Obj.putName k (PyData.keyHash w.params k) (.str k t) v (PySem.W.dictOf es n) = PySem.W.dictOf (es ++ [⟨PyData.keyHash w.params k, .str k t, v⟩]) (n + 1) := by
    rw [PySem.W.putName_dict, PySem.W.putL_new hs]
    show PySem.W.dictOf _ (if es.any (·.key.isStr k) then n else n + 1) = _
    rw [e1, if_neg Bool.false_ne_true]
  have D : (h.push (PySem.W.dictOf es n)).get? h.objs.size = some (PySem.W.dictOf es n) := Heap.get?_push_size _ rfl
  have c : aRefKeyMayBeTheName k es.toArray = false := by
    rw [aRefKeyMayBeTheName_at, ← Array.any_toList, ← Array.any_toList]
    show (!es.any (·.key.isStr k) && es.any (·.refKey)) = false
    rw [e2, Bool.and_false]
  unfold nsSet
  refine wpAny_bind (wpAny_bind (wpAny_askSetting (wpAny_pure (wpAny_bind (wpAny_mkText (wpAny_bind (wpAny_loadPart D ?_)))))))
  dsimp only
  rw [c]
  refine wpAny_updatePart D ?_
  show Q () ⟨(h.push (PySem.W.dictOf es n)).update h.objs.size (Obj.putName k (PyData.keyHash w.params k) (.str k t) v), g, dr, t + 1, os⟩
  rw [push_update, e]
  exact hq
theorem fill_push {prog : Program} {w : World} {A : Around} {E : Value → Shared → Prop} {h : Heap} {g : Array GenState} {dr : Drawn} {os : OsState} {Q : PUnit → Shared → Prop} : ∀ (ex : List (Str × Value)) (t : Nat) (es : List DictEntry) (n : Nat),
    (∀ e ∈ es, ∀ x ∈ ex, e.key.isStr x.1 = false) → (∀ e ∈ es, e.refKey = false) → (ex.map (·.1)).Nodup →
    Q ⟨⟩ ⟨h.push (PySem.W.dictOf (es ++ PySem.W.kwEs w.params t ex) (n + ex.length)), g, dr, t + ex.length, os⟩ →
    wpAny (model prog w) A (forIn ex PUnit.unit fun x _ => (nsSet h.objs.size x.1 x.2 >>= fun _ => pure (ForInStep.yield PUnit.unit))) Q E ⟨h.push (PySem.W.dictOf es n), g, dr, t, os⟩
  | [], t, es, n, _, _, _, hq => by
    rw [List.forIn_nil]
    refine wpAny_pure ?_
    have e : es ++ PySem.W.kwEs w.params t [] = es := List.append_nil _
    rw [e] at hq
    exact hq
  | x :: r, t, es, n, hs, hr, hn, hq => by
    obtain ⟨hn1, hn2⟩ := List.nodup_cons.mp (show (x.1 :: r.map (·.1)).Nodup from hn)
    rw [List.forIn_cons]
    refine wpAny_bind (wpAny_bind (nsSet_push (fun e he => hs e he x (.head _)) hr (wpAny_pure ?_)))
    show wpAny (model prog w) A (forIn r PUnit.unit fun x _ => (nsSet h.objs.size x.1 x.2 >>= fun _ => pure (ForInStep.yield PUnit.unit))) Q E _
    refine fill_push r (t + 1) _ _ (fun e he y hy => ?_) (fun e he => ?_) hn2 ?_
    · rcases List.mem_append.mp he with he | he
      · exact hs e he y (.tail _ hy)
      · obtain rfl := List.mem_singleton.mp he
        show (x.1 == y.1) = false
        exact beq_eq_false_iff_ne.mpr fun q => hn1 (by rw [q]; exact List.mem_map_of_mem hy)
    · rcases List.mem_append.mp he with he | he
      · exact hr e he
      · obtain rfl := List.mem_singleton.mp he
        rfl
    · have t1 : t + 1 + r.length = t + (r.length + 1) := by omega
      have t2 : n + 1 + r.length = n + (r.length + 1) := by omega
      rw [t1, t2, List.append_assoc]
      exact hq
/-- the dict that the keywords make -/
def kwK (ks : List Str) (zs : List V) : List (Key × V) := (ks.zip zs).map fun q => (Sum.inr q.1, q.2)
theorem kw_pairs (P : Program) (w : World) : ∀ (ex : List (Str × Value)) (t : Tok), Pairs (mixKind P w) (PySem.W.kwEs w.params t ex) (ex.map fun x => ((Sum.inr x.1 : Key), x.2))
  | [], _ => Pairs.nil
  | x :: r, t => Pairs.cons (keyIs_str x.1 t) rfl (kw_pairs P w r (t + 1))
theorem kw_kv : ∀ {ks : List Str} {zs : List V} {ws : List Value}, Vals zs ws → KV (kwK ks zs) ((ks.zip ws).map fun x => ((Sum.inr x.1 : Key), x.2))
  | [], _, _, _ => by
    unfold kwK
    simp only [List.zip_nil_left, List.map_nil]
    exact .nil
  | _ :: _, _, _, .nil => .nil
  | k :: ks, _, _, .cons r t => .cons ⟨rfl, r⟩ (kw_kv t)
theorem kw_fst {ks : List Str} {ws : List Value} (hz : ws.length = ks.length) : (ks.zip ws).map (·.1) = ks := List.map_fst_zip (by omega)
theorem dk_kw {P : Program} {w : World} {H : Hp} {ks : List Str} {zs : List V} {ws : List Value} (h : Heap) (hb : sysModules < h.objs.size) (t : Nat) (hn : ks.Nodup) (r : Vals zs ws) (hz : zs.length = ks.length) (hl : ks.length ≤ 1000) :
    ObjOk P w H (h.push (PySem.W.dictOf (PySem.W.kwEs w.params t (ks.zip ws)) (ks.zip ws).length)) h.objs.size (.dK (kwK ks zs)) := by
  have hw : ws.length = ks.length := by rw [← r.length]; exact hz
  refine ⟨?_, beq_eq_false_iff_ne.mpr (Ne.symm (Nat.ne_of_lt hb)), _, kw_kv r, _, _, _, Heap.get?_push_size _ rfl, ⟨rfl, rfl, rfl⟩, rfl, fun e he => ?_, kw_pairs P w _ t, ?_⟩
  · unfold kwK
    rw [List.length_map, List.length_zip]
    exact Nat.le_trans (show min ks.length zs.length ≤ 1000 by omega) (by decide)
  · obtain ⟨k, u, e1, e2⟩ := PySem.W.kwEs_key _ _ e (by simpa using he)
    exact ⟨Sum.inr k, by rw [e1]; exact keyIs_str k u, e2⟩
  · rw [List.map_map]
    show ((ks.zip ws).map ((fun x : Str => (Sum.inr x : Key)) ∘ fun x => x.1)).Nodup
    rw [← List.map_map, kw_fst hw]
    exact List.Pairwise.map _ (fun a b n q => n (Sum.inr.inj q)) hn
/-- a def called with one value and keywords -/
def FnKw (P : Program) (w : World) (K : PySem.W.Frag) (mg : Str → Option Value) (base : Heap) (CX : CXT) (k : Nat) (f : Addr) (ks : List Str) (sp : Sp) : Prop :=
  ∀ (A : Around) (outer : List Env) (s : Shared) (H : Hp) (u : Value) (v : V) (ws : List Value) (zs : List V) (Q : VK) (E : XK), Room k A → Env0 P w K mg base A outer s H → RelV v u → Vals zs ws → zs.length = ks.length → sp (v :: zs) H Q E →
    codeAny (model P w) A (.call (.ref f) ⟨[u], ks.zip ws⟩) (CR CX outer P w H s Q E) s
section
variable {CX : CXT} {P : Program} {w : World} {K : PySem.W.Frag} {mg : Str → Option Value} {base : Heap} {k : Nat} {f : Addr} {name qual : Str} {params : Arguments} {body : List Stmt} {scope : Scope} {dV kV doc pm cdv ct oc : Value} {an od : Option Addr}
  {osl : Array (Option Value)} {N ks : List Str} {sp : Sp} {p1 pv pd : Str}
/-- def f(a, *v, **d), called with a and keywords -/
theorem fn_kw (lk : K.lookup f = some ⟨oc, od, .func (PySem.W.fnOf name qual params body scope dV kV doc pm an cdv ct), osl⟩) (hcd : PySem.W.codeIn K cdv qual = true) (S : FnScope N [p1, pv, pd] scope) (hCX : StX.CXUp CX) (hn : ks.Nodup) (hl : ks.length ≤ 1000)
    (hb : ∀ (u : Value) (ws : List Value), ws.length = ks.length → bindArgs (PySem.W.fnOf name qual params body scope dV kV doc pm an cdv ct) ⟨[u], ks.zip ws⟩ =
      (newTuple [] >>= fun t => (alloc ({ cls := .type "dict", data := .dict #[] } : Obj) : Sem Addr) >>= fun d => (forIn (ks.zip ws) PUnit.unit fun x _ => (nsSet d x.1 x.2 >>= fun _ => pure (ForInStep.yield PUnit.unit))) >>= fun _ => pure [(p1, u), (pv, t), (pd, Value.ref d)]))
    (hbody : ∀ (A : Around) (outer : List Env) (s : Shared) (H : Hp) (vs : List V) (Q : VK) (E : XK), Room k (A.deeper (envOfC qual scope s.heap.objs.size f cdv)) → sp vs H Q E →
      ∃ t, PSs (cxOf CX P w K mg base N qual scope f cdv A outer s H E) body t ∧ t { nx := fun _ H' => Q .non H', rt := Q } (start N vs) H) :
    FnKw P w K mg base CX (k + 1) f ks (fun vs H Q E => ∃ v zs, vs = v :: zs ∧ ∀ p d, H p = Option.none → H d = Option.none → d ≠ p → sp [v, V.ref p, V.ref d] (upd (upd H p (.tup [])) d (.dK (kwK ks zs))) Q E) := by
  intro A outer s H u v ws zs Q E hr e0 rv r hz hsp
  obtain ⟨v', zs', ev, hq⟩ := hsp
  obtain ⟨rfl, rfl⟩ := List.cons.inj ev
  obtain ⟨hp, g, dr, tk, os⟩ := s
  have hn0 : H hp.objs.size = Option.none := e0.hok.fresh (Nat.le_refl _)
  have hw : ws.length = ks.length := by rw [← r.length]; exact hz
  refine StX.run_bnd (ps := [p1, pv, pd]) lk hcd S hr e0 (G := fun xs H2 => ∃ p d, H p = Option.none ∧ H d = Option.none ∧ d ≠ p ∧ xs = [v, V.ref p, V.ref d] ∧ H2 = upd (upd H p (.tup [])) d (.dK (kwK ks zs))) (fun A' Ex Q' h => ?_) fun s2 H2 xs ⟨p, d, hp', hd, hne, ex, eH⟩ hr' => ?_
  · rw [hb u ws hw]
    refine wpAny_bind (wpAny_newTuple (wpAny_bind (wpAny_alloc (wpAny_bind ?_))) (by show 0 ≤ sizeLine; decide))
    have new : ObjOk P w (upd H hp.objs.size (.tup [])) (hp.push ({ cls := .type "tuple", data := .seq (([] : List Value)).toArray } : Obj)) hp.objs.size (.tup []) := ⟨by show 0 ≤ sizeLine; decide, [], .nil, ⟨_, Heap.get?_push_size _ rfl, rfl, _, rfl⟩⟩
    have e1 := StX.env0_laid e0 new
    have un1 := StX.un_laid (fs := frs outer) (s := ⟨hp, g, dr, tk, os⟩) (o := ({ cls := .type "tuple", data := .seq (([] : List Value)).toArray } : Obj)) (u := .tup []) hn0
    have hn2 := e1.hok.fresh (Nat.le_refl _)
    have sz : (hp.push ({ cls := .type "tuple", data := .seq (([] : List Value)).toArray } : Obj)).objs.size = hp.objs.size + 1 := Heap.size_push _ _
    have ne : (hp.push ({ cls := .type "tuple", data := .seq (([] : List Value)).toArray } : Obj)).objs.size ≠ hp.objs.size := by
      rw [sz]
      exact Nat.succ_ne_self _
    have hd : H (hp.push ({ cls := .type "tuple", data := .seq (([] : List Value)).toArray } : Obj)).objs.size = Option.none := e0.hok.fresh (by show _ ≤ _; rw [sz]; exact Nat.le_succ _)
    have kp1 : ∀ b o, hp.get? b = some o → (hp.push ({ cls := .type "tuple", data := .seq (([] : List Value)).toArray } : Obj)).get? b = some o := fun b o q => Heap.get?_push_of_some _ q
    generalize hp.push ({ cls := .type "tuple", data := .seq (([] : List Value)).toArray } : Obj) = hp1 at e1 un1 hn2 ne hd kp1
    refine fill_push (ks.zip ws) tk [] 0 (fun _ he => nomatch he) (fun _ he => nomatch he) (by rw [kw_fst hw]; exact hn) (wpAny_pure ?_)
    rw [List.nil_append, Nat.zero_add]
    have e2 := StX.env0_laid (u := .dK (kwK ks zs)) (o := PySem.W.dictOf (PySem.W.kwEs w.params tk (ks.zip ws)) (ks.zip ws).length) e1 (dk_kw hp1 (StX.env0_big e1) tk hn r hz hl)
    have un2 := un1.trans (StX.un_laid (fs := frs outer) (s := (⟨hp1, g, dr, tk, os⟩ : Shared)) (o := PySem.W.dictOf (PySem.W.kwEs w.params tk (ks.zip ws)) (ks.zip ws).length) (u := .dK (kwK ks zs)) hn2)
    have z := h ⟨hp1.push (PySem.W.dictOf (PySem.W.kwEs w.params tk (ks.zip ws)) (ks.zip ws).length), g, dr, tk + (ks.zip ws).length, os⟩ _ [v, V.ref hp.objs.size, V.ref hp1.objs.size] [u, Value.ref hp.objs.size, Value.ref hp1.objs.size]
      ⟨e2.frames, e2.mod, e2.bs, e2.bsz, e2.funs, e2.frf, e2.hok, e2.bare⟩ un2 rfl (fun e s' => hCX outer _ H _ _ E e s' un2 ?_ rfl) (.cons rv (.cons rfl (.cons rfl .nil))) rfl ⟨_, _, hn0, hd, ne, rfl, rfl⟩
    · exact z
    · exact fun b o q => Heap.get?_push_of_some _ (kp1 b o q)
  · subst ex eH
    exact hbody A outer s2 _ _ Q E hr' (hq p d hp' hd hne)
end
/-- C(k1=v1, ..) -/
def tMkKw (C : Addr) (sp : Sp) (E : XK) (n : Nat) (tk : TA) : TE := fun σ H Q => tk σ H fun zs H1 => zs.length = n ∧ ∀ x dx, H1 x = none → H1 dx = none → dx ≠ x → sp (.ref x :: zs) (upd (upd H1 dx (.own x)) x (.ins C dx [])) (fun v H2 => v = .non ∧ Q (.ref x) H2) E
section
variable {X : Cx} {CX : CXT} {k : Nat} {f C : Addr} {sp : Sp} {E : XK} {x : Str} {p pos : Pos} {kws : List Keyword} {ks : List Str} {tk : TA}
theorem run_makeKw {pins : List (Addr × Obj)} {σ : L2.St} {H : Hp} {s : Shared} {Q : VK} {ws : List Value} {zs : List V} (M : Mk X.K C f) (F : FnKw X.prog X.w X.K X.mg X.base CX k f ks sp) (hr : Room (k + 1) X.A) (hx : Passes CX X E) (I : Inv X pins σ H s) (r : Vals zs ws) (hz : zs.length = ks.length)
    (h : ∀ x dx, H x = none → H dx = none → dx ≠ x → sp (V.ref x :: zs) (upd (upd H dx (.own x)) x (.ins C dx [])) (fun v H2 => v = .non ∧ Q (.ref x) H2) E) :
    wpAny (model X.prog X.w) X.A (call (.ref C) [] (ks.zip ws)) (EP X pins σ Q) X.xe s := by
  have hq := h (s.heap.objs.size + 1) s.heap.objs.size (I.hok.fresh (Nat.le_succ _)) (I.hok.fresh (Nat.le_refl _)) (Nat.ne_of_lt (Nat.lt_succ_self _))
  have I2 := Inv.made (C := C) I
  refine wpAny_call (make_map (f := f) I.kIn M.makes M.init (beq_iff_eq.mp M.fn) (codeAny_mono (F _ X.stack _ _ (Value.ref (s.heap.objs.size + 1)) (V.ref (s.heap.objs.size + 1)) ws zs _ E (hr.make C [] (ks.zip ws)) (I2.env0.make C [] (ks.zip ws)) rfl r hz hq) fun r s' hq' => ?_))
  cases r with
  | error e => exact hx pins σ _ _ e s' I2 hq'
  | ok fl =>
    cases fl with
    | ret u =>
      obtain ⟨v, H', I3, rv, ev, q3⟩ := I2.after hq'
      subst ev
      exact ⟨rv, ⟨V.ref (s.heap.objs.size + 1), H', I3, rfl, q3⟩⟩
    | next => exact False.elim hq'
    | brk => exact False.elim hq'
    | cont => exact False.elim hq'
theorem pe_mkKw (M : Mk X.K C f) (F : FnKw X.prog X.w X.K X.mg X.base CX k f ks sp) (hr : Room (k + 1) X.A) (hg : Gl X x) (hm : X.mg x = some (.ref C)) (hx : Passes CX X E) (hkw : PK X kws tk) (hdb : (x == ("__debug__" : Str)) = false := by decide)
    (hall : (backToKw pos (keywordEach kws X.env)).all (·.1.isSome) = true := by rfl) (hks : (backToKw pos (keywordEach kws X.env)).filterMap (·.1) = ks := by rfl)
    (hpl : ((backTo pos (starEach [] X.env)).any (·.1) || (backToKw pos (keywordEach kws X.env)).any (·.1.isNone)) = false := by rfl) :
    PE X (.Call (.Name x p) [] kws pos) (tMkKw C sp E ks.length tk) := by
  refine ⟨fun pins s σ H Q I h => ?_⟩
  refine wpAny_Call_Name_kw (ld_glob I hg hm ?_ hdb)
  refine PySem.W.callWith_KW0 (h₀ := X.base) I.ok.mod.kin M.kp hall (thn (hkw.run pos pins s σ H _ I h) fun ws s2 ⟨zs, H2, I2, rz, l2, q2⟩ => ⟨I2.kIn, ?_⟩) hpl
  rw [hks]
  exact run_makeKw M F hr hx I2 rz l2 q2
end
end Cs

set_option Elab.async false
set_option linter.all false
set_option maxRecDepth 100000
set_option maxHeartbeats 4000000
/-! Counts.__init__ with keywords and no pairs. -/
namespace Cs
open PySem L2
theorem prl_items {H : Hp} : ∀ {nt : Tab} {ts : List Addr}, Paired (fun (t : Addr) (q : Key × V) => H t = some (.tup [kV q.1, q.2])) ts (tv nt) → PrL H (ts.map V.ref) nt
  | [], [], _ => .nil
  | q :: nt, t :: ts, .cons h r => .cons ⟨t, rfl, h⟩ (prl_items r)
theorem kw_tv : ∀ (ks : List Str) (ns : List Int), kwK ks (ns.map V.int) = tv (ks.zip ns)
  | [], ns => by unfold kwK tv; simp
  | k :: ks, [] => by unfold kwK tv; simp
  | k :: ks, n :: ns => by
    have := kw_tv ks ns
    unfold kwK tv at this ⊢
    simp only [List.map_cons, List.zip_cons_cons]
    rw [this]
/-- __init__ behind its binding: no pairs, the keywords a dict at dn -/
def spInitKB (C : Addr) : Sp := fun vs H Q _ => ∃ (x pt dn dx : Addr) (nt : Tab), vs = [.ref x, .ref pt, .ref dn] ∧ H x = some (.ins C dx []) ∧ H pt = some (.tup []) ∧ H dn = some (.dK (tv nt)) ∧ (keys nt).Nodup ∧ GoodPs nt ∧ nt.length ≤ 1000 ∧
  ∀ (d : Addr) (H' : Hp), H d = none → Cnt C H' x d (noZero (addUp nt)) → (∀ b o, H b = some o → b ≠ x → H' b = some o) → Q .non H'
/-- __init__ called with keywords -/
def spInitK (C : Addr) (ks : List Str) : Sp := fun vs H Q _ => ∃ (x dx : Addr) (ns : List Int), vs = .ref x :: ns.map V.int ∧ H x = some (.ins C dx []) ∧ ns.length = ks.length ∧ (∀ n ∈ ns, Small n) ∧
  ∀ (d : Addr) (H' : Hp), H d = none → Cnt C H' x d (noZero (addUp (ks.zip ns))) → (∀ b o, H b = some o → b ≠ x → H' b = some o) → Q .non H'
section
variable {P : Program} {w : World} {K : PySem.W.Frag} {mg : Str → Option Value} {base : Heap}
theorem initK_body {C f fIw fIs : Addr} {fdIw fdIs : FuncData} {cdv : Value} {A : Around} {outer : List Env} {s : Shared} {H : Hp} {vs : List V} {Q : VK} {E : XK} (g : Bi mg) (cl : Cls K C) (nH : NoAttr K C "held")
    (FIw : Def P w K mg base CX0 1 "is_word" ["thing"] (spIsWord K) fIw fdIw) (FIs : Def P w K mg base CX0 2 "is_small" ["thing"] (spIsSmall K) fIs fdIs)
    (hr : Room 2 (A.deeper (PyProof.Rows.envOfC "Counts.__init__" (defScope s_Counts_init) s.heap.objs.size f cdv))) (h : spInitKB C vs H Q E) :
    ∃ t, PSs (cxOf CX0 P w K mg base ["self", "pairs", "numbers", "word", "held", "number"] "Counts.__init__" (defScope s_Counts_init) f cdv A outer s H E).nox (defBody s_Counts_init) t ∧ t { nx := fun _ H' => Q .non H', rt := Q } (L2.start ["self", "pairs", "numbers", "word", "held", "number"] vs) H := by
  obtain ⟨GIw, mIw, _, bIw⟩ := id FIw
  obtain ⟨GIs, mIs, _, bIs⟩ := id FIs
  have hrIw : Room 1 _ := hr.mono (by decide)
  have hrIs : Room 2 _ := hr
  obtain ⟨x, pt, dn, dx, ps, rfl, hx, hpt, hdn, hnd, hG, hl, k⟩ := h
  have hW : WdP ps := fun r m => (hG r m).1
  have hu := hu_of hr
  refine ⟨_, (pss_cons (ps_lock (ps_for PassesOwn.never rfl (pi_keys (pv 2)) (pg_name (i := 3) sc_Counts_init.nd rfl (Or.inl rfl)) (pss_cons (ps_if (pt_not (pt_val (pe_call GIw hrIw rfl mIw FIw.kp bIw .nil pass0 (pa_cons (pv 3) pa_nil)))) (pss_one ps_never) pss_nil)
      (pss_one (ps_if (pt_not (pt_val (pe_call GIs hrIs rfl mIs FIs.kp bIs .nil pass0 (pa_cons (pe_dget hu (pv 2) (pv 3) (fun _ _ => rfl)) pa_nil)))) (pss_one ps_never) pss_nil)))))
      (pss_cons (ps_set (i := 4) sc_Counts_init.nd rfl (Or.inl rfl) pe_dnewK)
      (pss_cons (ps_for PassesOwn.never rfl (pi_list (pe_op op_cat (pe_callTy call_list_of (by rfl) g.list (by decide +kernel) (pa_cons (pv 1) pa_nil)) (LiI.pe_listItems rfl (pv 2) (by rfl) g.list (by decide +kernel)))) (pg_tup rfl (pgs_cons (pg_name (i := 3) sc_Counts_init.nd rfl (Or.inl rfl)) (pgs_cons (pg_name (i := 5) sc_Counts_init.nd rfl (Or.inl rfl)) pgs_nil))) (pss_one (ps_dput hu (pv 4) (pv 3) (pe_op op_add (pe_dget2 hu (pv 4) (pv 3) pe_int ⟨rfl, rfl, rfl, rfl⟩) (pv 5)) rfl)))
      (pss_one (ps_fld (pv 0) (pe_lock (pe_dc (own := [("word", 3), ("number", 5)]) (g := gTup K 2 (gCons (gName 3) (gCons (gName 5) gNil))) (by rfl) sc_Counts_init.nd (pi_items (pv 4)) (blkOk_by (own := [("word", 3), ("number", 5)]) (N := ["self", "pairs", "numbers", "word", "held", "number"]) (sc := defScope s_Counts_init) (by decide +kernel)) (fun _ _ _ _ _ => (pg_tup rfl (pgs_cons (pg_name (i := 3) sc_Counts_init.nd rfl (Or.inl rfl)) (pgs_cons (pg_name (i := 5) sc_Counts_init.nd rfl (Or.inl rfl)) pgs_nil)))) (fun _ _ _ _ _ => (pts_one (pt_cmpR op_ne (pv 5) pe_int (nomark _)))) (fun _ _ _ _ _ => (pv 3)) (fun _ _ _ _ _ => (pv 5)))) rfl))))), ?_⟩
  have nxd : x ≠ dn := ne_of hx hdn (by intro z; cases z)
  have npd : pt ≠ dn := ne_of hpt hdn (by intro z; cases z)
  -- for word in numbers
  refine ⟨dn, _, hdn, trivial, fun od => ?_⟩
  refine ⟨_, rfl, dn, od, rfl, .inl ⟨_, upd_same, ?_⟩⟩
  refine for_it walk_keys (fun i σ' H' => (∃ x3 : Option V, σ' = [some (.ref x), some (.ref pt), some (.ref dn), x3, none, none]) ∧ (∀ b o, H b = some o → b ≠ dn → H' b = some o) ∧ H' dn = some (.frz od (.dK (tv ps)))) ⟨⟨_, rfl⟩, fun b o e n => by rw [upd_ne n]; exact e, upd_same⟩ (fun i σ' H' _ h => h.2.2) ?_ ?_
  · rintro i v σ' H' H2 hi ⟨⟨x3, rfl⟩, k1, k2⟩ ⟨rfl, kk, vv, hv, ev⟩
    rw [tv_len] at hi
    have hi2 : (tv ps)[i]? = some (Sum.inr ps[i].1, V.int ps[i].2) := by
      unfold tv
      rw [List.getElem?_map, List.getElem?_eq_getElem hi]
      rfl
    rw [hi2] at hv
    obtain rfl : Sum.inr ps[i].1 = kk := congrArg Prod.fst (Option.some.inj hv)
    obtain rfl : v = V.str ps[i].1 := ev
    obtain ⟨hz, hn⟩ := hG _ (List.getElem_mem hi)
    refine ⟨_, rfl, .inl ⟨ps[i].1, rfl, Nat.le_trans hz.2.1 (by decide), fun H3 s3 => ?_⟩⟩
    rw [wordB_of hz]
    refine ⟨_, rfl, iteF ?_⟩
    refine ⟨_, rfl, _, rfl, dn, .int ps[i].2, rfl, ?_, .inl ⟨ps[i].2, rfl, ?_⟩⟩
    · have : DGet H3 dn (kV (Sum.inr ps[i].1)) (valV (tv ps) (Sum.inr ps[i].1)) := .inl ⟨_, _, .inr ⟨od, s3 _ _ k2⟩, rfl, rfl⟩
      rw [tv_val, look_mem hnd (show (ps[i].1, ps[i].2) ∈ ps from List.getElem_mem hi)] at this
      exact this
    rw [decide_eq_true hn.1, decide_eq_true hn.2]
    refine ⟨_, rfl, iteF ?_⟩
    exact ⟨⟨_, rfl⟩, fun b o e n => s3 _ _ (k1 b o e n), s3 _ _ k2⟩
  rintro σ' H' ⟨⟨x3, rfl⟩, k1, k2⟩
  refine ⟨k2, ?_⟩
  have sA : Same H (upd H' dn (.dK (tv ps))) := fun b o q => by
    by_cases e : b = dn
    · rw [e, upd_same, ← q, e, hdn]
    · rw [upd_ne e]
      exact k1 b o q e
  generalize upd H' dn (.dK (tv ps)) = HA at sA
  -- held = {}
  intro e heA
  have he : H e = none := sA.free heA
  have s1 : Same H (upd HA e (.dK [])) := sA.trans (Same.new heA)
  -- list(pairs) + list(numbers.items())
  refine ⟨_, rfl, pt, _, rfl, .inr (SqT.of (s1 _ _ hpt)), fun l1 hl1 => ?_⟩
  have s2 := s1.trans (Same.new (o := .lst []) hl1)
  refine ⟨_, rfl, dn, tv ps, rfl, s2 _ _ hdn, fun H3 p3 ts sm hp3 hts hnp hlst hpr => ?_⟩
  have nel : e ≠ l1 := ne_of_none upd_same hl1
  have hP0 := prl_items hpr
  generalize exs : ts.map V.ref = xs at hlst hP0
  refine ⟨l1, p3, [], xs, rfl, rfl, sm _ _ upd_same, hlst, ?_, fun l hl4 => ?_⟩
  · rw [hP0.length]
    exact Nat.le_trans (show 0 + ps.length ≤ 1000 by omega) (by decide)
  rw [List.nil_append]
  have s3 : Same H H3 := s2.trans sm
  have s4 : Same H (upd H3 l (.lst xs)) := s3.trans (Same.new hl4)
  have s34 : Same H3 (upd H3 l (.lst xs)) := Same.new hl4
  have he3 : H3 e = some (.dK []) := sm _ _ (by rw [upd_ne nel]; exact upd_same)
  have nel4 : e ≠ l := ne_of_none he3 hl4
  have hP : PrL (upd H3 l (.lst xs)) xs ps := hP0.mono fun _ _ _ q => s34 _ _ q
  have hl0 : (upd H3 l (.lst xs)) l = some (.lst xs) := upd_same
  have hee : (upd H3 l (.lst xs)) e = some (.dK []) := by rw [upd_ne nel4]; exact he3
  generalize upd H3 l (.lst xs) = HB at s4 hP hl0 hee
  refine ⟨l, rfl, ⟨_, SqL.of hl0⟩, for_list (K := K) (a := l) (xs := xs) (fun i σ' H' => ∃ x3 x5 : Option V, σ' = [some (.ref x), some (.ref pt), some (.ref dn), x3, some (.ref e), x5] ∧ (∀ b o, HB b = some o → b ≠ e → H' b = some o) ∧ H' l = some (.lst xs) ∧ H' e = some (.dK (tv (addUp (ps.take i)))))
    ⟨_, _, rfl, fun b o q _ => q, hl0, hee⟩ (fun i σ' H' _ ⟨_, _, _, _, h, _⟩ => SqL.of h) ?_ ?_⟩
  · rintro i y σ' H' hy ⟨x3, x5, rfl, s', hl', he'⟩
    have hi : i < ps.length := by
      have := (List.getElem?_eq_some_iff.mp hy).1
      rw [hP.length] at this
      exact this
    obtain ⟨t, et, ht⟩ := hP.at (List.getElem?_eq_getElem hi)
    rw [et] at hy
    obtain rfl := Option.some.inj hy
    refine ⟨t, _, rfl, SqT.of (s' _ _ ht (ne_of ht hee (by intro z; cases z))), rfl, _, _, rfl, _, _, rfl, rfl, ?_⟩
    refine ⟨_, rfl, e, rfl, .inl ⟨_, .inl he'⟩, _, rfl, _, DGet.k (k := Sum.inr ps[i].1) he', _, rfl, val (addUp (ps.take i)) ps[i].1, ps[i].2, (by rw [tv_val]; exact val_getD _ _), rfl, _, rfl, _, rfl, e, _, rfl, DPut.k (k := Sum.inr ps[i].1) he' ?_, ?_⟩
    · rw [tv_len]
      have h1 := addUp_len (ps.take i)
      rw [List.length_take] at h1
      exact Nat.lt_of_le_of_lt (show (addUp (ps.take i)).length ≤ 1000 by omega) (by decide)
    · refine ⟨_, _, rfl, fun b o q n => by rw [upd_ne n]; exact s' b o q n, by rw [upd_ne (ne_of hl' he' (by intro z; cases z))]; exact hl', ?_⟩
      rw [upd_same, tv_put, List.take_succ, List.getElem?_eq_getElem hi]
      show some (HO.dK (tv (put (addUp (ps.take i)) ps[i].1 (val (addUp (ps.take i)) ps[i].1 + ps[i].2)))) = some (HO.dK (tv (addUp (ps.take i ++ [ps[i]]))))
      rw [addUp_snoc]
  · rintro σ' H5 ⟨x3, x5, rfl, s5', hl5, he5⟩
    have s5 : Same H H5 := fun b o q => s5' b o (s4 _ _ q) (ne_of_none q he)
    rw [hP.length, List.take_length] at he5
    generalize et : addUp ps = t at he5
    have ndt : (keys t).Nodup := by rw [← et]; exact addUp_nd ps
    have lent : t.length ≤ 1000 := by rw [← et]; exact Nat.le_trans (addUp_len ps) hl
    -- self.held = {..}
    refine ⟨e, _, he5, trivial, fun oe => ?_⟩
    refine ⟨_, rfl, e, oe, _, rfl, upd_same, fun D hD => ?_⟩
    have nDe : D ≠ e := (ne_of_none upd_same hD).symm
    have hDH : H5 D = none := by rw [upd_ne nDe] at hD; exact hD
    have xe : x ≠ e := ne_of_none hx he
    refine dc_it walk_items (fun i H' => (∀ b o, H5 b = some o → b ≠ e → H' b = some o) ∧ H' e = some (.frz oe (.dK (tv t))) ∧ H' D = some (.dK (tv (noZero (t.take i))))) ⟨fun b o q n => by rw [upd_ne (ne_of_none q hDH), upd_ne n]; exact q, by rw [upd_ne nDe.symm]; exact upd_same, upd_same⟩
      (fun i H' _ h => h.2.1) ?_ ?_
    · rintro i v H' H2 hi ⟨k1, k2, k3⟩ ⟨T, a, b, rfl, hT, rfl, ha, hb⟩
      rw [tv_len] at hi
      have hi2 : (tv t)[i]? = some (Sum.inr t[i].1, V.int t[i].2) := by
        unfold tv
        rw [List.getElem?_map, List.getElem?_eq_getElem hi]
        rfl
      dsimp only at ha hb
      rw [hi2] at ha hb
      obtain rfl : V.str t[i].1 = a := Option.some.inj ha
      obtain rfl : V.int t[i].2 = b := Option.some.inj hb
      have sT : Same H' (upd H' T (.tup [V.str t[i].1, V.int t[i].2])) := Same.new hT
      refine ⟨T, _, rfl, SqT.of upd_same, rfl, _, _, rfl, _, _, rfl, rfl, rfl, _, rfl, rfl, _, rfl, ?_⟩
      have nz := noZero_take ndt (List.getElem?_eq_getElem hi)
      by_cases z : t[i].2 = 0
      · rw [decide_eq_true (show V.int t[i].2 = V.int 0 by rw [z])]
        rw [if_neg (by simpa using z)] at nz
        refine iteF ?_
        refine ⟨fun c o q n => sT _ _ (k1 c o q n), sT _ _ k2, ?_⟩
        rw [nz]
        exact sT _ _ k3
      · rw [decide_eq_false (show ¬ V.int t[i].2 = V.int 0 from fun q => z (V.int.inj q))]
        rw [if_pos z] at nz
        refine iteT ?_
        refine ⟨_, rfl, _, rfl, _, Sum.inr t[i].1, rfl, sT _ _ k3, ?_, ?_, ?_, ?_⟩
        · rw [tv_len]
          have h1 : (noZero (t.take i)).length ≤ (t.take i).length := List.length_filter_le _ _
          rw [List.length_take] at h1
          exact Nat.lt_of_le_of_lt (show (noZero (t.take i)).length ≤ 1000 by omega) (by decide)
        · intro c o q n
          rw [upd_ne (ne_of_none q hDH)]
          exact sT _ _ (k1 c o q n)
        · rw [upd_ne nDe.symm]
          exact sT _ _ k2
        · rw [upd_same, tv_put, nz]
    · rintro H' ⟨k1, k2, k3⟩
      rw [tv_len, List.take_length] at k3
      refine ⟨k2, _, rfl, x, C, dx, [], rfl, ?_, cl, nH, (by show 0 < 1000; decide), ?_⟩
      · rw [upd_ne xe]
        exact k1 _ _ (s5 _ _ hx) xe
      · have nDx : D ≠ x := (ne_of_none (s5 _ _ hx) hDH).symm
        refine k D _ (s5.free hDH) ⟨⟨dx, upd_same⟩, ?_, Held.of (by rw [et]; exact ndt), hW.held⟩ fun b o q n => ?_
        · rw [upd_ne nDx, upd_ne nDe, et]
          exact k3
        · have be : b ≠ e := ne_of_none q he
          rw [upd_ne n, upd_ne be]
          exact k1 _ _ (s5 _ _ q) be
theorem ok_initK {C f fIw fIs : Addr} {fdIw fdIs : FuncData} {oc od kV doc pm an cdv ct osl} {ks : List Str} (g : Bi mg) (cl : Cls K C) (nH : NoAttr K C "held")
    (FIw : Def P w K mg base CX0 1 "is_word" ["thing"] (spIsWord K) fIw fdIw) (FIs : Def P w K mg base CX0 2 "is_small" ["thing"] (spIsSmall K) fIs fdIs)
    (lk : K.lookup f = some ⟨oc, od, .func (PySem.W.fnOf "__init__" "Counts.__init__" (defArgs s_Counts_init) (defBody s_Counts_init) (defScope s_Counts_init) .none kV doc pm an cdv ct), osl⟩) (hcd : PySem.W.codeIn K cdv "Counts.__init__" = true)
    (hn : ks.Nodup) (hl : ks.length ≤ 1000) (hw : ∀ z ∈ ks, Word z)
    (hb : ∀ (u : Value) (ws : List Value), ws.length = ks.length → bindArgs (PySem.W.fnOf "__init__" "Counts.__init__" (defArgs s_Counts_init) (defBody s_Counts_init) (defScope s_Counts_init) .none kV doc pm an cdv ct) ⟨[u], ks.zip ws⟩ =
      (newTuple [] >>= fun t => (alloc ({ cls := .type "dict", data := .dict #[] } : Obj) : Sem Addr) >>= fun d => (forIn (ks.zip ws) PUnit.unit fun x _ => (nsSet d x.1 x.2 >>= fun _ => pure (ForInStep.yield PUnit.unit))) >>= fun _ => pure [(("self" : Str), u), (("pairs" : Str), t), (("numbers" : Str), Value.ref d)])) :
    FnKw P w K mg base CX0 3 f ks (spInitK C ks) := by
  have G := fn_kw (P := P) (w := w) (mg := mg) (base := base) (CX := CX0) (k := 2) (p1 := "self") (pv := "pairs") (pd := "numbers") (sp := spInitKB C) lk hcd sc_Counts_init StX.cxUp_none hn hl hb
    (fun A outer s H vs Q E hr h => by
      obtain ⟨t, a, b⟩ := initK_body (P := P) (w := w) (mg := mg) (base := base) (outer := outer) (s := s) g cl nH FIw FIs hr h
      exact ⟨t, a.nox, b⟩)
  intro A outer s H u v ws zs Q E hr e0 rv r hz hsp
  refine G A outer s H u v ws zs Q E hr e0 rv r hz ?_
  obtain ⟨x, dx, ns, ev, hx, hns, hsm, k⟩ := hsp
  obtain ⟨rfl, rfl⟩ := List.cons.inj ev
  refine ⟨_, _, rfl, fun p d hp hd hne => ?_⟩
  have s1 : Same H (upd H p (.tup [])) := Same.new hp
  have hd1 : (upd H p (.tup [])) d = none := by rw [upd_ne hne]; exact hd
  have s2 : Same H (upd (upd H p (.tup [])) d (.dK (kwK ks (ns.map V.int)))) := s1.trans (Same.new hd1)
  have ek : keys (ks.zip ns) = ks := List.map_fst_zip (by omega)
  refine ⟨x, p, d, dx, ks.zip ns, rfl, s2 _ _ hx, (by rw [upd_ne hne.symm]; exact upd_same), by rw [upd_same, kw_tv], by rw [ek]; exact hn, fun q hq => ?_, ?_, fun e H' he hc kp => ?_⟩
  · obtain ⟨h1, h2⟩ := List.of_mem_zip (show (q.1, q.2) ∈ ks.zip ns from hq)
    exact ⟨hw _ h1, hsm _ h2⟩
  · rw [List.length_zip]
    omega
  · exact k e H' (s2.free he) hc fun b o q n => kp b o (s2 _ _ q) n
end
end Cs

set_option Elab.async false
set_option linter.all false
set_option maxRecDepth 100000
set_option maxHeartbeats 8000000
set_option pp.maxSteps 600
/-! The law of sets of rules refused: wrong rules, wrong loose kinds, wide caps. -/
namespace Cs
open PySem L2 NdefX
theorem cut_upto (xs : List V) (n : Nat) : cutV xs none (some (n : Int)) = xs.take n := by
  unfold cutV
  rw [HT.sIx_none, HT.sIx_nat, List.drop_zero, Nat.sub_zero]
  by_cases c : n ≤ xs.length
  · rw [Nat.min_eq_left c]
  · rw [Nat.min_eq_right (by omega), List.take_length, List.take_of_length_le (by omega)]
theorem RsAt.rue {a : RAd} {Cc : Addr} {H : Hp} {ps : List V} {rs : List RuD} (h : RsAt a H ps rs) : Paired (RuE a Cc H) ps (ps.map fun _ => true) := by
  unfold RsAt at h
  induction h with
  | nil => exact .nil
  | cons hz _ ih =>
    obtain ⟨p, e, hh, _⟩ := hz
    exact .cons (.inl ⟨rfl, p, _, _, _, _, e, hh⟩) ih
theorem paired_upto {α β : Type} {R : α → β → Prop} : ∀ {xs : List α} {bs : List β} (n : Nat), Paired R xs bs → Paired R (xs.take n) (bs.take n)
  | _, _, 0, _ => .nil
  | _, _, _ + 1, .nil => .nil
  | _, _, n + 1, .cons r t => .cons r (paired_upto n t)
theorem kw_a : ∀ z ∈ (["a"] : List Str), Word z := by
  intro z hz
  rw [List.mem_singleton.mp hz]
  exact word_of (by decide +kernel)
section
variable {P : Program} {w : World} {K : PySem.W.Frag} {mg : Str → Option Value} {base : Heap}
def spWrongR (a : RAd) (Cc : Addr) : Sp := fun vs H Q _ => ∃ (c : Int) (rl : Addr) (ps : List V) (rs : List RuD), vs = [.int c, .ref rl] ∧ 0 ≤ c ∧ c < 8 ∧ H rl = some (.lst ps) ∧ RsAt a H ps rs ∧ 1 ≤ rs.length ∧ rs.length ≤ 4 ∧
  ∀ q H' ps' bs, H q = none → Same H H' → H' q = some (.lst ps') → ps'.length ≤ 100 → Paired (RuE a Cc H') ps' bs → (ps' = [] ∨ 5 ≤ ps'.length ∨ false ∈ bs) → Q (.ref q) H'
theorem ok_wrongR {f fI Cc : Addr} {fd : FuncData} {a : RAd} (F : Fun K "_law_wrong_rules" "_law_wrong_rules" s_l_wrong_rules f fd) (g : Bi mg) (T : CT P w K mg base Cc fI) (IK : FnKw P w K mg base CX0 3 fI ["a"] (spInitK Cc ["a"])) : FnOk P w K mg base CX0 5 f fd ["_law_choice", "_law_rules"] (spWrongR a Cc) := by
  refine F.ok sc_l_wrong_rules (fun vs H Q E h => ?_) (fun cdv A outer s H vs Q E hr h => ?_)
  · obtain ⟨_, _, _, _, rfl, _⟩ := h
    rfl
  · obtain ⟨c, rl, ps, rs, rfl, c0, c8, hrl, hrs, lo, hi, k⟩ := h
    have hrIK : Room 4 _ := hr
    have hln := hrs.len
    refine ⟨_, (pss_cons (ps_if (pt_cmpR op_lt (pv 0) pe_int (nomark _)) (pss_one (ps_ret (pe_ix ix_list (pe_lst (pa_cons (pe_lst pa_nil) (pa_cons (pe_slice sl_list (pe_op op_rep (pv 1) pe_int) po_none (po_some pe_int)) pa_nil))) (pv 0) (fun _ _ => rfl)))) pss_nil)
      (pss_one (ps_ret (pe_op op_cat (pe_slice sl_list (pv 1) po_none (po_some pe_int)) (pe_lst (pa_cons (pe_ix ix_list (pe_lst (pa_cons pe_non (pa_cons pe_int (pa_cons pe_str (pa_cons (pe_mkKw T.mke IK hrIK rfl T.mgC pass0 (pk_cons pe_int pk_nil)) (pa_cons pe_bl (pa_cons (pv 1) pa_nil))))))) (pe_op op_sub (pv 0) pe_int) (fun _ _ => rfl)) pa_nil)))))), ?_⟩
    refine ⟨_, rfl, _, _, rfl, rfl, _, rfl, ite2 (fun z => ?_) (fun z => ?_)⟩
    · have z := of_decide_eq_true z
      refine ⟨Nat.zero_le _, fun a0 ha0 => ?_⟩
      have s1 := Same.new (o := .lst []) ha0
      have e1 := upd_same (H := H) (a := a0) (o := .lst [])
      generalize upd H a0 (.lst []) = H1 at s1 e1 ⊢
      refine ⟨_, rfl, rl, 5, ps, rfl, rfl, s1 _ _ hrl, by decide, by decide, Nat.le_trans (show ps.length * 5 ≤ 100 by omega) (by decide), fun b hb => ?_⟩
      have e5 : (List.replicate (5 : Int).toNat ps).flatten = ps ++ (ps ++ (ps ++ (ps ++ (ps ++ [])))) := rfl
      rw [e5]
      have s2 := s1.trans (Same.new (o := .lst (ps ++ (ps ++ (ps ++ (ps ++ (ps ++ [])))))) hb)
      have e2 := Same.new (o := .lst (ps ++ (ps ++ (ps ++ (ps ++ (ps ++ [])))))) hb _ _ e1
      have e3 := upd_same (H := H1) (a := b) (o := .lst (ps ++ (ps ++ (ps ++ (ps ++ (ps ++ []))))))
      generalize upd H1 b (.lst (ps ++ (ps ++ (ps ++ (ps ++ (ps ++ [])))))) = H2 at s2 e2 e3 ⊢
      refine ⟨_, rfl, b, _, rfl, SqL.of e3, fun q hq => ?_⟩
      have ec := cut_upto (ps ++ (ps ++ (ps ++ (ps ++ (ps ++ []))))) 5
      generalize hXX : ps ++ (ps ++ (ps ++ (ps ++ (ps ++ [])))) = XX at e3 ec ⊢
      have exl : XX.length = 5 * ps.length := by rw [← hXX]; simp; omega
      have s3 := s2.trans (Same.new (o := .lst (cutV XX none (some 5))) hq)
      have e4 := Same.new (o := .lst (cutV XX none (some 5))) hq _ _ e2
      have e6 := upd_same (H := H2) (a := q) (o := .lst (cutV XX none (some 5)))
      generalize upd H2 q (.lst (cutV XX none (some 5))) = H3 at s3 e4 e6 ⊢
      have e6 : H3 q = some (.lst (XX.take 5)) := by rw [e6]; exact congrArg (fun x => some (HO.lst x)) ec
      refine ⟨by show 2 ≤ sizeLine; decide, fun L hL => ?_⟩
      have s4 := s3.trans (Same.new (o := .lst [.ref a0, .ref q]) hL)
      have e7 := Same.new (o := .lst [.ref a0, .ref q]) hL _ _ e4
      have e8 := Same.new (o := .lst [.ref a0, .ref q]) hL _ _ e6
      have e9 := upd_same (H := H3) (a := L) (o := .lst [.ref a0, .ref q])
      generalize upd H3 L (.lst [.ref a0, .ref q]) = H4 at s4 e7 e8 e9 ⊢
      have hc : c = 0 ∨ c = 1 := by omega
      rcases hc with e | e <;> subst e
      · exact ⟨_, rfl, L, _, 0, _, rfl, rfl, SqL.of e9, rfl, k a0 _ [] [] ha0 s4 e7 (by decide) .nil (.inl rfl)⟩
      · have hall : Paired (RuE a Cc H4) (XX.take 5) ((XX.map fun _ => true).take 5) := by
          refine paired_upto 5 ?_
          have hp := (hrs.same s4).rue (Cc := Cc)
          rw [← hXX]
          have app : ∀ {xs ys : List V} {bs cs : List Bool}, Paired (RuE a Cc H4) xs bs → Paired (RuE a Cc H4) ys cs → Paired (RuE a Cc H4) (xs ++ ys) (bs ++ cs) := by
            intro xs ys bs cs h1 h2
            induction h1 with
            | nil => exact h2
            | cons r _ ih => exact .cons r ih
          simp only [List.map_append, List.map_nil]
          exact app hp (app hp (app hp (app hp (app hp .nil))))
        have hl5 : (XX.take 5).length = 5 := by rw [List.length_take]; omega
        exact ⟨_, rfl, L, _, 1, _, rfl, rfl, SqL.of e9, rfl, k q _ _ _ (s2.free hq) s4 e8 (by omega) hall (.inr (.inl (by omega)))⟩
    · have z : ¬ c < 2 := fun q => z (decide_eq_true q)
      refine ⟨_, rfl, _, rfl, rl, ps, rfl, SqL.of hrl, fun b hb => ?_⟩
      have s1 := Same.new (o := .lst (cutV ps none (some 3))) hb
      have e1 := upd_same (H := H) (a := b) (o := .lst (cutV ps none (some 3)))
      generalize upd H b (.lst (cutV ps none (some 3))) = H1 at s1 e1 ⊢
      have e1 : H1 b = some (.lst (ps.take 3)) := by rw [e1]; exact congrArg (fun x => some (HO.lst x)) (cut_upto ps 3)
      refine ⟨rfl, fun x dx hx hdx ne => ⟨x, dx, [1], rfl, upd_same, rfl, (fun n hn => by rw [List.mem_singleton.mp hn]; exact ⟨by decide, by decide⟩), fun d H2 hd hcnt hk => ⟨rfl, ?_⟩⟩⟩
      have s2 : Same H1 H2 := fun a' o e => hk a' o (by
        rw [upd_ne (ne_of_none e hx), upd_ne (ne_of_none e hdx)]
        exact e) (ne_of_none e hx)
      obtain ⟨dx', fs, hx2⟩ : ∃ dx' fs, H2 x = some (.ins Cc dx' fs) := by
        obtain ⟨dx', h1⟩ := hcnt.ob
        exact ⟨dx', _, h1⟩
      refine ⟨_, rfl, by show 6 ≤ sizeLine; decide, fun l6 h6 => ?_⟩
      have s3 := Same.new (o := .lst [.non, .int 5, .str "exactly 1 a", .ref x, .bl true, .ref rl]) h6
      have e3 := upd_same (H := H2) (a := l6) (o := .lst [.non, .int 5, .str "exactly 1 a", .ref x, .bl true, .ref rl])
      generalize upd H2 l6 (.lst [.non, .int 5, .str "exactly 1 a", .ref x, .bl true, .ref rl]) = H3 at s3 e3 ⊢
      have s13 := s1.trans (s2.trans s3)
      have hx3 := s3 _ _ hx2
      have e13 := s3 _ _ (s2 _ _ e1)
      obtain ⟨v, hv, hv2⟩ : ∃ v, atI [V.non, .int 5, .str "exactly 1 a", .ref x, .bl true, .ref rl] (c - 2) = some v ∧ RuE a Cc H3 v false := by
        have hc : c = 2 ∨ c = 3 ∨ c = 4 ∨ c = 5 ∨ c = 6 ∨ c = 7 := by omega
        rcases hc with e | e | e | e | e | e <;> subst e
        · exact ⟨_, rfl, .inr ⟨rfl, .inl .non⟩⟩
        · exact ⟨_, rfl, .inr ⟨rfl, .inl (.int 5)⟩⟩
        · exact ⟨_, rfl, .inr ⟨rfl, .inl (.str _ (by decide +kernel))⟩⟩
        · exact ⟨_, rfl, .inr ⟨rfl, .inr ⟨x, _, _, rfl, hx3⟩⟩⟩
        · exact ⟨_, rfl, .inr ⟨rfl, .inl (.bl true)⟩⟩
        · exact ⟨_, rfl, .inr ⟨rfl, .inl (.lst (s13 _ _ hrl))⟩⟩
      refine ⟨_, rfl, _, _, rfl, rfl, l6, _, _, v, rfl, rfl, SqL.of e3, hv, by show 1 ≤ sizeLine; decide, fun l1 h1 => ?_⟩
      have s4 := s13.trans (Same.new (o := .lst [v]) h1)
      have e4 := upd_same (H := H3) (a := l1) (o := .lst [v])
      have e14 := Same.new (o := .lst [v]) h1 _ _ e13
      have hv3 := hv2.same (Same.new (o := .lst [v]) h1)
      generalize upd H3 l1 (.lst [v]) = H4 at s4 e4 e14 hv3 ⊢
      refine ⟨b, l1, _, _, rfl, rfl, e14, e4, ?_, fun q hq => ?_⟩
      · rw [List.length_take]; exact Nat.le_trans (show min 3 ps.length + 1 ≤ 4 by omega) (by decide)
      have s5 := s4.trans (Same.new (o := .lst (ps.take 3 ++ [v])) hq)
      refine k q _ (ps.take 3 ++ [v]) ((ps.map fun _ => true).take 3 ++ [false]) (s4.free hq) s5 upd_same (by simp; omega) ?_ (.inr (.inr (by simp)))
      have app : ∀ {xs ys : List V} {bs cs : List Bool} {H5 : Hp}, Paired (RuE a Cc H5) xs bs → Paired (RuE a Cc H5) ys cs → Paired (RuE a Cc H5) (xs ++ ys) (bs ++ cs) := by
        intro xs ys bs cs H5 h1 h2
        induction h1 with
        | nil => exact h2
        | cons r _ ih => exact .cons r ih
      exact app (paired_upto 3 (hrs.same s5).rue) (.cons (hv3.same (Same.new hq)) .nil)
end
end Cs

set_option Elab.async false
set_option linter.all false
set_option maxRecDepth 100000
set_option maxHeartbeats 8000000
set_option pp.maxSteps 600
/-! The law of sets of rules refused: wrong loose kinds, wide caps. -/
namespace Cs
open PySem L2 NdefX
/-- a value that is no good loose for rules over names with k among them -/
def LoBad (H : Hp) (k : Str) (v : V) : Prop := (v = .non ∨ ∃ z, v = .str z) ∨ ∃ (ll : Addr) (ys : List V), v = .ref ll ∧ Sq2 H ll ys ∧ ys.length ≤ 100 ∧ (∀ y ∈ ys, VO H y) ∧ ∀ nm : List Str, k ∈ nm → looseB nm ys = false
theorem LoBad.same {H H' : Hp} {k : Str} {v : V} (s : Same H H') (h : LoBad H k v) : LoBad H' k v := h.imp id fun ⟨ll, ys, e, h1, h2, h3, h4⟩ => ⟨ll, ys, e, h1.same s, h2, fun y hy => (h3 y hy).same s, h4⟩
theorem loose_bad1 {nm : List Str} {ys : List V} {y : V} (hy : y ∈ ys) (h : (kndV y && notIn nm y) = false) : looseB nm ys = false := by
  unfold looseB
  have : (ys.all fun v => kndV v && notIn nm v) = false := by
    rw [List.all_eq_false]
    exact ⟨y, hy, by rw [h]; decide⟩
  rw [this, Bool.false_and, Bool.and_false]
section
variable {P : Program} {w : World} {K : PySem.W.Frag} {mg : Str → Option Value} {base : Heap}
def spWrongLo : Sp := fun vs H Q _ => ∃ (c : Int) (k fr : Str), vs = [.int c, .str k, .str fr] ∧ 0 ≤ c ∧ c < 9 ∧ Kind k ∧ Kind fr ∧ ∀ v H', (∀ ll, v = .ref ll → H ll = none) → Same H H' → LoBad H' k v → Q v H'
theorem ok_wrongLo {f : Addr} {fd : FuncData} (F : Fun K "_law_wrong_loose" "_law_wrong_loose" s_l_wrong_loose f fd) (g : Bi mg) : FnOk P w K mg base CX0 1 f fd ["_law_choice", "_law_kind_here", "_law_fresh"] spWrongLo := by
  refine F.ok sc_l_wrong_loose (fun vs H Q E h => ?_) (fun cdv A outer s H vs Q E hr h => ?_)
  · obtain ⟨_, _, _, rfl, _⟩ := h
    rfl
  · obtain ⟨c, k, fr, rfl, c0, c9, hk, hf, kq⟩ := h
    refine ⟨_, (pss_cons (ps_set (i := 3) sc_l_wrong_loose.nd rfl (Or.inl rfl) (pe_lst (pa_cons pe_non (pa_cons pe_str (pa_cons (pe_lst (pa_cons (pv 2) (pa_cons (pv 1) pa_nil))) (pa_cons (pe_lst (pa_cons (pv 2) (pa_cons (pv 2) pa_nil))) (pa_cons (pe_lst (pa_cons pe_str pa_nil)) (pa_cons (pe_lst (pa_cons pe_bl pa_nil)) (pa_cons (pe_tup (pa_cons pe_str pa_nil)) (pa_cons (pe_lst (pa_cons (pe_lst (pa_cons (pv 2) pa_nil)) pa_nil)) (pa_cons (pe_lst (pa_cons pe_str pa_nil)) pa_nil)))))))))))
      (pss_one (ps_ret (pe_ix ix_list (pv 3) (pv 0) (fun _ _ => rfl))))), ?_⟩
    refine ⟨_, rfl, _, rfl, by show 2 ≤ sizeLine; decide, fun p1 h1 => ?_⟩
    have s1 := Same.new (o := .lst [.str fr, .str k]) h1
    have e1 := upd_same (H := H) (a := p1) (o := .lst [.str fr, .str k])
    generalize upd H p1 (.lst [.str fr, .str k]) = H1 at s1 e1 ⊢
    refine ⟨_, rfl, _, rfl, by show 2 ≤ sizeLine; decide, fun p2 h2 => ?_⟩
    have s2 := Same.new (o := .lst [.str fr, .str fr]) h2
    have e2 := upd_same (H := H1) (a := p2) (o := .lst [.str fr, .str fr])
    generalize upd H1 p2 (.lst [.str fr, .str fr]) = H2 at s2 e2 ⊢
    refine ⟨by show 1 ≤ sizeLine; decide, fun p3 h3 => ?_⟩
    have s3 := Same.new (o := .lst [.str "gone"]) h3
    have e3 := upd_same (H := H2) (a := p3) (o := .lst [.str "gone"])
    generalize upd H2 p3 (.lst [.str "gone"]) = H3 at s3 e3 ⊢
    refine ⟨by show 1 ≤ sizeLine; decide, fun p4 h4 => ?_⟩
    have s4 := Same.new (o := .lst [.bl true]) h4
    have e4 := upd_same (H := H3) (a := p4) (o := .lst [.bl true])
    generalize upd H3 p4 (.lst [.bl true]) = H4 at s4 e4 ⊢
    refine ⟨by show 1 ≤ sizeLine; decide, fun p5 h5 => ?_⟩
    have s5 := Same.new (o := .tup [.str "A"]) h5
    have e5 := upd_same (H := H4) (a := p5) (o := .tup [.str "A"])
    generalize upd H4 p5 (.tup [.str "A"]) = H5 at s5 e5 ⊢
    refine ⟨_, rfl, by show 1 ≤ sizeLine; decide, fun p6 h6 => ?_⟩
    have s6 := Same.new (o := .lst [.str fr]) h6
    have e6 := upd_same (H := H5) (a := p6) (o := .lst [.str fr])
    generalize upd H5 p6 (.lst [.str fr]) = H6 at s6 e6 ⊢
    refine ⟨by show 1 ≤ sizeLine; decide, fun p7 h7 => ?_⟩
    have s7 := Same.new (o := .lst [.ref p6]) h7
    have e7 := upd_same (H := H6) (a := p7) (o := .lst [.ref p6])
    generalize upd H6 p7 (.lst [.ref p6]) = H7 at s7 e7 ⊢
    refine ⟨by show 1 ≤ sizeLine; decide, fun p8 h8 => ?_⟩
    have s8 := Same.new (o := .lst [.str "abcdefghi"]) h8
    have e8 := upd_same (H := H7) (a := p8) (o := .lst [.str "abcdefghi"])
    generalize upd H7 p8 (.lst [.str "abcdefghi"]) = H8 at s8 e8 ⊢
    refine ⟨by show 9 ≤ sizeLine; decide, fun L hL => ?_⟩
    have s9 := Same.new (o := .lst [.non, .str "ab", .ref p1, .ref p2, .ref p3, .ref p4, .ref p5, .ref p7, .ref p8]) hL
    have e9 := upd_same (H := H8) (a := L) (o := .lst [.non, .str "ab", .ref p1, .ref p2, .ref p3, .ref p4, .ref p5, .ref p7, .ref p8])
    generalize upd H8 L (.lst [.non, .str "ab", .ref p1, .ref p2, .ref p3, .ref p4, .ref p5, .ref p7, .ref p8]) = H9 at s9 e9 ⊢
    have t8 := s9
    have t7 := s8.trans t8
    have t6 := s7.trans t7
    have t5 := s6.trans t6
    have t4 := s5.trans t5
    have t3 := s4.trans t4
    have t2 := s3.trans t3
    have t1 := s2.trans t2
    have t0 := s1.trans t1
    have strV : ∀ z : Str, z.length ≤ 100000 → VO H9 (.str z) := fun z h => .str z h
    have wl : ∀ {z : Str}, Kind z → z.length ≤ 100000 := fun h => Nat.le_trans h.1.2.1 (by decide)
    obtain ⟨v, hv, hnn, hb⟩ : ∃ v, atI [V.non, .str "ab", .ref p1, .ref p2, .ref p3, .ref p4, .ref p5, .ref p7, .ref p8] c = some v ∧ (∀ ll, v = .ref ll → H ll = none) ∧ LoBad H9 k v := by
      have hc : c = 0 ∨ c = 1 ∨ c = 2 ∨ c = 3 ∨ c = 4 ∨ c = 5 ∨ c = 6 ∨ c = 7 ∨ c = 8 := by omega
      rcases hc with e | e | e | e | e | e | e | e | e <;> subst e
      · exact ⟨_, rfl, (fun ll e => by cases e), .inl (.inl rfl)⟩
      · exact ⟨_, rfl, (fun ll e => by cases e), .inl (.inr ⟨_, rfl⟩)⟩
      · refine ⟨_, rfl, (fun ll e => by cases e; exact h1), .inr ⟨p1, _, rfl, .inl (t1 _ _ e1), (show 2 ≤ 100 by decide), ?_, fun nm hn => loose_bad1 (y := .str k) (by simp) (by show (kindB k && !decide (k ∈ nm)) = false; rw [decide_eq_true hn]; simp)⟩⟩
        intro y hy
        simp only [List.mem_cons, List.not_mem_nil, or_false] at hy
        rcases hy with q | q <;> subst q
        · exact strV _ (wl hf)
        · exact strV _ (wl hk)
      · refine ⟨_, rfl, (fun ll e => by cases e; exact (s1.free h2)), .inr ⟨p2, _, rfl, .inl (t2 _ _ e2), (show 2 ≤ 100 by decide), ?_, fun nm _ => ?_⟩⟩
        · intro y hy
          simp only [List.mem_cons, List.not_mem_nil, or_false, or_self] at hy
          subst hy
          exact strV _ (wl hf)
        · unfold looseB
          rw [show decide (([.str fr, .str fr] : List V).Nodup) = false from decide_eq_false (by simp), Bool.and_false, Bool.and_false]
      · refine ⟨_, rfl, (fun ll e => by cases e; exact ((s1.trans s2).free h3)), .inr ⟨p3, _, rfl, .inl (t3 _ _ e3), (show 1 ≤ 100 by decide), ?_, fun nm _ => loose_bad1 (y := .str "gone") (by simp) (by rw [show kndV (.str "gone") = false by decide +kernel]; rfl)⟩⟩
        intro y hy
        rw [List.mem_singleton.mp hy]
        exact strV _ (by decide +kernel)
      · refine ⟨_, rfl, (fun ll e => by cases e; exact (((s1.trans s2).trans s3).free h4)), .inr ⟨p4, _, rfl, .inl (t4 _ _ e4), (show 1 ≤ 100 by decide), ?_, fun nm _ => loose_bad1 (y := .bl true) (by simp) rfl⟩⟩
        intro y hy
        rw [List.mem_singleton.mp hy]
        exact .bl true
      · refine ⟨_, rfl, (fun ll e => by cases e; exact ((((s1.trans s2).trans s3).trans s4).free h5)), .inr ⟨p5, _, rfl, .inr (t5 _ _ e5), (show 1 ≤ 100 by decide), ?_, fun nm _ => loose_bad1 (y := .str "A") (by simp) (by rw [show kndV (.str "A") = false by decide +kernel]; rfl)⟩⟩
        intro y hy
        rw [List.mem_singleton.mp hy]
        exact strV _ (by decide +kernel)
      · refine ⟨_, rfl, (fun ll e => by cases e; exact ((((((s1.trans s2).trans s3).trans s4).trans s5).trans s6).free h7)), .inr ⟨p7, _, rfl, .inl (t7 _ _ e7), (show 1 ≤ 100 by decide), ?_, fun nm _ => loose_bad1 (y := .ref p6) (by simp) rfl⟩⟩
        intro y hy
        rw [List.mem_singleton.mp hy]
        exact .lst (t6 _ _ e6)
      · refine ⟨_, rfl, (fun ll e => by cases e; exact (((((((s1.trans s2).trans s3).trans s4).trans s5).trans s6).trans s7).free h8)), .inr ⟨p8, _, rfl, .inl (t8 _ _ e8), (show 1 ≤ 100 by decide), ?_, fun nm _ => loose_bad1 (y := .str "abcdefghi") (by simp) (by rw [show kndV (.str "abcdefghi") = false by decide +kernel]; rfl)⟩⟩
        intro y hy
        rw [List.mem_singleton.mp hy]
        exact strV _ (by decide +kernel)
    exact ⟨_, rfl, _, rfl, L, _, c, v, rfl, rfl, SqL.of e9, hv, kq v _ hnn t0 hb⟩
def spWide (a : RAd) : Sp := fun vs H Q _ => ∃ (kl : Addr) (e : Int) (x y z u : Str) (rest : List Str), vs = [.ref kl, .int e] ∧ H kl = some (.lst ((x :: y :: z :: u :: rest).map V.str)) ∧ Bnd9 e ∧ Kinds [x, y, z] ∧ Kind u ∧
  ∀ q H' ps, H q = none → Same H H' → H' q = some (.lst ps) → RsAt a H' ps (wideR e x y z u) → Q (.ref q) H'
theorem kinds1 {u : Str} (h : Kind u) : Kinds [u] := ⟨Nat.le_refl 1, (show 1 ≤ 3 by decide), by simp, fun z hz => (List.mem_singleton.mp hz) ▸ h⟩
theorem am_ok {m : Int} {ks : List Str} (h : Kinds ks) (hm : Bnd9 m) : (⟨.am, 0, some m, ks⟩ : RuD).ok := ⟨h, ⟨Int.le_refl 0, (show (0 : Int) ≤ 9 by decide)⟩, fun n e => by cases e; exact hm, m, rfl⟩
theorem ok_wide {f : Addr} {fd : FuncData} {a : RAd} (F : Fun K "_law_wide" "_law_wide" s_l_wide f fd) (g : Bi mg) (W : RMk P w K mg base a) : FnOk P w K mg base CX0 9 f fd ["_law_kinds_here", "_law_extra"] (spWide a) := by
  obtain ⟨fM, mkM, iM⟩ := W.am
  have Wo := W.wo
  refine F.ok sc_l_wide (fun vs H Q E h => ?_) (fun cdv A outer s H vs Q E hr h => ?_)
  · obtain ⟨_, _, _, _, _, _, _, rfl, _⟩ := h
    rfl
  · obtain ⟨kl, e, x, y, z, u, rest, rfl, hk, he, hK, hu, k⟩ := h
    have hrMk : Room 8 _ := hr
    refine ⟨_, (pss_one (ps_ret (pe_lst (pa_cons (StX.pe_makeR mkM iM hrMk rfl Wo.mam pass0 (pa_cons pe_int (pa_cons (pe_ix ix_list (pv 0) pe_int (fun _ _ => rfl)) (pa_cons (pe_ix ix_list (pv 0) pe_int (fun _ _ => rfl)) (pa_cons (pe_ix ix_list (pv 0) pe_int (fun _ _ => rfl)) pa_nil))))) (pa_cons (StX.pe_makeR mkM iM hrMk rfl Wo.mam pass0 (pa_cons (pv 1) (pa_cons (pe_ix ix_list (pv 0) pe_int (fun _ _ => rfl)) pa_nil))) pa_nil))))), ?_⟩
    refine ⟨_, rfl, kl, _, _, _, rfl, rfl, SqL.of hk, at_of (z := 0) (j := 0) (by omega) rfl, ?_⟩
    refine ⟨_, rfl, kl, _, _, _, rfl, rfl, SqL.of hk, at_of (z := 1) (j := 1) (by omega) rfl, ?_⟩
    refine ⟨_, rfl, kl, _, _, _, rfl, rfl, SqL.of hk, at_of (z := 2) (j := 2) (by omega) rfl, ?_⟩
    refine mk_am (m := 9) (ks := [x, y, z]) ⟨by decide, by decide⟩ hK fun p1 H1 n1 s1 r1 => ?_
    refine ⟨_, rfl, _, rfl, kl, _, _, _, rfl, rfl, SqL.of (s1 _ _ hk), at_of (z := 3) (j := 3) (by omega) rfl, ?_⟩
    refine mk_am (ks := [u]) he (kinds1 hu) fun p2 H2 n2 s2 r2 => ?_
    refine ⟨by show 2 ≤ sizeLine; decide, fun q hq => ?_⟩
    have s3 := Same.new (o := .lst [.ref p1, .ref p2]) hq
    exact k q _ _ ((s1.trans s2).free hq) ((s1.trans s2).trans s3) upd_same (.cons ⟨p1, rfl, r1.same (s2.trans s3), am_ok hK ⟨by decide, by decide⟩⟩ (.cons ⟨p2, rfl, r2.same s3, am_ok (kinds1 hu) he⟩ .nil))
end
end Cs

set_option Elab.async false
set_option linter.all false
set_option maxRecDepth 100000
set_option maxHeartbeats 16000000
set_option pp.maxSteps 400
/-! The law of sets of rules refused. -/
namespace Cs
open PySem L2 NdefX
/-- one to four rules in a list -/
def GoodRs (a : RAd) (H : Hp) (rl : Addr) (rs : List RuD) : Prop := ∃ ps, H rl = some (.lst ps) ∧ RsAt a H ps rs ∧ 1 ≤ rs.length ∧ rs.length ≤ 4
theorem GoodRs.same {a : RAd} {H H' : Hp} {rl : Addr} {rs : List RuD} (s : Same H H') (h : GoodRs a H rl rs) : GoodRs a H' rl rs := by
  obtain ⟨ps, h1, h2, h3⟩ := h
  exact ⟨ps, s _ _ h1, h2.same s, h3⟩
theorem kindsOf (rs : List RuD) : ∃ ks, Asc ks ∧ ∀ z, z ∈ ks ↔ ∃ r ∈ rs, z ∈ r.ks := by
  obtain ⟨ks, ha, hp⟩ := asc_of (once_nodup (rs.flatMap RuD.ks))
  exact ⟨ks, ha, fun z => by rw [hp.mem_iff, once_mem, List.mem_flatMap]⟩
theorem five_perm {x1 x2 x3 x4 x5 : Str} (nd : [x1, x2, x3, x4, x5].Nodup) : ∃ ks, Asc ks ∧ ks.Perm [x1, x2, x3, x4, x5] := by
  obtain ⟨ks, ha, hp⟩ := asc_of nd
  exact ⟨ks, ha, hp⟩
theorem GoodRs.kp {a : RAd} {H H' : Hp} {p c rl : Addr} {rs : List RuD} (S : Src H p c) (k : Kp p H H') (n : rl ≠ p) (h : GoodRs a H rl rs) : GoodRs a H' rl rs := by
  obtain ⟨ps, h1, h2, h3⟩ := h
  exact ⟨ps, k _ _ h1 n, h2.kp S k, h3⟩
theorem VO.kp {H H' : Hp} {p c : Addr} {v : V} (S : Src H p c) (S' : Src H' p c) (k : Kp p H H') (h : VO H v) : VO H' v := by
  cases h with
  | non => exact .non
  | bl b => exact .bl b
  | int n => exact .int n
  | str z h => exact .str z h
  | @lst q xs h =>
    by_cases e : q = p
    · obtain ⟨ys, hy⟩ := S'.at_p
      subst e
      exact .lst hy
    · exact .lst (k _ _ h e)
  | @tup q xs h => exact .tup (k _ _ h (S.tup_p h))
def WrongAt (a : RAd) (Cc : Addr) (H : Hp) (wl : Addr) : Prop := ∃ ps bs, H wl = some (.lst ps) ∧ ps.length ≤ 100 ∧ Paired (RuE a Cc H) ps bs ∧ (ps = [] ∨ 5 ≤ ps.length ∨ false ∈ bs)
theorem WrongAt.same {a : RAd} {Cc : Addr} {H H' : Hp} {wl : Addr} (s : Same H H') (h : WrongAt a Cc H wl) : WrongAt a Cc H' wl := by
  obtain ⟨ps, bs, h1, h2, h3, h4⟩ := h
  exact ⟨ps, bs, s _ _ h1, h2, L2.Paired.mapP h3 fun _ _ q => q.same s, h4⟩
theorem WrongAt.kp {a : RAd} {Cc : Addr} {H H' : Hp} {p c wl : Addr} (S : Src H p c) (S' : Src H' p c) (k : Kp p H H') (n : wl ≠ p) (h : WrongAt a Cc H wl) : WrongAt a Cc H' wl := by
  obtain ⟨ps, bs, h1, h2, h3, h4⟩ := h
  refine ⟨ps, bs, k _ _ h1 n, h2, L2.Paired.mapP h3 fun v b q => ?_, h4⟩
  rcases q with ⟨e, q, c', l, m, ks, rfl, h⟩ | ⟨e, h | ⟨q, dx, fs, rfl, h⟩⟩
  · exact .inl ⟨e, q, c', l, m, ks, rfl, h.kp S k⟩
  · exact .inr ⟨e, .inl (h.kp S S' k)⟩
  · refine .inr ⟨e, .inr ⟨q, dx, fs, rfl, k _ _ h fun e => ?_⟩⟩
    obtain ⟨ys, hy⟩ := S.at_p
    rw [e, hy] at h
    cases h
theorem LoBad.kp {H H' : Hp} {p c : Addr} {kk : Str} {v : V} (S : Src H p c) (S' : Src H' p c) (k : Kp p H H') (n : ∀ ll, v = .ref ll → ll ≠ p) (h : LoBad H kk v) : LoBad H' kk v := h.imp id fun ⟨ll, ys, e, h1, h2, h3, h4⟩ => ⟨ll, ys, e, h1.imp (fun h => k _ _ h (n ll e)) (fun h => k _ _ h (n ll e)), h2, fun y hy => (h3 y hy).kp S S' k, h4⟩
theorem ne_self {x : V} : (!decide (x = x)) = false := by simp
theorem eq_self_t {x : V} : decide (x = x) = true := by simp
theorem cap_none {rs : List RuD} {z : Str} (h : ∀ r ∈ rs, z ∈ r.ks → r.m = none) : capOf rs z = none := by
  have : mostsOf rs z = [] := by
    unfold mostsOf
    rw [List.filterMap_eq_nil_iff]
    intro r hr
    by_cases q : z ∈ r.ks
    · rw [if_pos q]; exact h r hr q
    · rw [if_neg q]
  unfold capOf
  rw [this]
  rfl
theorem cut_down (xs : List V) (n : Nat) : cutV xs (some (n : Int)) none = xs.drop n := by
  unfold cutV
  rw [HT.sIx_none, HT.sIx_nat]
  by_cases c : n ≤ xs.length
  · rw [Nat.min_eq_left c, List.take_of_length_le (by rw [List.length_drop]; exact Nat.le_refl _)]
  · rw [Nat.min_eq_right (by omega), List.drop_eq_nil_of_le (Nat.le_refl _), List.drop_eq_nil_of_le (show xs.length ≤ n by omega)]
    simp
theorem txt_it {t : TE} {σ : L2.St} {H : Hp} {Q : VK} (n : Nat) (h : ∀ Q' : VK, (∀ z : Str, z.length ≤ n → Q' (.str z) H) → t σ H Q') (k : ∀ z : Str, z.length ≤ n → Q (.str z) H) : t σ H Q := h Q k
section
variable {P : Program} {w : World} {K : PySem.W.Frag} {mg : Str → Option Value} {base : Heap}
/-- the ways out of _law_what -/
theorem what_loose {a : RAd} {Cc B : Addr} {H : Hp} {rl ll : Addr} {rs : List RuD} {ys : List V} {G : V → Hp → Prop} {E : XK} (h : GoodRs a H rl rs) (hl : Sq2 H ll ys) (hn : ys.length ≤ 100) (hv : ∀ y ∈ ys, VO H y) (hb : looseB (rs.flatMap RuD.ks) ys = false) (k : ∀ H', Same H H' → G (.str "loose") H') :
    spWhat19 K a Cc B [.ref rl, .ref ll] H G E := by
  obtain ⟨ps, h1, h2, h3, h4⟩ := h
  have := h2.len
  exact ⟨rl, .ref ll, ps, rfl, h1, by omega, .inr ⟨_, fun E' hb' => .loose rs h2 h3 h4 ll ys rfl hl hn hv hb hb', k⟩⟩
theorem what_lobad {a : RAd} {Cc B : Addr} {H : Hp} {rl : Addr} {v : V} {rs : List RuD} {kk : Str} {G : V → Hp → Prop} {E : XK} (h : GoodRs a H rl rs) (hb : LoBad H kk v) (hk : kk ∈ rs.flatMap RuD.ks) (k : ∀ H', Same H H' → G (.str "loose") H') : spWhat19 K a Cc B [.ref rl, v] H G E := by
  obtain ⟨ps, h1, h2, h3, h4⟩ := h
  have := h2.len
  rcases hb with hb | ⟨ll, ys, rfl, hl, hn, hv, hx⟩
  · exact ⟨rl, v, ps, rfl, h1, by omega, .inr ⟨_, fun E' hb' => .noseq rs h2 h3 h4 hb hb', k⟩⟩
  · exact ⟨rl, _, ps, rfl, h1, by omega, .inr ⟨_, fun E' hb' => .loose rs h2 h3 h4 ll ys rfl hl hn hv (hx _ hk) hb', k⟩⟩
theorem what_kinds {a : RAd} {Cc B : Addr} {H : Hp} {rl ll : Addr} {rs : List RuD} {ks : List Str} {G : V → Hp → Prop} {E : XK} (h : GoodRs a H rl rs) (hl : Sq2 H ll []) (ha : Asc ks) (hm : ∀ z, z ∈ ks ↔ ∃ r ∈ rs, z ∈ r.ks) (c : 4 < ks.length ∨ ∃ z ∈ ks, capOf rs z = none) (k : ∀ H', Same H H' → G (.str "kinds") H') :
    spWhat19 K a Cc B [.ref rl, .ref ll] H G E := by
  obtain ⟨ps, h1, h2, h3, h4⟩ := h
  have := h2.len
  exact ⟨rl, .ref ll, ps, rfl, h1, by omega, .inr ⟨_, fun E' hb' => .kinds rs h2 h3 h4 ll rfl hl ks ha hm c hb', k⟩⟩
theorem what_good {a : RAd} {Cc B : Addr} {H : Hp} {rl ll : Addr} {rs : List RuD} {ks ls : List Str} {G : V → Hp → Prop} {E : XK} (h : GoodRs a H rl rs) (hl : H ll = some (.lst (ls.map V.str))) (ok : RsOk rs ks ls) (k : ∀ H', Same H H' → G (.str "") H') : spWhat19 K a Cc B [.ref rl, .ref ll] H G E := by
  obtain ⟨ps, h1, h2, h3, h4⟩ := h
  have := h2.len
  exact ⟨rl, .ref ll, ps, rfl, h1, by omega, .inl ⟨ll, rs, ks, ls, rfl, h2, hl, ok, k⟩⟩
theorem what_rules {a : RAd} {Cc B : Addr} {H : Hp} {rl : Addr} {v : V} {ps : List V} {bs : List Bool} {G : V → Hp → Prop} {E : XK} (h1 : H rl = some (.lst ps)) (hn : ps.length ≤ 100) (hp : Paired (RuE a Cc H) ps bs) (c : ps = [] ∨ 5 ≤ ps.length ∨ false ∈ bs) (k : ∀ H', Same H H' → G (.str "rules") H') :
    spWhat19 K a Cc B [.ref rl, v] H G E := ⟨rl, v, ps, rfl, h1, hn, .inr ⟨_, fun E' hb' => .rules bs hp c hb', k⟩⟩
theorem ok_law {Cc B f fS fD fK fKs fRo fRu fWh fWr fWl fWi : Addr} {fd fdS fdD fdK fdKs fdRo fdRu fdWh fdWr fdWl fdWi : FuncData} {a : RAd} (F : Fun K "law" "law" s_law f fd) (g : Bi mg) (W : RMk P w K mg base a)
    (FS : Def P w K mg base CX0 1 "_law_source" ["_law_script"] (spSource K) fS fdS) (FD : Def P w K mg base CX0 2 "_law_draw" ["_law_source_here", "_law_size"] spDraw fD fdD) (FK : Def P w K mg base CX0 3 "_law_kind" ["_law_source_here", "_law_taken"] spKind fK fdK) (FKs : Def P w K mg base CX0 4 "_law_kinds" ["_law_source_here", "_law_many"] spKinds fKs fdKs)
    (FRo : Def P w K mg base CX0 3 "_law_rows" ["_law_source_here", "_law_kinds_here"] spLRows fRo fdRo) (FRu : Def P w K mg base CX0 10 "_law_rule" ["_law_row"] (spRuleL a) fRu fdRu)
    (FWh : Def P w K mg base CX0 6 "_law_what" ["_law_rules", "_law_free"] (spWhat19 K a Cc B) fWh fdWh) (FWr : Def P w K mg base CX0 5 "_law_wrong_rules" ["_law_choice", "_law_rules"] (spWrongR a Cc) fWr fdWr)
    (FWl : Def P w K mg base CX0 1 "_law_wrong_loose" ["_law_choice", "_law_kind_here", "_law_fresh"] spWrongLo fWl fdWl) (FWi : Def P w K mg base CX0 9 "_law_wide" ["_law_kinds_here", "_law_extra"] (spWide a) fWi fdWi) :
    FnOk P w K mg base CX0 11 f fd ["_law_script"] (spLawR K) := by
  obtain ⟨GS, mS, _, bS⟩ := id FS
  obtain ⟨GD, mD, _, bD⟩ := id FD
  obtain ⟨GK, mK, _, bK⟩ := id FK
  obtain ⟨GKs, mKs, _, bKs⟩ := id FKs
  obtain ⟨GRo, mRo, _, bRo⟩ := id FRo
  obtain ⟨GRu, mRu, _, bRu⟩ := id FRu
  obtain ⟨GWh, mWh, _, bWh⟩ := id FWh
  obtain ⟨GWr, mWr, _, bWr⟩ := id FWr
  obtain ⟨GWl, mWl, _, bWl⟩ := id FWl
  obtain ⟨GWi, mWi, _, bWi⟩ := id FWi
  obtain ⟨fL, mkL, iL⟩ := W.al
  obtain ⟨fM, mkM, iM⟩ := W.am
  have Wo := W.wo
  refine F.ok sc_law (fun vs H Q E h => ?_) (fun cdv A outer s H vs Q E hr h => ?_)
  · obtain ⟨_, _, rfl, _⟩ := h
    rfl
  · obtain ⟨sc, ns, rfl, hS, hlen, kQ⟩ := h
    have hrS : Room 1 _ := hr.mono (by decide)
    have hrD : Room 2 _ := hr.mono (by decide)
    have hrK : Room 3 _ := hr.mono (by decide)
    have hrRo : Room 3 _ := hr.mono (by decide)
    have hrKs : Room 4 _ := hr.mono (by decide)
    have hrWr : Room 5 _ := hr.mono (by decide)
    have hrWh : Room 6 _ := hr.mono (by decide)
    have hrWl : Room 1 _ := hr.mono (by decide)
    have hrWi : Room 9 _ := hr.mono (by decide)
    have hrMk : Room 8 _ := hr.mono (by decide)
    have hrRu : Room 10 _ := hr
    refine ⟨_, (pss_cons (ps_set (i := 1) sc_law.nd rfl (Or.inl rfl) (pe_call GS hrS rfl mS FS.kp bS .nil pass0 (pa_cons (pv 0) pa_nil)))
      (pss_cons (ps_set (i := 2) sc_law.nd rfl (Or.inl rfl) (pe_call GKs hrKs rfl mKs FKs.kp bKs .nil pass0 (pa_cons (pv 1) (pa_cons pe_int pa_nil))))
      (pss_cons (ps_set (i := 3) sc_law.nd rfl (Or.inl rfl) (pe_slice sl_list (pv 2) po_none (po_some (pe_op op_add pe_int (pe_call GD hrD rfl mD FD.kp bD .nil pass0 (pa_cons (pv 1) (pa_cons pe_int pa_nil)))))))
      (pss_cons (ps_set (i := 4) sc_law.nd rfl (Or.inl rfl) (pe_call GK hrK rfl mK FK.kp bK .nil pass0 (pa_cons (pv 1) (pa_cons (pv 2) pa_nil))))
      (pss_cons (ps_set (i := 5) sc_law.nd rfl (Or.inl rfl) (pe_call GRo hrRo rfl mRo FRo.kp bRo .nil pass0 (pa_cons (pv 1) (pa_cons (pv 3) pa_nil))))
      (pss_cons (ps_setLc (i := 6) (own := [("_law_row", 15)]) (g := gName 15)  (by rfl) sc_law.nd rfl rfl (sw_true rfl rfl rfl (by decide +kernel)) (pi_list (pv 5)) (blkOk_by (own := [("_law_row", 15)]) (N := ["_law_script", "_law_source_here", "_law_names", "_law_some", "_law_fresh", "_law_rows_here", "_law_rules", "_law_wrong", "_law_free", "_law_five", "_law_single", "_law_wide_here", "_law_thing", "_law_things", "_law_both", "_law_row"]) (sc := defScope s_law) (by decide +kernel)) (fun _ _ _ _ _ => (pg_name (i := 15) sc_law.nd rfl (Or.inl rfl))) (fun _ _ _ _ _ => pts_nil) (fun _ _ _ _ _ => (pe_call GRu hrRu rfl mRu FRu.kp bRu .nil pass0 (pa_cons (pv 15) pa_nil))))
      (pss_cons (ps_set (i := 7) sc_law.nd rfl (Or.inl rfl) (pe_call GWr hrWr rfl mWr FWr.kp bWr .nil pass0 (pa_cons (pe_call GD hrD rfl mD FD.kp bD .nil pass0 (pa_cons (pv 1) (pa_cons pe_int pa_nil))) (pa_cons (pv 6) pa_nil))))
      (pss_cons (ps_set (i := 8) sc_law.nd rfl (Or.inl rfl) (pe_call GWl hrWl rfl mWl FWl.kp bWl .nil pass0 (pa_cons (pe_call GD hrD rfl mD FD.kp bD .nil pass0 (pa_cons (pv 1) (pa_cons pe_int pa_nil))) (pa_cons (pe_ix ix_list (pv 3) pe_int (fun _ _ => rfl)) (pa_cons (pv 4) pa_nil)))))
      (pss_cons (ps_set (i := 9) sc_law.nd rfl (Or.inl rfl) (pe_lst (pa_cons (StX.pe_makeR mkM iM hrMk rfl Wo.mam pass0 (pa_cons pe_int (pa_cons (pe_ix ix_list (pv 2) pe_int (fun _ _ => rfl)) (pa_cons (pe_ix ix_list (pv 2) pe_int (fun _ _ => rfl)) (pa_cons (pe_ix ix_list (pv 2) pe_int (fun _ _ => rfl)) pa_nil))))) (pa_cons (StX.pe_makeR mkM iM hrMk rfl Wo.mam pass0 (pa_cons pe_int (pa_cons (pe_ix ix_list (pv 2) pe_int (fun _ _ => rfl)) (pa_cons (pe_ix ix_list (pv 2) pe_int (fun _ _ => rfl)) pa_nil)))) pa_nil))))
      (pss_cons (ps_set (i := 10) sc_law.nd rfl (Or.inl rfl) (pe_op op_cat (pe_lst (pa_cons (StX.pe_makeR mkL iL hrMk rfl Wo.mal pass0 (pa_cons (pe_call GD hrD rfl mD FD.kp bD .nil pass0 (pa_cons (pv 1) (pa_cons pe_int pa_nil))) (pa_cons (pv 4) pa_nil))) pa_nil)) (pe_slice sl_list (pv 6) po_none (po_some pe_int))))
      (pss_cons (ps_set (i := 11) sc_law.nd rfl (Or.inl rfl) (pe_call GWi hrWi rfl mWi FWi.kp bWi .nil pass0 (pa_cons (pv 2) (pa_cons (pe_op op_add pe_int (pe_call GD hrD rfl mD FD.kp bD .nil pass0 (pa_cons (pv 1) (pa_cons pe_int pa_nil)))) pa_nil))))
      (C8.pss_cut (ps_if (pt_cmpR op_eq (pe_call GD hrD rfl mD FD.kp bD .nil pass0 (pa_cons (pv 1) (pa_cons pe_int pa_nil))) pe_int (nomark _)) (pss_one (ps_set (i := 10) sc_law.nd rfl (Or.inl rfl) (pe_op op_cat (pe_lst (pa_cons (pe_ix ix_list (pv 10) pe_int (fun _ _ => rfl)) (pa_cons (pe_ix ix_list (pv 10) pe_int (fun _ _ => rfl)) pa_nil))) (pe_slice sl_list (pv 10) (po_some pe_int) po_none)))) pss_nil)
      (pss_cons (ps_if (PW.pt (pw_or (pt_cmpR op_ne (pe_call GWh hrWh rfl mWh FWh.kp bWh .nil pass0 (pa_cons (pv 6) (pa_cons (pe_lst pa_nil) pa_nil))) pe_str (nomark _)) (pw_or1 (pt_cmpR op_ne (pe_call GWh hrWh rfl mWh FWh.kp bWh .nil pass0 (pa_cons (pe_call GWi hrWi rfl mWi FWi.kp bWi .nil pass0 (pa_cons (pv 2) (pa_cons pe_int pa_nil))) (pa_cons (pe_lst (pa_cons (pv 4) pa_nil)) pa_nil))) pe_str (nomark _))))) (pss_one (ps_ret pe_bl)) pss_nil)
      (pss_cons (ps_for PassesOwn.never rfl (pi_list (pe_lst (pa_cons (pe_lst pa_nil) (pa_cons (pv 8) pa_nil)))) (pg_name (i := 12) sc_law.nd rfl (Or.inl rfl)) (pss_one (ps_if (pt_cmpR op_ne (pe_call GWh hrWh rfl mWh FWh.kp bWh .nil pass0 (pa_cons (pv 7) (pa_cons (pv 12) pa_nil))) pe_str (nomark _)) (pss_one (ps_ret pe_bl)) pss_nil)))
      (pss_cons (ps_for PassesOwn.never rfl (pi_list (pe_lst (pa_cons (pv 6) (pa_cons (pv 9) (pa_cons (pv 10) (pa_cons (pv 11) pa_nil)))))) (pg_name (i := 13) sc_law.nd rfl (Or.inl rfl)) (pss_one (ps_if (PW.pt (pw_or (pt_cmpR op_ne (pe_call GWh hrWh rfl mWh FWh.kp bWh .nil pass0 (pa_cons (pv 13) (pa_cons (pe_lst (pa_cons (pv 4) (pa_cons pe_str pa_nil))) pa_nil))) pe_str (nomark _)) (pw_or1 (pt_cmpR op_ne (pe_call GWh hrWh rfl mWh FWh.kp bWh .nil pass0 (pa_cons (pv 13) (pa_cons (pe_lst (pa_cons (pe_ix ix_list (pv 2) pe_int (fun _ _ => rfl)) (pa_cons pe_str pa_nil))) pa_nil))) pe_str (nomark _))))) (pss_one (ps_ret pe_bl)) pss_nil)))
      (pss_cons (ps_if (pt_cmpR op_ne (pe_call GWh hrWh rfl mWh FWh.kp bWh .nil pass0 (pa_cons (pv 6) (pa_cons (pv 8) pa_nil))) pe_str (nomark _)) (pss_one (ps_ret pe_bl)) pss_nil)
      (pss_cons (ps_if (pt_cmpR op_ne (pe_call GWh hrWh rfl mWh FWh.kp bWh .nil pass0 (pa_cons (pv 6) (pa_cons (pe_lst (pa_cons (pe_ifExp (pt_cmpR op_lt (pe_callB call_len (by rfl) g.len PySem.boot_len (pa_cons (pv 4) pa_nil)) pe_int (nomark _)) (pe_op op_add_str (pv 4) pe_str) pe_str) (pa_cons pe_str (pa_cons pe_str pa_nil)))) pa_nil))) pe_str (nomark _)) (pss_one (ps_ret pe_bl)) pss_nil)
      (pss_cons (ps_if (PW.pt (pw_or (pt_cmpR op_ne (pe_call GWh hrWh rfl mWh FWh.kp bWh .nil pass0 (pa_cons (pv 9) (pa_cons (pe_lst pa_nil) pa_nil))) pe_str (nomark _)) (pw_or1 (pt_cmpR op_ne (pe_call GWh hrWh rfl mWh FWh.kp bWh .nil pass0 (pa_cons (pv 10) (pa_cons (pe_lst pa_nil) pa_nil))) pe_str (nomark _))))) (pss_one (ps_ret pe_bl)) pss_nil)
      (pss_cons (ps_set (i := 14) sc_law.nd rfl (Or.inl rfl) (pe_op op_cat (pv 11) (pe_lst (pa_cons (StX.pe_makeR mkL iL hrMk rfl Wo.mal pass0 (pa_cons pe_int (pa_cons (pv 4) pa_nil))) pa_nil))))
      (pss_one (ps_ret (pe_and (pe_cmpR op_eq (pe_call GWh hrWh rfl mWh FWh.kp bWh .nil pass0 (pa_cons (pv 11) (pa_cons (pe_tup pa_nil) pa_nil))) pe_str (nomark _)) (pe_one (pe_cmpR op_eq (pe_call GWh hrWh rfl mWh FWh.kp bWh .nil pass0 (pa_cons (pv 14) (pa_cons (pe_tup pa_nil) pa_nil))) pe_str (nomark _))))))))))))))))))))))))), ?_⟩
    refine ⟨_, rfl, sc, ns, rfl, hS, fun p c H1 hp hc s1 S1 => ?_⟩
    refine ⟨_, rfl, p, c, 5, rfl, S1, by decide, fun kl H3 ks hkl hk3 hkn hknd hkk S3 k3 => ?_⟩
    have nkp : kl ≠ p := S1.new_p hkl
    match ks, hkn, hk3, hknd, hkk with
    | [x1, x2, x3, x4, x5], _, hk3, hknd, hkk =>
    generalize eks : [x1, x2, x3, x4, x5] = ks at hk3 hknd hkk
    have hkn : ks.length = 5 := by rw [← eks]; rfl
    refine ⟨_, rfl, _, rfl, p, c, 4, rfl, S3, by decide, by decide, fun v1 H4 v10 v11 S4 k4 => ?_⟩
    obtain ⟨m1, rfl⟩ : ∃ n : Nat, v1 = n := ⟨v1.toNat, by omega⟩
    have hk4 := k4 _ _ hk3 nkp
    refine ⟨_, _, rfl, rfl, _, rfl, kl, _, rfl, SqL.of hk4, fun sl hsl => ?_⟩
    have ecut : cutV (ks.map V.str) none (some ((1 : Int) + (m1 : Int))) = (ks.take (1 + m1)).map V.str := by
      rw [show (1 : Int) + (m1 : Int) = ((1 + m1 : Nat) : Int) by omega, cut_upto, List.map_take]
    have k5 := Same.new (o := .lst (cutV (ks.map V.str) none (some ((1 : Int) + (m1 : Int))))) hsl
    have e5 := upd_same (H := H4) (a := sl) (o := .lst (cutV (ks.map V.str) none (some ((1 : Int) + (m1 : Int)))))
    generalize upd H4 sl (.lst (cutV (ks.map V.str) none (some ((1 : Int) + (m1 : Int))))) = H5 at k5 e5 ⊢
    rw [ecut] at e5
    have S5 := S4.same k5
    have nsl : sl ≠ p := S4.new_p hsl
    have hk5 := k5 _ _ hk4
    generalize esm : ks.take (1 + m1) = sm at e5
    have hsml : sm.length = 1 + m1 := by rw [← esm, List.length_take]; omega
    have hsub : ∀ z, z ∈ sm → z ∈ ks := fun z hz => List.mem_of_mem_take (by rw [esm]; exact hz)
    have hsnd : sm.Nodup := by rw [← esm]; exact hknd.sublist (List.take_sublist _ _)
    -- fresh
    refine ⟨_, rfl, _, rfl, p, c, kl, ks, rfl, S5, hk5, by omega, nkp, fun fr H6 hfr hfn S6 k6 => ?_⟩
    have hk6 := k6 _ _ hk5 nkp
    have e6 := k6 _ _ e5 nsl
    -- rows
    refine ⟨_, rfl, _, rfl, p, c, sl, sm, rfl, S6, nsl, e6, by omega, by omega, hsnd, fun z hz => hkk z (hsub z hz), fun R H7 xs rws hR6 hR7 hP7 hRows S7 k7 => ?_⟩
    have nRp : R ≠ p := S6.new_p hR6
    have hk7 := k7 _ _ hk6 nkp
    have e7 := k7 _ _ e6 nsl
    have hxl : xs.length = rws.length := hP7.length
    have hr4 := hRows.hi
    -- rules
    refine ⟨_, rfl, R, rfl, ⟨_, SqL.of hR7⟩, fun D1 hD1 => ?_⟩
    refine lc_it (walk_list (xs := xs)) (fun i H' => Same H7 H' ∧ ∃ ps, H' D1 = some (.lst ps) ∧ RsAt a H' ps ((rws.take i).map LRow.rd)) ⟨Same.new hD1, [], upd_same, .nil⟩ (fun i H' _ h => SqL.of (h.1 _ _ hR7)) ?_ ?_
    · rintro i x H' H2 hi ⟨s', ps, hD', hA⟩ ⟨rfl, hx⟩
      have hi' : i < rws.length := by omega
      obtain ⟨x', hx', hL⟩ := lw_get hP7 hi'
      obtain rfl : x = x' := by rw [hx'] at hx; exact (Option.some.inj hx).symm
      have hro := hRows.ok _ (List.getElem_mem hi')
      refine ⟨rfl, yes_it ?_⟩
      refine ⟨_, rfl, x, rws[i], rfl, ⟨_, hL.same s'⟩, hro, fun pr H3 s3 hRul => ?_⟩
      have hpl : ps.length = i := by rw [hA.len, List.length_map, List.length_take]; omega
      refine ⟨ps, s3 _ _ hD', Nat.lt_of_le_of_lt (show ps.length ≤ 100 by omega) (by decide), fun b o q => ?_, ps ++ [.ref pr], upd_same, ?_⟩
      · rw [upd_ne (ne_of_none q hD1)]
        exact s3 _ _ (s' _ _ q)
      · rw [List.take_succ, List.getElem?_eq_getElem hi', List.map_append]
        exact ((hA.same s3).snoc hRul (rd_ok hro)).keepL (s3 _ _ hD') fun b o e n => by rw [upd_ne n]; exact e
    rintro H8 ⟨s8, ps, hD8, hA8⟩
    rw [hxl, List.take_length] at hA8
    have S8 := S7.same s8
    have hk8 := s8 _ _ hk7
    have e8 := s8 _ _ e7
    have nD : D1 ≠ p := S7.new_p hD1
    have lo1 := hRows.lo
    have gR8 : GoodRs a H8 D1 (rws.map LRow.rd) := ⟨ps, hD8, hA8, by rw [List.length_map]; exact hRows.lo, by rw [List.length_map]; exact hr4⟩
    have rok : ∀ kz, Asc kz → kz.Perm sm → RsOk (rws.map LRow.rd) kz [] := fun kz ha hp => hRows.rsOk (kz := kz) (ls := []) (by omega) ha (fun z => hp.mem_iff) hp.length_eq (by decide) (fun z h => absurd h List.not_mem_nil) List.nodup_nil
    have hcov : ∀ z ∈ sm, z ∈ (rws.map LRow.rd).flatMap RuD.ks := fun z hz => by
      obtain ⟨r, hr1, hr2, _⟩ := hRows.cov z hz
      exact List.mem_flatMap.mpr ⟨_, List.mem_map_of_mem hr1, hr2⟩
    have hrks : ∀ r ∈ rws.map LRow.rd, ∀ z ∈ r.ks, z ∈ ks := fun r hr z hz => by
      obtain ⟨q, hq, rfl⟩ := List.mem_map.mp hr
      exact hsub z (hRows.sub q hq z hz)
    clear hP7 hR7 hR6 hRows hr4 hxl
    generalize rws.map LRow.rd = rsR at gR8 rok hcov hrks hA8
    -- wrong rules
    refine ⟨_, rfl, p, c, 8, rfl, S8, by decide, by decide, fun v2 H9 v20 v21 S9 k9 => ?_⟩
    have gR9 : ∃ ps, H9 D1 = some (.lst ps) ∧ RsAt a H9 ps rsR ∧ 1 ≤ rsR.length ∧ rsR.length ≤ 4 := by
      obtain ⟨ps, h1, h2, h3, h4⟩ := gR8
      exact ⟨ps, k9 _ _ h1 nD, h2.kp S8 k9, h3, h4⟩
    have hk9 := k9 _ _ hk8 nkp
    have e9 := k9 _ _ e8 nsl
    obtain ⟨psR, g1, g2, g3, g4⟩ := id gR9
    refine ⟨_, rfl, v2, D1, psR, rsR, rfl, v20, v21, g1, g2, g3, g4, fun wl HA psW bsW hW sA hWl hWn hWp hWc => ?_⟩
    -- wrong loose
    have SA := S9.same sA
    have nW : wl ≠ p := S9.new_p hW
    refine ⟨_, rfl, p, c, 9, rfl, SA, by decide, by decide, fun v3 HB v30 v31 SB kB => ?_⟩
    have gRB : GoodRs a HB D1 rsR := GoodRs.kp SA kB nD (GoodRs.same sA gR9)
    have gWB : WrongAt a Cc HB wl := WrongAt.kp SA SB kB nW ⟨psW, bsW, hWl, hWn, hWp, hWc⟩
    have hkB := kB _ _ (sA _ _ hk9) nkp
    have eB := kB _ _ (sA _ _ e9) nsl
    clear gR9 g1 g2 hWl hWc gR8 hD8 hA8
    obtain ⟨z0, hz0⟩ : ∃ z0, sm[0]? = some z0 := ⟨_, List.getElem?_eq_getElem (show 0 < sm.length by omega)⟩
    have hz0m : z0 ∈ sm := List.mem_of_getElem? hz0
    refine ⟨_, rfl, sl, _, _, _, rfl, rfl, SqL.of eB, atI_nat (j := 0) (v := V.str z0) (by rw [List.getElem?_map, hz0]; rfl), _, rfl, v3, z0, fr, rfl, v30, v31, hkk z0 (hsub z0 hz0m), hfr, fun vf HC hvn sC hLo => ?_⟩
    have SC := SB.same sC
    have nF : ∀ ll, vf = .ref ll → ll ≠ p := fun ll e => SB.new_p (hvn ll e)
    have gRC := gRB.same sC
    have gWC := gWB.same sC
    have hkC := sC _ _ hkB
    rw [← eks] at hkC
    have Kp3 : Kinds [x1, x2, x3] := by
      have hk : ∀ z ∈ [x1, x2, x3], Kind z := fun z hz => hkk z (by rw [← eks]; simp only [List.mem_cons, List.not_mem_nil, or_false] at hz ⊢; rcases hz with q | q | q <;> simp [q])
      have hn : [x1, x2, x3].Nodup := by rw [← eks] at hknd; exact hknd.sublist (List.sublist_append_left [x1, x2, x3] [x4, x5])
      exact ⟨(show 1 ≤ 3 by decide), (show 3 ≤ 3 by decide), hn, hk⟩
    have Kp2 : Kinds [x4, x5] := by
      have hk : ∀ z ∈ [x4, x5], Kind z := fun z hz => hkk z (by rw [← eks]; simp only [List.mem_cons, List.not_mem_nil, or_false] at hz ⊢; rcases hz with q | q <;> simp [q])
      have hn : [x4, x5].Nodup := by rw [← eks] at hknd; exact hknd.sublist (List.sublist_append_right [x1, x2, x3] [x4, x5])
      exact ⟨(show 1 ≤ 2 by decide), (show 2 ≤ 3 by decide), hn, hk⟩
    have hx4 : Kind x4 := hkk x4 (by rw [← eks]; simp)
    have b1 : Bnd9 1 := ⟨by decide, by decide⟩
    -- five kinds
    refine ⟨_, rfl, kl, _, _, _, rfl, rfl, SqL.of hkC, at_of (z := 0) (j := 0) (by omega) rfl, ?_⟩
    refine ⟨_, rfl, kl, _, _, _, rfl, rfl, SqL.of hkC, at_of (z := 1) (j := 1) (by omega) rfl, ?_⟩
    refine ⟨_, rfl, kl, _, _, _, rfl, rfl, SqL.of hkC, at_of (z := 2) (j := 2) (by omega) rfl, ?_⟩
    refine mk_am (m := 1) (ks := [x1, x2, x3]) b1 Kp3 fun p1 HD n1 sD r1 => ?_
    have hkD := sD _ _ hkC
    refine ⟨_, rfl, kl, _, _, _, rfl, rfl, SqL.of hkD, at_of (z := 3) (j := 3) (by omega) rfl, ?_⟩
    refine ⟨_, rfl, kl, _, _, _, rfl, rfl, SqL.of hkD, at_of (z := 4) (j := 4) (by omega) rfl, ?_⟩
    refine mk_am (m := 1) (ks := [x4, x5]) b1 Kp2 fun p2 HE n2 sE r2 => ?_
    refine ⟨by show 2 ≤ sizeLine; decide, fun fv hfv => ?_⟩
    have sF := Same.new (o := .lst [.ref p1, .ref p2]) hfv
    have nfv : fv ≠ p := ((SC.same sD).same sE).new_p hfv
    have gV : GoodRs a (upd HE fv (.lst [.ref p1, .ref p2])) fv [⟨.am, 0, some 1, [x1, x2, x3]⟩, ⟨.am, 0, some 1, [x4, x5]⟩] := ⟨_, upd_same, .cons ⟨p1, rfl, r1.same (sE.trans sF), am_ok Kp3 b1⟩ (.cons ⟨p2, rfl, r2.same sF, am_ok Kp2 b1⟩ .nil), (show 1 ≤ 2 by decide), (show 2 ≤ 4 by decide)⟩
    generalize upd HE fv (.lst [.ref p1, .ref p2]) = HF at sF gV ⊢
    have sCF := (sD.trans sE).trans sF
    have SF := SC.same sCF
    have gRF := gRC.same sCF
    have gWF := gWC.same sCF
    have hkF := sCF _ _ hkC
    have hLF := hLo.same sCF
    -- single
    refine ⟨_, rfl, p, c, 10, rfl, SF, by decide, by decide, fun v4 HG v40 v41 SG kG => ?_⟩
    have gRG := gRF.kp SF kG nD
    have gWG := gWF.kp SF SG kG nW
    have hkG := kG _ _ hkF nkp
    have hLG := hLF.kp SF SG kG nF
    have gVG := gV.kp SF kG nfv
    clear gRB gWB hkB eB gRC gWC hkC hkD gRF gWF hkF hLF gV hLo sCF sC sD sE sF kB SA SB S9 sA
    refine ⟨_, rfl, mk_al (l := v4) (ks := [fr]) ⟨v40, by omega⟩ (kinds1 hfr) fun p3 HH n3 sH r3 => ⟨by show 1 ≤ sizeLine; decide, fun l1 hl1 => ?_⟩⟩
    have sI := Same.new (o := .lst [.ref p3]) hl1
    have eI := upd_same (H := HH) (a := l1) (o := .lst [.ref p3])
    generalize upd HH l1 (.lst [.ref p3]) = HI at sI eI ⊢
    have sGI := sH.trans sI
    obtain ⟨psG, g1, g2, g3, g4⟩ := gRG.same sGI
    have gln := g2.len
    refine ⟨_, rfl, _, rfl, D1, psG, rfl, SqL.of g1, fun l3 hl3 => ?_⟩
    have sJ := Same.new (o := .lst (cutV psG none (some 3))) hl3
    have eJ := upd_same (H := HI) (a := l3) (o := .lst (cutV psG none (some 3)))
    generalize upd HI l3 (.lst (cutV psG none (some 3))) = HJ at sJ eJ ⊢
    have eJ : HJ l3 = some (.lst (psG.take 3)) := by rw [eJ]; exact congrArg (fun x => some (HO.lst x)) (cut_upto psG 3)
    refine ⟨l1, l3, _, _, rfl, rfl, sJ _ _ eI, eJ, ?_, fun sg hsg => ?_⟩
    · rw [List.length_take]; exact Nat.le_trans (show 1 + min 3 psG.length ≤ 4 by omega) (by decide)
    have sK := Same.new (o := .lst ([.ref p3] ++ psG.take 3)) hsg
    have nsg : sg ≠ p := ((SG.same sGI).same sJ).new_p hsg
    have gS : GoodRs a (upd HJ sg (.lst ([.ref p3] ++ psG.take 3))) sg (⟨.al, v4, none, [fr]⟩ :: rsR.take 3) := ⟨_, upd_same, .cons ⟨p3, rfl, r3.same ((sI.trans sJ).trans sK), kinds1 hfr, ⟨v40, by show v4 ≤ 9; omega⟩, (fun n e => by cases e), rfl⟩ (paired_upto 3 (g2.same (sJ.trans sK))), by rw [List.length_cons]; omega, by rw [List.length_cons, List.length_take]; omega⟩
    generalize upd HJ sg (.lst ([.ref p3] ++ psG.take 3)) = HK at sK gS ⊢
    have sGK := (sGI.trans sJ).trans sK
    have SK := SG.same sGK
    -- wide
    refine ⟨_, rfl, _, rfl, p, c, 9, rfl, SK, by decide, by decide, fun v5 HL v50 v51 SL kL => ?_⟩
    have gRL := (gRG.same sGK).kp SK kL nD
    have gWL := (gWG.same sGK).kp SK SL kL nW
    have hkL := kL _ _ (sGK _ _ hkG) nkp
    have hLL := (hLG.same sGK).kp SK SL kL nF
    have gVL := (gVG.same sGK).kp SK kL nfv
    have gSL := gS.kp SK kL nsg
    have b5 : Bnd9 (1 + v5) := ⟨by omega, by omega⟩
    refine ⟨_, _, rfl, rfl, kl, 1 + v5, x1, x2, x3, x4, [x5], rfl, hkL, b5, Kp3, hx4, fun wd HM psd hwd sM ewd hRd => ?_⟩
    have gWd : GoodRs a HM wd (wideR (1 + v5) x1 x2 x3 x4) := ⟨psd, ewd, hRd, (show 1 ≤ 2 by decide), (show 2 ≤ 4 by decide)⟩
    have SM := SL.same sM
    have gRM := gRL.same sM
    have gWM := gWL.same sM
    have hkM := sM _ _ hkL
    have hLM := hLL.same sM
    have gVM := gVL.same sM
    have gSM := gSL.same sM
    have nwd : wd ≠ p := SL.new_p hwd
    clear gRL gWL hkL hLL gVL gSL gRG gWG hkG hLG gVG gS g1 g2 sGK sGI sK sJ sI sH kL kG SK SG SF SC SL sM
    have hfrk : fr ∉ ks := hfn
    -- perhaps turned
    refine ⟨fun σ H' => ∃ (sg : Addr) (rsS : List RuD), σ = [some (.ref sc), some (.ref p), some (.ref kl), some (.ref sl), some (.str fr), some (.ref R), some (.ref D1), some (.ref wl), some vf, some (.ref fv), some (.ref sg), some (.ref wd), none, none, none, none] ∧
      GoodRs a H' sg rsS ∧ (∃ r ∈ rsS, fr ∈ r.ks) ∧ (∀ r ∈ rsS, fr ∈ r.ks → r.m = none) ∧ GoodRs a H' D1 rsR ∧ WrongAt a Cc H' wl ∧ H' kl = some (.lst ([x1, x2, x3, x4, x5].map V.str)) ∧ LoBad H' z0 vf ∧ GoodRs a H' fv [⟨.am, 0, some 1, [x1, x2, x3]⟩, ⟨.am, 0, some 1, [x4, x5]⟩] ∧ GoodRs a H' wd (wideR (1 + v5) x1 x2 x3 x4), ?_, ?_⟩
    · refine ⟨_, rfl, p, c, 2, rfl, SM, by decide, by decide, fun v6 HN v60 v61 SN kN => ?_⟩
      have gRN := gRM.kp SM kN nD
      have gWN := gWM.kp SM SN kN nW
      have hkN := kN _ _ hkM nkp
      have hLN := hLM.kp SM SN kN nF
      have gVN := gVM.kp SM kN nfv
      have gSN := gSM.kp SM kN nsg
      have gWdN := gWd.kp SM kN nwd
      have hr0 : ∀ r ∈ (⟨.al, v4, none, [fr]⟩ :: rsR.take 3 : List RuD), fr ∈ r.ks → r.m = none := fun r hr hf => by
        rcases List.mem_cons.mp hr with q | q
        · rw [q]
        · exact absurd (hrks r (List.mem_of_mem_take q) fr hf) hfrk
      refine ⟨rfl, _, rfl, ite2 (fun z => ?_) (fun z => ?_)⟩
      · obtain ⟨psS, q1, q2, q3, q4⟩ := gSN
        obtain ⟨_, _, _, hlR, _⟩ := id gRN
        obtain ⟨r1, rt, ert⟩ : ∃ r1 rt, rsR.take 3 = r1 :: rt := by
          cases e : rsR.take 3 with
          | nil =>
            have := congrArg List.length e
            rw [List.length_take, List.length_nil] at this
            omega
          | cons r1 rt => exact ⟨r1, rt, rfl⟩
        rw [ert] at q2 q3 q4 hr0
        cases q2 with
        | @cons y0 _ t0 _ w0 w1 =>
          cases w1 with
          | @cons y1 _ t1 _ w1 wt =>
            refine ⟨_, rfl, sg, _, _, _, rfl, rfl, SqL.of q1, at_of (z := 1) (j := 1) (by omega) rfl, _, rfl, sg, _, _, _, rfl, rfl, SqL.of q1, at_of (z := 0) (j := 0) (by omega) rfl, by show 2 ≤ sizeLine; decide, fun l1 hl1 => ?_⟩
            have u1 := Same.new (o := .lst [y1, y0]) hl1
            have f1 := upd_same (H := HN) (a := l1) (o := .lst [y1, y0])
            generalize upd HN l1 (.lst [y1, y0]) = HO2 at u1 f1 ⊢
            refine ⟨_, rfl, _, rfl, sg, _, rfl, SqL.of (u1 _ _ q1), fun l2 hl2 => ?_⟩
            have u2 := Same.new (o := .lst (cutV (y0 :: y1 :: t1) (some 2) none)) hl2
            have f2 := upd_same (H := HO2) (a := l2) (o := .lst (cutV (y0 :: y1 :: t1) (some 2) none))
            generalize upd HO2 l2 (.lst (cutV (y0 :: y1 :: t1) (some 2) none)) = HP at u2 f2 ⊢
            have f2 : HP l2 = some (.lst t1) := by rw [f2]; exact congrArg (fun x => some (HO.lst x)) (cut_down (y0 :: y1 :: t1) 2)
            have hlt : t1.length = rt.length := wt.length
            have hq4 : rt.length ≤ 2 := by simp at q4; omega
            refine ⟨l1, l2, _, _, rfl, rfl, u2 _ _ f1, f2, Nat.le_trans (show 2 + t1.length ≤ 4 by omega) (by decide), fun sg2 hsg2 => ?_⟩
            have u3 := (u1.trans u2).trans (Same.new (o := .lst ([y1, y0] ++ t1)) hsg2)
            have kps : ∀ {y : V} {r : RuD}, (∃ p, y = .ref p ∧ RulAt a HN p r.c r.l r.m r.ks ∧ r.ok) → ∃ p, y = .ref p ∧ RulAt a (upd HP sg2 (.lst ([y1, y0] ++ t1))) p r.c r.l r.m r.ks ∧ r.ok := fun ⟨p, e, h, k⟩ => ⟨p, e, h.same u3, k⟩
            refine ⟨sg2, r1 :: ⟨.al, v4, none, [fr]⟩ :: rt, rfl, ⟨_, upd_same, .cons (kps w1) (.cons (kps w0) (L2.Paired.mapP wt fun _ _ q => kps q)), by simp, by simp; omega⟩, ⟨_, List.mem_cons_of_mem _ List.mem_cons_self, List.mem_singleton.mpr rfl⟩, fun r hr hf => hr0 r ?_ hf, gRN.same u3, gWN.same u3, u3 _ _ hkN, hLN.same u3, gVN.same u3, gWdN.same u3⟩
            rcases List.mem_cons.mp hr with q | q
            · rw [q]; exact List.mem_cons_of_mem _ List.mem_cons_self
            · rcases List.mem_cons.mp q with q | q
              · rw [q]; exact List.mem_cons_self
              · exact List.mem_cons_of_mem _ (List.mem_cons_of_mem _ q)
      · exact ⟨sg, _, rfl, gSN, ⟨_, List.mem_cons_self, List.mem_singleton.mpr rfl⟩, hr0, gRN, gWN, hkN, hLN, gVN, gWdN⟩
    rintro σ0 H0 ⟨sg, rsS, rfl, gS, hfS, hcS, gR, gW, hk, hL, gV, gD⟩
    clear gSM gRM gWM hkM hLM gVM gWd
    obtain ⟨kz, hka, hkp⟩ := asc_of hsnd
    have nd4 : [x1, x2, x3, x4].Nodup := by rw [← eks] at hknd; exact hknd.sublist (List.sublist_append_left [x1, x2, x3, x4] [x5])
    obtain ⟨k4z, h4a, h4p⟩ := asc_of nd4
    have b0 : Bnd9 0 := ⟨by decide, by decide⟩
    have frw : ∀ {H' : Hp}, VO H' (.str fr) := .str fr (Nat.le_trans hfr.1.2.1 (by decide))
    have strw : ∀ {H' : Hp} (z : Str), z.length ≤ 100000 → VO H' (.str z) := fun z h => .str z h
    -- the good ones
    refine ⟨_, rfl, Nat.zero_le _, fun e0 he0 => ?_⟩
    have t1 := Same.new (o := .lst []) he0
    have f1 := upd_same (H := H0) (a := e0) (o := .lst [])
    generalize upd H0 e0 (.lst []) = G1 at t1 f1 ⊢
    refine nil_it <| what_good (ls := []) (gR.same t1) f1 (rok kz hka hkp) fun G2 t2 => ?_
    refine ⟨rfl, _, rfl, ?_⟩
    rw [ne_self]
    refine iteF ?_
    have c2 := t1.trans t2
    refine ⟨_, rfl, kl, 0, x1, x2, x3, x4, [x5], rfl, c2 _ _ hk, b0, Kp3, hx4, fun wd0 G3 ps0 hn0 t3 ew0 hR0 => ?_⟩
    have gD0 : GoodRs a G3 wd0 (wideR 0 x1 x2 x3 x4) := ⟨ps0, ew0, hR0, (show 1 ≤ 2 by decide), (show 2 ≤ 4 by decide)⟩
    refine ⟨_, rfl, by show 1 ≤ sizeLine; decide, fun l0 hl0 => ?_⟩
    have t4 := Same.new (o := .lst [.str fr]) hl0
    have f4 := upd_same (H := G3) (a := l0) (o := .lst [.str fr])
    generalize upd G3 l0 (.lst [.str fr]) = G4 at t4 f4 ⊢
    refine nil_it <| what_good (ls := [fr]) (gD0.same t4) f4 (wide_ok nd4 h4a h4p (show 1 ≤ 2 by decide) (fun z hz => ?_) (by simp)) fun G5 t5 => ?_
    · rw [List.mem_singleton.mp hz]
      refine ⟨hfr, fun q => hfrk ?_⟩
      have := h4p.mem_iff.mp q
      rw [← eks]
      simp only [List.mem_cons, List.not_mem_nil, or_false] at this ⊢
      rcases this with q | q | q | q <;> simp [q]
    refine ⟨rfl, _, rfl, ?_⟩
    rw [ne_self]
    refine iteF ?_
    have c5 := ((c2.trans t3).trans t4).trans t5
    clear t1 t2 t3 t4 t5 f1 f4 gD0 ew0 hR0
    have gR5 := gR.same c5
    have gW5 := gW.same c5
    have gS5 := gS.same c5
    have gV5 := gV.same c5
    have gD5 := gD.same c5
    have hk5' := c5 _ _ hk
    have hL5 := hL.same c5
    clear gR gW gS gV gD hk hL
    -- wrong rules
    refine ⟨Nat.zero_le _, fun e1 he1 => ⟨_, rfl, by show 2 ≤ sizeLine; decide, fun lp hlp => ?_⟩⟩
    have t6 := (Same.new (o := .lst []) he1).trans (Same.new (o := .lst [.ref e1, vf]) hlp)
    have f6 := upd_same (H := upd G5 e1 (.lst [])) (a := lp) (o := .lst [.ref e1, vf])
    generalize upd (upd G5 e1 (.lst [])) lp (.lst [.ref e1, vf]) = G6 at t6 f6 ⊢
    refine ⟨lp, rfl, ⟨_, SqL.of f6⟩, ?_⟩
    refine for_list (K := K) (fun i σ H' => Same G6 H' ∧ ∃ x12, σ = [some (.ref sc), some (.ref p), some (.ref kl), some (.ref sl), some (.str fr), some (.ref R), some (.ref D1), some (.ref wl), some vf, some (.ref fv), some (.ref sg), some (.ref wd), x12, none, none, none]) ⟨Same.refl _, _, rfl⟩ (fun i σ H' _ h => SqL.of (h.1 _ _ f6)) ?_ ?_
    · rintro i x σ H' hx ⟨s', x12, rfl⟩
      obtain ⟨psw, bsw, w1, w2, w3, w4⟩ := (gW5.same t6).same s'
      refine ⟨_, rfl, _, rfl, nil_it <| what_rules w1 w2 w3 w4 fun H2 s2 => ?_⟩
      refine ⟨rfl, _, rfl, ?_⟩
      rw [ne_self]
      exact iteF ⟨s'.trans s2, _, rfl⟩
    rintro σ1 G7 ⟨t7, x12, rfl⟩
    have c7 := t6.trans t7
    -- wrong loose kinds
    refine ⟨_, rfl, _, rfl, _, rfl, _, rfl, by show 4 ≤ sizeLine; decide, fun lq hlq => ?_⟩
    have t8 := Same.new (o := .lst [.ref D1, .ref fv, .ref sg, .ref wd]) hlq
    have f8 := upd_same (H := G7) (a := lq) (o := .lst [.ref D1, .ref fv, .ref sg, .ref wd])
    generalize upd G7 lq (.lst [.ref D1, .ref fv, .ref sg, .ref wd]) = G8 at t8 f8 ⊢
    have c8 := c7.trans t8
    refine ⟨lq, rfl, ⟨_, SqL.of f8⟩, ?_⟩
    refine for_list (K := K) (fun i σ H' => Same G8 H' ∧ ∃ x13, σ = [some (.ref sc), some (.ref p), some (.ref kl), some (.ref sl), some (.str fr), some (.ref R), some (.ref D1), some (.ref wl), some vf, some (.ref fv), some (.ref sg), some (.ref wd), x12, x13, none, none]) ⟨Same.refl _, _, rfl⟩ (fun i σ H' _ h => SqL.of (h.1 _ _ f8)) ?_ ?_
    · rintro i x σ H' hx ⟨s', x13, rfl⟩
      obtain ⟨rl, rs, rfl, hg⟩ : ∃ rl rs, x = .ref rl ∧ GoodRs a G8 rl rs := by
        have hm := List.mem_of_getElem? hx
        simp only [List.mem_cons, List.not_mem_nil, or_false] at hm
        rcases hm with q | q | q | q
        · exact ⟨_, _, q, gR5.same c8⟩
        · exact ⟨_, _, q, gV5.same c8⟩
        · exact ⟨_, _, q, gS5.same c8⟩
        · exact ⟨_, _, q, gD5.same c8⟩
      refine ⟨_, rfl, _, rfl, by show 2 ≤ sizeLine; decide, fun l1 hl1 => ?_⟩
      have u1 := Same.new (o := .lst [.str fr, .str "gone"]) hl1
      refine nil_it <| what_loose ((hg.same s').same u1) (.inl upd_same) (show 2 ≤ 100 by decide) (fun y hy => ?_) (loose_bad1 (y := .str "gone") (by simp) (by rw [show kndV (.str "gone") = false by decide +kernel]; rfl)) fun H2 s2 => ?_
      · simp only [List.mem_cons, List.not_mem_nil, or_false] at hy
        rcases hy with q | q <;> subst q
        · exact frw
        · exact strw _ (by decide +kernel)
      refine ⟨rfl, _, rfl, ?_⟩
      rw [ne_self]
      refine iteF ?_
      have d2 := (s'.trans u1).trans s2
      refine ⟨_, rfl, _, rfl, kl, _, _, _, rfl, rfl, SqL.of (d2 _ _ (c8 _ _ hk5')), at_of (z := 3) (j := 3) (by omega) rfl, by show 2 ≤ sizeLine; decide, fun l2 hl2 => ?_⟩
      have u2 := Same.new (o := .lst [.str x4, .str "if"]) hl2
      refine nil_it <| what_loose ((hg.same d2).same u2) (.inl upd_same) (show 2 ≤ 100 by decide) (fun y hy => ?_) (loose_bad1 (y := .str "if") (by simp) (by rw [show kndV (.str "if") = false by decide +kernel]; rfl)) fun H3 s3 => ?_
      · simp only [List.mem_cons, List.not_mem_nil, or_false] at hy
        rcases hy with q | q <;> subst q
        · exact strw _ (Nat.le_trans hx4.1.2.1 (by decide))
        · exact strw _ (by decide +kernel)
      refine ⟨rfl, _, rfl, ?_⟩
      rw [ne_self]
      exact iteF ⟨(d2.trans u2).trans s3, _, rfl⟩
    rintro σ2 G9 ⟨t9, x13, rfl⟩
    have c9 := c8.trans t9
    refine ⟨_, rfl, _, rfl, nil_it <| what_lobad (gR5.same c9) (hL5.same c9) (hcov z0 hz0m) fun GA tA => ?_⟩
    refine ⟨rfl, _, rfl, ?_⟩
    rw [ne_self]
    refine iteF ?_
    have cA := c9.trans tA
    refine ⟨_, rfl, ?_⟩
    show (tIf _ _ _ : TE) _ _ _
    refine txt_it 100 (fun Q' kq' => ?_) fun zz hzz => ?_
    · refine ⟨_, rfl, _, _, rfl, ⟨Nat.le_trans hfr.1.2.1 (by decide), rfl⟩, _, _, rfl, rfl, _, rfl, ite2 (fun z => ?_) (fun z => ?_)⟩
      · refine ⟨_, rfl, _, _, rfl, rfl, Nat.le_trans (Nat.add_le_add hfr.1.2.1 (Nat.le_refl 1)) (by decide), kq' _ ?_⟩
        rw [Str.length_append]
        exact Nat.le_trans (Nat.add_le_add hfr.1.2.1 (Nat.le_refl 1)) (by decide)
      · exact kq' _ (by decide +kernel)
    refine ⟨by show 3 ≤ sizeLine; decide, fun l3 hl3 => ?_⟩
    have tB := Same.new (o := .lst [.str zz, .str "zx", .str "zz"]) hl3
    refine nil_it <| what_loose ((gR5.same cA).same tB) (.inl upd_same) (show 3 ≤ 100 by decide) (fun y hy => ?_) rfl fun GC tC => ?_
    · simp only [List.mem_cons, List.not_mem_nil, or_false] at hy
      rcases hy with q | q | q <;> subst q
      · exact strw _ (by omega)
      · exact strw _ (by decide +kernel)
      · exact strw _ (by decide +kernel)
    refine ⟨rfl, _, rfl, ?_⟩
    rw [ne_self]
    refine iteF ?_
    have cC := (cA.trans tB).trans tC
    -- five kinds, a kind without a most
    obtain ⟨k5z, h5a, h5p⟩ := asc_of hknd
    refine ⟨_, rfl, Nat.zero_le _, fun e3 he3 => ?_⟩
    have tD := Same.new (o := .lst []) he3
    refine nil_it <| what_kinds (ks := k5z) ((gV5.same cC).same tD) (.inl upd_same) h5a (fun z => ?_) (.inl (by rw [h5p.length_eq, hkn]; decide)) fun GE tE => ?_
    · rw [h5p.mem_iff, ← eks]
      simp only [List.mem_cons, List.not_mem_nil, or_false, exists_eq_or_imp, exists_eq_left]
      constructor
      · rintro (q | q | q | q | q)
        · exact .inl (.inl q)
        · exact .inl (.inr (.inl q))
        · exact .inl (.inr (.inr q))
        · exact .inr (.inl q)
        · exact .inr (.inr q)
      · rintro ((q | q | q) | (q | q))
        · exact .inl q
        · exact .inr (.inl q)
        · exact .inr (.inr (.inl q))
        · exact .inr (.inr (.inr (.inl q)))
        · exact .inr (.inr (.inr (.inr q)))
    refine ⟨rfl, _, rfl, ?_⟩
    rw [ne_self]
    refine iteF ?_
    have cE := (cC.trans tD).trans tE
    obtain ⟨ksz, hsa, hsm⟩ := kindsOf rsS
    refine ⟨_, rfl, Nat.zero_le _, fun e4 he4 => ?_⟩
    have tF := Same.new (o := .lst []) he4
    refine nil_it <| what_kinds (ks := ksz) ((gS5.same cE).same tF) (.inl upd_same) hsa hsm (.inr ⟨fr, (hsm fr).mpr hfS, cap_none hcS⟩) fun GG tG => ?_
    refine ⟨rfl, _, rfl, ?_⟩
    rw [ne_self]
    refine iteF ?_
    have cG := (cE.trans tF).trans tG
    -- both
    refine ⟨_, rfl, _, rfl, ?_⟩
    refine mk_al (l := 1) (ks := [fr]) b1 (kinds1 hfr) fun p9 GH n9 tH r9 => ⟨by show 1 ≤ sizeLine; decide, fun l9 hl9 => ?_⟩
    have tI := Same.new (o := .lst [.ref p9]) hl9
    have fI := upd_same (H := GH) (a := l9) (o := .lst [.ref p9])
    generalize upd GH l9 (.lst [.ref p9]) = GI at tI fI ⊢
    have cI := (cG.trans tH).trans tI
    obtain ⟨psd2, d1, d2, d3, d4⟩ := gD5.same cI
    have dln := d2.len
    refine ⟨wd, l9, _, _, rfl, rfl, d1, fI, Nat.le_trans (show psd2.length + 1 ≤ 5 by omega) (by decide), fun bt hbt => ?_⟩
    have tJ := Same.new (o := .lst (psd2 ++ [.ref p9])) hbt
    have al1 : (⟨.al, 1, none, [fr]⟩ : RuD).ok := ⟨kinds1 hfr, b1, (fun n e => by cases e), rfl⟩
    have gB : GoodRs a (upd GI bt (.lst (psd2 ++ [.ref p9]))) bt (wideR (1 + v5) x1 x2 x3 x4 ++ [⟨.al, 1, none, [fr]⟩]) := ⟨_, upd_same, (d2.same tJ).snoc (r9.same (tI.trans tJ)) al1, by simp [wideR], by simp [wideR]⟩
    generalize upd GI bt (.lst (psd2 ++ [.ref p9])) = GJ at tJ gB ⊢
    have cJ := cI.trans tJ
    refine ⟨_, rfl, Nat.zero_le _, fun tp htp => ?_⟩
    have tK := Same.new (o := .tup []) htp
    obtain ⟨psc, q1, q2, q3, q4⟩ := (gD5.same cJ).same tK
    have qln := q2.len
    refine nil_it ⟨wd, .ref tp, psc, rfl, q1, by omega, .inr ⟨"counts", fun E' hb' => .counts _ q2 q3 q4 tp rfl (.inr upd_same) k4z h4a (wide_mem h4p) (by rw [h4p.length_eq]; exact Nat.le_refl 4) (wide_caps b5 nd4 h4p) ?_ hb', fun GL tL => ?_⟩⟩
    · rw [wide_prod nd4 h4p]
      have : 2 ≤ (1 + v5 + 1).toNat := by omega
      omega
    refine ⟨rfl, _, rfl, ?_⟩
    rw [eq_self_t]
    refine iteT ?_
    have nd5 : [x1, x2, x3, x4, fr].Nodup := by
      rw [show [x1, x2, x3, x4, fr] = [x1, x2, x3, x4] ++ [fr] from rfl, List.nodup_append]
      refine ⟨nd4, by simp, fun z hz y hy e => hfrk ?_⟩
      rw [List.mem_singleton.mp hy] at e
      rw [← e, ← eks]
      simp only [List.mem_cons, List.not_mem_nil, or_false] at hz ⊢
      rcases hz with q | q | q | q <;> simp [q]
    obtain ⟨kbz, hba, hbp⟩ := asc_of nd5
    refine ⟨_, rfl, Nat.zero_le _, fun tq htq => ?_⟩
    have tM := Same.new (o := .tup []) htq
    refine nil_it <| what_kinds (ks := kbz) (((gB.same tK).same tL).same tM) (.inr upd_same) hba (fun z => ?_) (.inl (by rw [hbp.length_eq]; show 4 < 5; decide)) fun GN tN => ?_
    · rw [hbp.mem_iff]
      simp only [wideR, List.mem_append, List.mem_cons, List.not_mem_nil, or_false, exists_eq_or_imp, exists_eq_left]
      constructor
      · rintro (q | q | q | q | q)
        · exact ⟨_, .inl (.inl rfl), by simp [q]⟩
        · exact ⟨_, .inl (.inl rfl), by simp [q]⟩
        · exact ⟨_, .inl (.inl rfl), by simp [q]⟩
        · exact ⟨_, .inl (.inr rfl), by simp [q]⟩
        · exact ⟨_, .inr rfl, by simp [q]⟩
      · rintro ⟨r, (q | q) | q, hz⟩ <;> subst q <;> simp only [List.mem_cons, List.not_mem_nil, or_false] at hz
        · rcases hz with q | q | q
          · exact .inl q
          · exact .inr (.inl q)
          · exact .inr (.inr (.inl q))
        · exact .inr (.inr (.inr (.inl hz)))
        · exact .inr (.inr (.inr (.inr hz)))
    refine ⟨rfl, ?_⟩
    rw [eq_self_t]
    exact kQ _
end
end Cs

set_option Elab.async false
set_option linter.all false
set_option maxRecDepth 100000
/-! What is handed on to super() keeps its promise; a def with one default whose arguments are all written. -/
namespace Cs
open PySem L2
section
variable {P : Program} {w : World} {K : PySem.W.Frag} {mg : Str → Option Value} {base : Heap} {k : Nat} {f C : Addr} {a : RAd} {c : RCl} {PM : Option Int → Prop}
theorem pass_H {G : Int → Option Int → Int → Bool} (F : FnR P w K mg base CX0 k f (spPass (a.at c) (spH a c C PM G))) : FnR P w K mg base CX0 k f (spH a c C PM G) := by
  refine F.imp fun vs H Q E h => ?_
  obtain ⟨p, q, l, m, ks, t, rfl, hR, hm, kk⟩ := h
  obtain ⟨⟨dx, kt, fs, hp, _⟩, _⟩ := id hR
  exact ⟨p, .ref q, dx, fs, rfl, hp, p, q, l, m, ks, t, rfl, hR, hm, kk⟩
theorem pass_L {G : Int → Option Int → Int → Tab} (F : FnR P w K mg base CX0 k f (spPass (a.at c) (spL a c C PM G))) : FnR P w K mg base CX0 k f (spL a c C PM G) := by
  refine F.imp fun vs H Q E h => ?_
  obtain ⟨p, q, l, m, ks, t, rfl, hR, hm, kk⟩ := h
  obtain ⟨⟨dx, kt, fs, hp, _⟩, _⟩ := id hR
  exact ⟨p, .ref q, dx, fs, rfl, hp, p, q, l, m, ks, t, rfl, hR, hm, kk⟩
end
theorem rof_binds {K : PySem.W.Frag} {x qual : Str} {params : Arguments} {body : List Stmt} {scope : Scope} {e : V} {ps : List Str} {f : Addr} {fd : FuncData} (F : FunD K x qual params body scope [e] [] f fd)
    (h : ∀ (T : Addr) (kV doc pm : Value) (an : Option Addr) (cdv ct : Value) (us its : List Value), us.length = 3 → its.length = 1 →
      ∃ k, bindArgs (PySem.W.fnOf x qual params body scope (.ref T) kV doc pm an cdv ct) ⟨us, []⟩ = seqItems? (.ref T) >>= k ∧ k (some its.toArray) = pure (ps.zip (us ++ its.drop 1))) (hl : ps.length = 3 := by rfl) : L2.Binds K fd ps [] := by
  obtain ⟨ds, hv, hb⟩ := F.binds1 (ps := ps) 3 1 (by simp) (by simp [hl]) h
  have hv : Vals [] ds := hv
  cases hv
  exact hb
end Cs

set_option Elab.async false
set_option linter.all false
set_option maxRecDepth 100000
set_option maxHeartbeats 4000000
/-! The head by one kernel run: what the top has left, told by a list of tests and by the defs' objects. -/
namespace Cs
open PySem PySem.Spec PyProof.Rows L2
abbrev Fr := PySem.W.Frag
/-- what an object of the top names (nothing of codes, of the classes above) -/
def refsK (o : Obj) : List Addr := match o.data with
  | .dict es _ => es.toList.flatMap fun e => He.refV e.val
  | .func fd => He.refV fd.code ++ (He.refV fd.defaults ++ fd.closure.map (·.2))
  | .cls cd => [cd.ns]
  | .seq its _ => its.toList.flatMap He.refV
  | .fields vs => (match o.cls with
    | .type t => if t = "code" then [] else vs.toList.flatMap He.refV
    | _ => [])
  | _ => []
def stepK (g : Addr → Option Obj) (as : List Addr) : List Addr := as.flatMap fun a => match g a with
  | some o => refsK o
  | none => []
def asK (g : Addr → Option Obj) : Nat → List Addr → List Addr
  | 0, as => as
  | n + 1, as => as ++ asK g n (stepK g as)
def KG (n : Nat) (g : Addr → Option Obj) : Fr := He.frG g (cStatics :: asK g n [mainGlobals])
theorem KG_in {n : Nat} {h : Heap} : (KG n h.get?).In h := He.frG_in
abbrev FnT : Type := Option (Str × Str × Arguments × FuncBody × Scope × Addr × List Str × Addr)
def fnT (K : Fr) (a : Addr) : FnT := match K.lookup a with
  | some ⟨_, _, .func fd, _⟩ => some (fd.name, fd.qualname, fd.params, fd.body, fd.scope, fd.globals, fd.closure.map (·.1), fd.builtins)
  | _ => none
/-- a def: its address by the top's names, its names, its statement, the names of its cells -/
structure FnA where
  at_ : Fr → Addr
  name : Str
  qual : Str
  st : Stmt
  cl : List Str
  df : Bool := false
def FnA.val (d : FnA) : FnT := some (d.name, d.qual, defArgs d.st, .stmts (defBody d.st), defScope d.st, mainGlobals, d.cl, builtinsNs)
def noneB : Value → Bool
  | .none => true
  | _ => false
theorem noneB_ok {v : Value} (h : noneB v = true) : v = .none := by
  cases v with
  | none => rfl
  | _ => cases h
/-- no defaults (unless df); its code object -/
def fnB (K : Fr) (a : Addr) (q : Str) (df : Bool) : Bool := match K.lookup a with
  | some ⟨_, _, .func fd, _⟩ => (df || noneB fd.defaults) && PySem.W.codeIn K fd.code q
  | _ => false
abbrev AlK : Type := Bool × List FnT
def obsK (cks : List (Fr → Bool)) (fns : List FnA) (K : Fr) : AlK := ((cks.all fun f => f K) && fns.all fun d => fnB K (d.at_ K) d.qual d.df, fns.map fun d => fnT K (d.at_ K))
def valK (fns : List FnA) : AlK := (true, fns.map FnA.val)
def SaysK (cks : List (Fr → Bool)) (fns : List FnA) (K : Fr) : Prop := obsK cks fns K = valK fns
def obsKG (n : Nat) (cks : List (Fr → Bool)) (fns : List FnA) (g : Addr → Option Obj) : AlK := obsK cks fns (KG n g)
def hookK (n : Nat) (cks : List (Fr → Bool)) (fns : List FnA) : PySem.W.Hook where
  α := AlK
  obs := fun s => obsKG n cks fns s.heap.get?
  val := fun _ => valK fns
  says := fun _ h => ∃ K : Fr, K.In h ∧ SaysK cks fns K
  of := fun _ _ e => ⟨_, KG_in, e⟩
  keeps := fun _ _ _ ⟨K, hK, c⟩ k => ⟨K, PySem.W.Frag.In.keeps hK k, c⟩
theorem obsKG_eq {n : Nat} {cks : List (Fr → Bool)} {fns : List FnA} {g : Addr → Option Obj} {s : Shared} (h : ∀ a, g a = s.heap.get? a) : obsKG n cks fns g = (hookK n cks fns).obs s := by
  have e : g = s.heap.get? := funext h
  rw [e] <;> rfl
section
variable {cks : List (Fr → Bool)} {fns : List FnA} {K : Fr}
theorem SaysK.ck (c : SaysK cks fns K) (i : Nat) {f : Fr → Bool} (h : cks[i]? = some f := by rfl) : f K = true := by
  have c1 := (Bool.and_eq_true_iff.mp (show ((cks.all fun f => f K) && fns.all fun d => fnB K (d.at_ K) d.qual d.df) = true from congrArg (fun z : AlK => z.1) c)).1
  exact List.all_eq_true.mp c1 f (List.mem_of_getElem? h)
theorem SaysK.fb (c : SaysK cks fns K) (i : Nat) {d : FnA} (h : fns[i]? = some d) : fnB K (d.at_ K) d.qual d.df = true := by
  have c1 := (Bool.and_eq_true_iff.mp (show ((cks.all fun f => f K) && fns.all fun d => fnB K (d.at_ K) d.qual d.df) = true from congrArg (fun z : AlK => z.1) c)).2
  exact List.all_eq_true.mp c1 d (List.mem_of_getElem? h)
theorem SaysK.ft (c : SaysK cks fns K) (i : Nat) {d : FnA} (h : fns[i]? = some d) : fnT K (d.at_ K) = d.val := by
  have e : (fns.map fun d => fnT K (d.at_ K)) = fns.map FnA.val := congrArg (fun z : AlK => z.2) c
  have e2 : (fns.map fun d => fnT K (d.at_ K))[i]? = (fns.map FnA.val)[i]? := by rw [e]
  rw [List.getElem?_map, List.getElem?_map, h] at e2
  exact Option.some.inj e2
theorem fn_gen {d : FnA} (e : fnT K (d.at_ K) = d.val) (c : fnB K (d.at_ K) d.qual d.df = true) : ∃ oc od osl cl dV kV doc pm an cdv ct, cl.map (·.1) = d.cl ∧ K.lookup (d.at_ K) = some ⟨oc, od, .func (PySem.W.fnX d.name d.qual (defArgs d.st) (defBody d.st) (defScope d.st) cl dV kV doc pm an cdv ct), osl⟩ ∧ PySem.W.codeIn K cdv d.qual = true ∧ (d.df = false → dV = .none) := by
  unfold fnT at e
  unfold fnB at c
  cases q : K.lookup (d.at_ K) with
  | none =>
    rw [q] at c
    cases c
  | some o =>
    obtain ⟨oc, od, dt, osl⟩ := o
    rw [q] at c e
    cases dt with
    | func fd =>
      obtain ⟨n1, n2, n3, n4, n5, n6, n7, n8, n9, n10, n11, n12, n13, n14, n15⟩ := fd
      have e2 : (some (n1, n2, n3, n4, n5, n6, n7.map (·.1), n15) : FnT) = some (d.name, d.qual, defArgs d.st, .stmts (defBody d.st), defScope d.st, mainGlobals, d.cl, builtinsNs) := e
      simp only [Option.some.injEq, Prod.mk.injEq] at e2
      obtain ⟨h1, h2, h3, h4, h5, h6, h7, h8⟩ := e2
      obtain ⟨c1, c2⟩ := Bool.and_eq_true_iff.mp (show ((d.df || noneB n8) && PySem.W.codeIn K n13 d.qual) = true from c)
      subst h1 h2 h3 h4 h5 h6 h8
      refine ⟨oc, od, osl, n7, n8, n9, n10, n11, n12, n13, n14, h7, rfl, c2, fun h => ?_⟩
      rw [h, Bool.false_or] at c1
      exact noneB_ok c1
    | _ => cases c
theorem fn_any {d : FnA} (hd : d.df = false) (e : fnT K (d.at_ K) = d.val) (c : fnB K (d.at_ K) d.qual d.df = true) : ∃ oc od osl cl kV doc pm an cdv ct, cl.map (·.1) = d.cl ∧ K.lookup (d.at_ K) = some ⟨oc, od, .func (PySem.W.fnX d.name d.qual (defArgs d.st) (defBody d.st) (defScope d.st) cl .none kV doc pm an cdv ct), osl⟩ ∧ PySem.W.codeIn K cdv d.qual = true := by
  obtain ⟨oc, od, osl, cl, dV, kV, doc, pm, an, cdv, ct, e1, l, k, z⟩ := fn_gen e c
  obtain rfl := z hd
  exact ⟨oc, od, osl, cl, kV, doc, pm, an, cdv, ct, e1, l, k⟩
theorem SaysK.fn (c : SaysK cks fns K) (i : Nat) {d : FnA} (h : fns[i]? = some d) (hc : d.cl = []) (hd : d.df = false := by rfl) : ∃ oc od osl kV doc pm an cdv ct, K.lookup (d.at_ K) = some ⟨oc, od, .func (PySem.W.fnOf d.name d.qual (defArgs d.st) (defBody d.st) (defScope d.st) .none kV doc pm an cdv ct), osl⟩ ∧ PySem.W.codeIn K cdv d.qual = true := by
  obtain ⟨oc, od, osl, cl, kV, doc, pm, an, cdv, ct, e, l, k⟩ := fn_any hd (c.ft i h) (c.fb i h)
  rw [hc] at e
  obtain rfl := List.map_eq_nil_iff.mp e
  exact ⟨oc, od, osl, kV, doc, pm, an, cdv, ct, l, k⟩
/-- a def with defaults -/
theorem SaysK.fnD (c : SaysK cks fns K) (i : Nat) {d : FnA} (h : fns[i]? = some d) (hc : d.cl = []) : ∃ oc od osl dV kV doc pm an cdv ct, K.lookup (d.at_ K) = some ⟨oc, od, .func (PySem.W.fnOf d.name d.qual (defArgs d.st) (defBody d.st) (defScope d.st) dV kV doc pm an cdv ct), osl⟩ ∧ PySem.W.codeIn K cdv d.qual = true := by
  obtain ⟨oc, od, osl, cl, dV, kV, doc, pm, an, cdv, ct, e, l, k, _⟩ := fn_gen (c.ft i h) (c.fb i h)
  rw [hc] at e
  obtain rfl := List.map_eq_nil_iff.mp e
  exact ⟨oc, od, osl, dV, kV, doc, pm, an, cdv, ct, l, k⟩
def dflL (K : Fr) (a : Addr) : Option (List Value) := match K.lookup a with
  | some ⟨_, _, .func fd, _⟩ => (match fd.defaults with
    | .ref T => (match K.lookup T with
      | some ⟨_, _, .seq its _, _⟩ => some its.toList
      | _ => none)
    | _ => none)
  | _ => none
def dflA (K : Fr) (a : Addr) : Addr := match dflL K a with
  | some (.ref e :: _) => e
  | _ => 0
def relB : V → Value → Bool
  | .ref a, .ref b => decide (a = b)
  | .non, .none => true
  | _, _ => false
theorem relB_ok {x : V} {u : Value} (h : relB x u = true) : RelV x u := by
  unfold relB at h
  split at h
  · rw [of_decide_eq_true h]; rfl
  · rfl
  · cases h
def relsB : List V → List Value → Bool
  | [], [] => true
  | x :: xs, u :: us => relB x u && relsB xs us
  | _, _ => false
theorem relsB_ok : ∀ {xs : List V} {us : List Value}, relsB xs us = true → Vals xs us
  | [], [], _ => .nil
  | x :: xs, u :: us, h => by
    obtain ⟨h1, h2⟩ := Bool.and_eq_true_iff.mp (show (relB x u && relsB xs us) = true from h)
    exact .cons (relB_ok h1) (relsB_ok h2)
  | [], _ :: _, h => by cases h
  | _ :: _, [], h => by cases h
def dflB (K : Fr) (a : Addr) (ds : List V) : Bool := !ds.isEmpty && match dflL K a with
  | some us => relsB ds us
  | none => false
theorem dflB_ok {a : Addr} {ds : List V} {oc : Value} {od : Option Addr} {fd : FuncData} {sl : Array (Option Value)} (h : dflB K a ds = true) (l : K.lookup a = some ⟨oc, od, .func fd, sl⟩) : DflV K fd.defaults ds := by
  obtain ⟨h1, h2⟩ := Bool.and_eq_true_iff.mp h
  unfold dflL at h2
  rw [l] at h2
  dsimp only at h2
  refine .inr ⟨(fun e => by rw [e] at h1; cases h1), ?_⟩
  generalize fd.defaults = dv at h2
  split at h2
  · rename_i us eu
    split at eu
    · rename_i T
      split at eu
      · rename_i o1 o2 its n o3 eo
        cases eu
        exact ⟨T, _, its.toList, n, rfl, eo, by rw [Array.toArray_toList], relsB_ok h2⟩
      · cases eu
    · cases eu
  · cases h2
/-- the empty tuple -/
def nilB (K : Fr) (e : Addr) : Bool := match K.lookup e with
  | some ⟨.type t, _, .seq its _, _⟩ => decide (t = "tuple") && its.toList.isEmpty
  | _ => false
theorem nilB_ok {e : Addr} (h : nilB K e = true) : ∀ H : Hp, SqT K H e [] := fun H => by
  unfold nilB at h
  split at h
  · rename_i t dd its n sl l
    obtain ⟨h1, h2⟩ := Bool.and_eq_true_iff.mp h
    obtain rfl := of_decide_eq_true h1
    have e2 : its.toList = [] := List.isEmpty_iff.mp h2
    have e3 : its.size = 0 := by rw [← Array.length_toList, e2]; rfl
    exact .inr ⟨_, its, n, l, rfl, rfl, by rw [e3]; exact Nat.zero_le _, by rw [e2]; exact .nil⟩
  · cases h
/-- the cell of the class, the file of the code -/
def cellB (K : Fr) (cl : List (Str × Addr)) (C : Addr) : Bool := match cl with
  | [(_, cc)] => (match K.lookup cc with
    | some ⟨_, _, .cell (some (.ref D)), _⟩ => decide (D = C)
    | _ => false)
  | _ => false
def fileB (K : Fr) (cdv : Value) (file : Str) : Bool := match cdv with
  | .ref cd => (match K.lookup cd with
    | some ⟨_, _, .fields vs, _⟩ => (match (vs[2]? : Option Value) with
      | some (.str z _) => file == z
      | _ => false)
    | _ => false)
  | _ => false
theorem cellB_ok {z : Str} {cc C : Addr} (h : cellB K [(z, cc)] C = true) : ∃ cl cld csl, K.lookup cc = some ⟨cl, cld, .cell (some (.ref C)), csl⟩ := by
  unfold cellB at h
  dsimp only at h
  split at h
  · rename_i hl
    rw [of_decide_eq_true h] at hl
    exact ⟨_, _, _, hl⟩
  · cases h
theorem fileB_ok {cdv : Value} {file : Str} (h : fileB K cdv file = true) : ∃ cd, cdv = .ref cd ∧ ∃ ccl cdd vs ccs fl tf, K.lookup cd = some ⟨ccl, cdd, .fields vs, ccs⟩ ∧ vs[2]? = some (.str fl tf) ∧ (file == fl) = true := by
  unfold fileB at h
  split at h
  · rename_i cd
    split at h
    · rename_i hl
      split at h
      · rename_i hv
        exact ⟨cd, rfl, _, _, _, _, _, _, hl, hv, h⟩
      · cases h
    · cases h
  · cases h
def supB (K : Fr) (a C : Addr) (file : Str) : Bool := match K.lookup a with
  | some ⟨_, _, .func fd, _⟩ => cellB K fd.closure C && fileB K fd.code file
  | _ => false
theorem SaysK.fs (c : SaysK cks fns K) (i : Nat) {d : FnA} {C : Addr} {file : Str} (h : fns[i]? = some d) (hc : d.cl = ([(("__class__" : String) : Str)] : List Str)) (hs : supB K (d.at_ K) C file = true) (hd : d.df = false := by rfl) : ∃ oc od osl kV doc pm an cda ct cc, K.lookup (d.at_ K) = some ⟨oc, od, .func (PySem.W.ksFn d.name d.qual (defArgs d.st) (defBody d.st) (defScope d.st) .none kV doc pm an (.ref cda) ct cc), osl⟩ ∧ PySem.W.codeIn K (.ref cda) d.qual = true ∧
    (∃ cl cld csl, K.lookup cc = some ⟨cl, cld, .cell (some (.ref C)), csl⟩) ∧ ∃ ccl cdd vs ccs fl tf, K.lookup cda = some ⟨ccl, cdd, .fields vs, ccs⟩ ∧ vs[2]? = some (.str fl tf) ∧ (file == fl) = true := by
  obtain ⟨oc, od, osl, cl, kV, doc, pm, an, cdv, ct, e, l, k⟩ := fn_any hd (c.ft i h) (c.fb i h)
  rw [hc] at e
  match cl, e with
  | [(z, cc)], e =>
    obtain rfl : z = "__class__" := (List.cons.inj e).1
    unfold supB at hs
    rw [l] at hs
    obtain ⟨h1, h2⟩ := Bool.and_eq_true_iff.mp (show (cellB K [(("__class__" : Str), cc)] C && fileB K cdv file) = true from hs)
    obtain ⟨cd, rfl, h3⟩ := fileB_ok h2
    exact ⟨oc, od, osl, kV, doc, pm, an, cd, ct, cc, l, k, cellB_ok h1, h3⟩
end
/-! ### own errors, classmethods, texts and tuples of the top -/
def exoB (K : Fr) (C : Addr) : Bool := match K.lookup C with
  | some ⟨.type t, _, .cls cd, sl⟩ => decide (t = "type") && (match cd.mro, sl.toList with
    | .ref D :: bm, [_, _, _, _, some (.builtin n), _] => decide (D = C) && (decide (n = "ValueError.__new__") && (cd.hasDict && (!cd.hasDel && PySem.HandSPX.refsVE bm)))
    | _, _ => false)
  | _ => false
theorem exoB_ok {K : Fr} {C : Addr} (h : exoB K C = true) : ∃ nm q N bs bm sn sub ab col dd k0 k1 k2 k3 k5, K.lookup C = some (excClassObj nm q C N bs bm true sn sub ab col dd k0 k1 k2 k3 k5 "ValueError.__new__") ∧ PySem.HandSPX.refsVE bm = true := by
  unfold exoB at h
  split at h
  · rename_i t dd cd sl hl
    obtain ⟨h1, h2⟩ := Bool.and_eq_true_iff.mp h
    obtain rfl := of_decide_eq_true h1
    split at h2
    · rename_i D bm k0 k1 k2 k3 n k5 hm hs
      obtain ⟨h3, h4⟩ := Bool.and_eq_true_iff.mp h2
      obtain ⟨h5, h6⟩ := Bool.and_eq_true_iff.mp h4
      obtain ⟨h7, h8⟩ := Bool.and_eq_true_iff.mp h6
      obtain ⟨h9, h10⟩ := Bool.and_eq_true_iff.mp h8
      obtain rfl := of_decide_eq_true h3
      obtain rfl := of_decide_eq_true h5
      obtain ⟨nm, bs, mro, ns, qn, hd, sn, sb, ab, col, del⟩ := cd
      have hm2 : mro = .ref D :: bm := hm
      have h72 : hd = true := h7
      have h92 : (!del) = true := h9
      clear hm h7 h9 h6 h8 h4 h2 h
      subst hm2 h72
      cases del with
      | true => cases h92
      | false =>
      have es : sl = #[k0, k1, k2, k3, some (.builtin "ValueError.__new__"), k5] := by
        rw [← Array.toList_inj, hs]
      subst es
      exact ⟨nm, qn, ns, bs, bm, sn, sb, ab, col, dd, k0, k1, k2, k3, k5, hl, h10⟩
    · cases h2
  · cases h
/-- a text of the top -/
def strB (K : Fr) (x z : Str) : Bool := match PySem.W.nsIn K mainGlobals x with
  | some (some (.str y _)) => decide (y = z)
  | _ => false
theorem strB_ok {K : Fr} {x z : Str} (h : strB K x z = true) : ∃ tk, PySem.W.nsIn K mainGlobals x = some (some (.str z tk)) := by
  unfold strB at h
  split at h
  · rename_i y tk e
    rw [of_decide_eq_true h] at e
    exact ⟨tk, e⟩
  · cases h
/-- a classmethod of the class: the descriptor, the def behind it -/
def cmQ (K : Fr) (C : Addr) (m : Str) : Addr := match PySem.W.findIn K (.ref C) m with
  | some (some (.ref q)) => q
  | _ => 0
def cmF (K : Fr) (C : Addr) (m : Str) (T : String) : Addr := match PySem.W.recIn K (cmQ K C m) T with
  | some (.ref f :: _) => f
  | _ => 0
def cmR (K : Fr) (C : Addr) (m : Str) (T : String) : List Value := match PySem.W.recIn K (cmQ K C m) T with
  | some (_ :: r) => r
  | _ => []
def cmB (K : Fr) (C : Addr) (m : Str) : Bool := match PySem.W.findCls K (.ref C) (.type "type") m with
  | some (.get a b c d) => decide (a = .builtin "classmethod.__get__") && (decide (b = .ref (cmQ K C m)) && (decide (c = .none) && decide (d = .ref C)))
  | _ => false
theorem cmB_ok {K : Fr} {C : Addr} {m : Str} (h : cmB K C m = true) : PySem.W.findCls K (.ref C) (.type "type") m = some (.get (.builtin "classmethod.__get__") (.ref (cmQ K C m)) .none (.ref C)) := by
  unfold cmB at h
  split at h
  · rename_i a b c d e
    obtain ⟨h1, h2⟩ := Bool.and_eq_true_iff.mp h
    obtain ⟨h3, h4⟩ := Bool.and_eq_true_iff.mp h2
    obtain ⟨h5, h6⟩ := Bool.and_eq_true_iff.mp h4
    rw [of_decide_eq_true h1, of_decide_eq_true h3, of_decide_eq_true h5, of_decide_eq_true h6] at e
    exact e
  · cases h
theorem tup_at {K : Fr} {x : Str} {zs : List Str} (h : He.tupB K x (zs.map He.Dv.str) = true) : ∀ H : Hp, SqT K H (He.ga K x) (zs.map V.str) := fun H => by
  have z := He.tupB_ok h H
  rw [List.map_map] at z
  exact z
end Cs

set_option Elab.async false
set_option linter.all false
set_option maxRecDepth 100000
set_option maxHeartbeats 8000000
namespace Cs
open PySem L2
theorem all_mk {l : PySem.W.OpenLaw} {w : World} {K : PySem.W.Frag} {h : Heap} {mg : Str → Option Value} {fa : Addr} (X : K.In h) (G : h.Ns mainGlobals mg) (hfa : mg "law" = some (.ref fa))
    {f_isint : Addr} {oc_isint kV_isint dc_isint pm_isint cd_isint ct_isint : Value} {od_isint an_isint : Option Addr} {sl_isint : Array (Option Value)}
    {f_isword : Addr} {oc_isword kV_isword dc_isword pm_isword cd_isword ct_isword : Value} {od_isword an_isword : Option Addr} {sl_isword : Array (Option Value)}
    {f_issmall : Addr} {oc_issmall kV_issmall dc_issmall pm_issmall cd_issmall ct_issmall : Value} {od_issmall an_issmall : Option Addr} {sl_issmall : Array (Option Value)}
    {f_ispair : Addr} {oc_ispair kV_ispair dc_ispair pm_ispair cd_ispair ct_ispair : Value} {od_ispair an_ispair : Option Addr} {sl_ispair : Array (Option Value)}
    {f_source : Addr} {oc_source kV_source dc_source pm_source cd_source ct_source : Value} {od_source an_source : Option Addr} {sl_source : Array (Option Value)}
    {f_mixed : Addr} {oc_mixed kV_mixed dc_mixed pm_mixed cd_mixed ct_mixed : Value} {od_mixed an_mixed : Option Addr} {sl_mixed : Array (Option Value)}
    {f_draw : Addr} {oc_draw kV_draw dc_draw pm_draw cd_draw ct_draw : Value} {od_draw an_draw : Option Addr} {sl_draw : Array (Option Value)}
    {f_distinct : Addr} {oc_distinct kV_distinct dc_distinct pm_distinct cd_distinct ct_distinct : Value} {od_distinct an_distinct : Option Addr} {sl_distinct : Array (Option Value)}
    {f_iskind : Addr} {oc_iskind kV_iskind dc_iskind pm_iskind cd_iskind ct_iskind : Value} {od_iskind an_iskind : Option Addr} {sl_iskind : Array (Option Value)}
    {f_isbound : Addr} {oc_isbound kV_isbound dc_isbound pm_isbound cd_isbound ct_isbound : Value} {od_isbound an_isbound : Option Addr} {sl_isbound : Array (Option Value)}
    {f_kind : Addr} {oc_kind kV_kind dc_kind pm_kind cd_kind ct_kind : Value} {od_kind an_kind : Option Addr} {sl_kind : Array (Option Value)}
    {f_kinds : Addr} {oc_kinds kV_kinds dc_kinds pm_kinds cd_kinds ct_kinds : Value} {od_kinds an_kinds : Option Addr} {sl_kinds : Array (Option Value)}
    {f_four : Addr} {oc_four kV_four dc_four pm_four cd_four ct_four : Value} {od_four an_four : Option Addr} {sl_four : Array (Option Value)}
    {f_caps : Addr} {oc_caps kV_caps dc_caps pm_caps cd_caps ct_caps : Value} {od_caps an_caps : Option Addr} {sl_caps : Array (Option Value)}
    {f_alln : Addr} {oc_alln kV_alln dc_alln pm_alln cd_alln ct_alln : Value} {od_alln an_alln : Option Addr} {sl_alln : Array (Option Value)}
    {f_within : Addr} {oc_within kV_within dc_within pm_within cd_within ct_within : Value} {od_within an_within : Option Addr} {sl_within : Array (Option Value)}
    {f_rows : Addr} {oc_rows kV_rows dc_rows pm_rows cd_rows ct_rows : Value} {od_rows an_rows : Option Addr} {sl_rows : Array (Option Value)}
    {f_rule : Addr} {oc_rule kV_rule dc_rule pm_rule cd_rule ct_rule : Value} {od_rule an_rule : Option Addr} {sl_rule : Array (Option Value)}
    {f_what : Addr} {oc_what kV_what dc_what pm_what cd_what ct_what : Value} {od_what an_what : Option Addr} {sl_what : Array (Option Value)}
    {f_wrongr : Addr} {oc_wrongr kV_wrongr dc_wrongr pm_wrongr cd_wrongr ct_wrongr : Value} {od_wrongr an_wrongr : Option Addr} {sl_wrongr : Array (Option Value)}
    {f_wrongl : Addr} {oc_wrongl kV_wrongl dc_wrongl pm_wrongl cd_wrongl ct_wrongl : Value} {od_wrongl an_wrongl : Option Addr} {sl_wrongl : Array (Option Value)}
    {f_wide : Addr} {oc_wide kV_wide dc_wide pm_wide cd_wide ct_wide : Value} {od_wide an_wide : Option Addr} {sl_wide : Array (Option Value)}
    {f_law : Addr} {oc_law kV_law dc_law pm_law cd_law ct_law : Value} {od_law an_law : Option Addr} {sl_law : Array (Option Value)}
    {C : Addr}
    {Dr : Addr}
    {f_init : Addr} {oc_init kV_init dc_init pm_init cd_init ct_init : Value} {od_init an_init : Option Addr} {sl_init : Array (Option Value)}
    {BS : Addr}
    {f_xrs : Addr} {oc_xrs kV_xrs dc_xrs pm_xrs cd_xrs ct_xrs : Value} {od_xrs an_xrs : Option Addr} {sl_xrs : Array (Option Value)}
    {tk_LET : PySem.Tok}
    {cl_R f_iR : Addr} {oc_iR kV_iR dc_iR pm_iR cd_iR ct_iR : Value} {od_iR an_iR : Option Addr} {sl_iR : Array (Option Value)}
    {cl_al f_ial cd_ial cc_ial : Addr} {oc_ial kV_ial dc_ial pm_ial ct_ial cl1_ial cl2_ial : Value} {od_ial an_ial dd1_ial dd2_ial : Option Addr} {sl_ial sl1_ial sl2_ial : Array (Option Value)} {vs_ial : Array Value} {file_ial : Str} {tk_ial : PySem.Tok}
    {cl_am f_iam cd_iam cc_iam : Addr} {oc_iam kV_iam dc_iam pm_iam ct_iam cl1_iam cl2_iam : Value} {od_iam an_iam dd1_iam dd2_iam : Option Addr} {sl_iam sl1_iam sl2_iam : Array (Option Value)} {vs_iam : Array Value} {file_iam : Str} {tk_iam : PySem.Tok}
    {cl_bt f_ibt cd_ibt cc_ibt : Addr} {oc_ibt kV_ibt dc_ibt pm_ibt ct_ibt cl1_ibt cl2_ibt : Value} {od_ibt an_ibt dd1_ibt dd2_ibt : Option Addr} {sl_ibt sl1_ibt sl2_ibt : Array (Option Value)} {vs_ibt : Array Value} {file_ibt : Str} {tk_ibt : PySem.Tok}
    {cl_ex f_iex cd_iex cc_iex : Addr} {oc_iex kV_iex dc_iex pm_iex ct_iex cl1_iex cl2_iex : Value} {od_iex an_iex dd1_iex dd2_iex : Option Addr} {sl_iex sl1_iex sl2_iex : Array (Option Value)} {vs_iex : Array Value} {file_iex : Str} {tk_iex : PySem.Tok}
    {rR : Addr}
    {f_rof q_rof e_rof : Addr} {r_rof : List Value} {oc_rof dV_rof kV_rof dc_rof pm_rof cd_rof ct_rof : Value} {od_rof an_rof : Option Addr} {sl_rof : Array (Option Value)}
    {f_riD : Addr} {oc_riD kV_riD dc_riD pm_riD cd_riD ct_riD : Value} {od_riD an_riD : Option Addr} {sl_riD : Array (Option Value)}
    {ce cbr : Addr}
    (a_isint : PySem.W.nsIn K mainGlobals "is_integer" = some (some (.ref f_isint)))
    (l_isint : K.lookup f_isint = some ⟨oc_isint, od_isint, .func (PySem.W.fnOf "is_integer" "is_integer" (defArgs s_is_integer) (defBody s_is_integer) (defScope s_is_integer) .none kV_isint dc_isint pm_isint an_isint cd_isint ct_isint), sl_isint⟩)
    (c_isint : PySem.W.codeIn K cd_isint "is_integer" = true)
    (k_isint : PySem.W.keepIn K (.ref f_isint) = true)
    (a_isword : PySem.W.nsIn K mainGlobals "is_word" = some (some (.ref f_isword)))
    (l_isword : K.lookup f_isword = some ⟨oc_isword, od_isword, .func (PySem.W.fnOf "is_word" "is_word" (defArgs s_is_word) (defBody s_is_word) (defScope s_is_word) .none kV_isword dc_isword pm_isword an_isword cd_isword ct_isword), sl_isword⟩)
    (c_isword : PySem.W.codeIn K cd_isword "is_word" = true)
    (k_isword : PySem.W.keepIn K (.ref f_isword) = true)
    (a_issmall : PySem.W.nsIn K mainGlobals "is_small" = some (some (.ref f_issmall)))
    (l_issmall : K.lookup f_issmall = some ⟨oc_issmall, od_issmall, .func (PySem.W.fnOf "is_small" "is_small" (defArgs s_is_small) (defBody s_is_small) (defScope s_is_small) .none kV_issmall dc_issmall pm_issmall an_issmall cd_issmall ct_issmall), sl_issmall⟩)
    (c_issmall : PySem.W.codeIn K cd_issmall "is_small" = true)
    (k_issmall : PySem.W.keepIn K (.ref f_issmall) = true)
    (a_ispair : PySem.W.nsIn K mainGlobals "is_pair" = some (some (.ref f_ispair)))
    (l_ispair : K.lookup f_ispair = some ⟨oc_ispair, od_ispair, .func (PySem.W.fnOf "is_pair" "is_pair" (defArgs s_is_pair) (defBody s_is_pair) (defScope s_is_pair) .none kV_ispair dc_ispair pm_ispair an_ispair cd_ispair ct_ispair), sl_ispair⟩)
    (c_ispair : PySem.W.codeIn K cd_ispair "is_pair" = true)
    (k_ispair : PySem.W.keepIn K (.ref f_ispair) = true)
    (a_source : PySem.W.nsIn K mainGlobals "_law_source" = some (some (.ref f_source)))
    (l_source : K.lookup f_source = some ⟨oc_source, od_source, .func (PySem.W.fnOf "_law_source" "_law_source" (defArgs s_l_source) (defBody s_l_source) (defScope s_l_source) .none kV_source dc_source pm_source an_source cd_source ct_source), sl_source⟩)
    (c_source : PySem.W.codeIn K cd_source "_law_source" = true)
    (k_source : PySem.W.keepIn K (.ref f_source) = true)
    (a_mixed : PySem.W.nsIn K mainGlobals "_law_mixed" = some (some (.ref f_mixed)))
    (l_mixed : K.lookup f_mixed = some ⟨oc_mixed, od_mixed, .func (PySem.W.fnOf "_law_mixed" "_law_mixed" (defArgs s_l_mixed) (defBody s_l_mixed) (defScope s_l_mixed) .none kV_mixed dc_mixed pm_mixed an_mixed cd_mixed ct_mixed), sl_mixed⟩)
    (c_mixed : PySem.W.codeIn K cd_mixed "_law_mixed" = true)
    (k_mixed : PySem.W.keepIn K (.ref f_mixed) = true)
    (a_draw : PySem.W.nsIn K mainGlobals "_law_draw" = some (some (.ref f_draw)))
    (l_draw : K.lookup f_draw = some ⟨oc_draw, od_draw, .func (PySem.W.fnOf "_law_draw" "_law_draw" (defArgs s_l_draw) (defBody s_l_draw) (defScope s_l_draw) .none kV_draw dc_draw pm_draw an_draw cd_draw ct_draw), sl_draw⟩)
    (c_draw : PySem.W.codeIn K cd_draw "_law_draw" = true)
    (k_draw : PySem.W.keepIn K (.ref f_draw) = true)
    (a_distinct : PySem.W.nsIn K mainGlobals "distinct" = some (some (.ref f_distinct)))
    (l_distinct : K.lookup f_distinct = some ⟨oc_distinct, od_distinct, .func (PySem.W.fnOf "distinct" "distinct" (defArgs s_distinct) (defBody s_distinct) (defScope s_distinct) .none kV_distinct dc_distinct pm_distinct an_distinct cd_distinct ct_distinct), sl_distinct⟩)
    (c_distinct : PySem.W.codeIn K cd_distinct "distinct" = true)
    (k_distinct : PySem.W.keepIn K (.ref f_distinct) = true)
    (a_iskind : PySem.W.nsIn K mainGlobals "is_kind" = some (some (.ref f_iskind)))
    (l_iskind : K.lookup f_iskind = some ⟨oc_iskind, od_iskind, .func (PySem.W.fnOf "is_kind" "is_kind" (defArgs s_is_kind) (defBody s_is_kind) (defScope s_is_kind) .none kV_iskind dc_iskind pm_iskind an_iskind cd_iskind ct_iskind), sl_iskind⟩)
    (c_iskind : PySem.W.codeIn K cd_iskind "is_kind" = true)
    (k_iskind : PySem.W.keepIn K (.ref f_iskind) = true)
    (a_isbound : PySem.W.nsIn K mainGlobals "is_bound" = some (some (.ref f_isbound)))
    (l_isbound : K.lookup f_isbound = some ⟨oc_isbound, od_isbound, .func (PySem.W.fnOf "is_bound" "is_bound" (defArgs s_is_bound) (defBody s_is_bound) (defScope s_is_bound) .none kV_isbound dc_isbound pm_isbound an_isbound cd_isbound ct_isbound), sl_isbound⟩)
    (c_isbound : PySem.W.codeIn K cd_isbound "is_bound" = true)
    (k_isbound : PySem.W.keepIn K (.ref f_isbound) = true)
    (a_kind : PySem.W.nsIn K mainGlobals "_law_kind" = some (some (.ref f_kind)))
    (l_kind : K.lookup f_kind = some ⟨oc_kind, od_kind, .func (PySem.W.fnOf "_law_kind" "_law_kind" (defArgs s_l_kind) (defBody s_l_kind) (defScope s_l_kind) .none kV_kind dc_kind pm_kind an_kind cd_kind ct_kind), sl_kind⟩)
    (c_kind : PySem.W.codeIn K cd_kind "_law_kind" = true)
    (k_kind : PySem.W.keepIn K (.ref f_kind) = true)
    (a_kinds : PySem.W.nsIn K mainGlobals "_law_kinds" = some (some (.ref f_kinds)))
    (l_kinds : K.lookup f_kinds = some ⟨oc_kinds, od_kinds, .func (PySem.W.fnOf "_law_kinds" "_law_kinds" (defArgs s_l_kinds) (defBody s_l_kinds) (defScope s_l_kinds) .none kV_kinds dc_kinds pm_kinds an_kinds cd_kinds ct_kinds), sl_kinds⟩)
    (c_kinds : PySem.W.codeIn K cd_kinds "_law_kinds" = true)
    (k_kinds : PySem.W.keepIn K (.ref f_kinds) = true)
    (a_four : PySem.W.nsIn K mainGlobals "_law_four" = some (some (.ref f_four)))
    (l_four : K.lookup f_four = some ⟨oc_four, od_four, .func (PySem.W.fnOf "_law_four" "_law_four" (defArgs s_l_four) (defBody s_l_four) (defScope s_l_four) .none kV_four dc_four pm_four an_four cd_four ct_four), sl_four⟩)
    (c_four : PySem.W.codeIn K cd_four "_law_four" = true)
    (k_four : PySem.W.keepIn K (.ref f_four) = true)
    (a_caps : PySem.W.nsIn K mainGlobals "caps_of" = some (some (.ref f_caps)))
    (l_caps : K.lookup f_caps = some ⟨oc_caps, od_caps, .func (PySem.W.fnOf "caps_of" "caps_of" (defArgs s_caps_of) (defBody s_caps_of) (defScope s_caps_of) .none kV_caps dc_caps pm_caps an_caps cd_caps ct_caps), sl_caps⟩)
    (c_caps : PySem.W.codeIn K cd_caps "caps_of" = true)
    (k_caps : PySem.W.keepIn K (.ref f_caps) = true)
    (a_alln : PySem.W.nsIn K mainGlobals "all_numbers" = some (some (.ref f_alln)))
    (l_alln : K.lookup f_alln = some ⟨oc_alln, od_alln, .func (PySem.W.fnOf "all_numbers" "all_numbers" (defArgs s_all_numbers) (defBody s_all_numbers) (defScope s_all_numbers) .none kV_alln dc_alln pm_alln an_alln cd_alln ct_alln), sl_alln⟩)
    (c_alln : PySem.W.codeIn K cd_alln "all_numbers" = true)
    (k_alln : PySem.W.keepIn K (.ref f_alln) = true)
    (a_within : PySem.W.nsIn K mainGlobals "is_within" = some (some (.ref f_within)))
    (l_within : K.lookup f_within = some ⟨oc_within, od_within, .func (PySem.W.fnOf "is_within" "is_within" (defArgs s_is_within) (defBody s_is_within) (defScope s_is_within) .none kV_within dc_within pm_within an_within cd_within ct_within), sl_within⟩)
    (c_within : PySem.W.codeIn K cd_within "is_within" = true)
    (k_within : PySem.W.keepIn K (.ref f_within) = true)
    (a_rows : PySem.W.nsIn K mainGlobals "_law_rows" = some (some (.ref f_rows)))
    (l_rows : K.lookup f_rows = some ⟨oc_rows, od_rows, .func (PySem.W.fnOf "_law_rows" "_law_rows" (defArgs s_l_rows) (defBody s_l_rows) (defScope s_l_rows) .none kV_rows dc_rows pm_rows an_rows cd_rows ct_rows), sl_rows⟩)
    (c_rows : PySem.W.codeIn K cd_rows "_law_rows" = true)
    (k_rows : PySem.W.keepIn K (.ref f_rows) = true)
    (a_rule : PySem.W.nsIn K mainGlobals "_law_rule" = some (some (.ref f_rule)))
    (l_rule : K.lookup f_rule = some ⟨oc_rule, od_rule, .func (PySem.W.fnOf "_law_rule" "_law_rule" (defArgs s_l_rule) (defBody s_l_rule) (defScope s_l_rule) .none kV_rule dc_rule pm_rule an_rule cd_rule ct_rule), sl_rule⟩)
    (c_rule : PySem.W.codeIn K cd_rule "_law_rule" = true)
    (k_rule : PySem.W.keepIn K (.ref f_rule) = true)
    (a_what : PySem.W.nsIn K mainGlobals "_law_what" = some (some (.ref f_what)))
    (l_what : K.lookup f_what = some ⟨oc_what, od_what, .func (PySem.W.fnOf "_law_what" "_law_what" (defArgs s_l_what) (defBody s_l_what) (defScope s_l_what) .none kV_what dc_what pm_what an_what cd_what ct_what), sl_what⟩)
    (c_what : PySem.W.codeIn K cd_what "_law_what" = true)
    (k_what : PySem.W.keepIn K (.ref f_what) = true)
    (a_wrongr : PySem.W.nsIn K mainGlobals "_law_wrong_rules" = some (some (.ref f_wrongr)))
    (l_wrongr : K.lookup f_wrongr = some ⟨oc_wrongr, od_wrongr, .func (PySem.W.fnOf "_law_wrong_rules" "_law_wrong_rules" (defArgs s_l_wrong_rules) (defBody s_l_wrong_rules) (defScope s_l_wrong_rules) .none kV_wrongr dc_wrongr pm_wrongr an_wrongr cd_wrongr ct_wrongr), sl_wrongr⟩)
    (c_wrongr : PySem.W.codeIn K cd_wrongr "_law_wrong_rules" = true)
    (k_wrongr : PySem.W.keepIn K (.ref f_wrongr) = true)
    (a_wrongl : PySem.W.nsIn K mainGlobals "_law_wrong_loose" = some (some (.ref f_wrongl)))
    (l_wrongl : K.lookup f_wrongl = some ⟨oc_wrongl, od_wrongl, .func (PySem.W.fnOf "_law_wrong_loose" "_law_wrong_loose" (defArgs s_l_wrong_loose) (defBody s_l_wrong_loose) (defScope s_l_wrong_loose) .none kV_wrongl dc_wrongl pm_wrongl an_wrongl cd_wrongl ct_wrongl), sl_wrongl⟩)
    (c_wrongl : PySem.W.codeIn K cd_wrongl "_law_wrong_loose" = true)
    (k_wrongl : PySem.W.keepIn K (.ref f_wrongl) = true)
    (a_wide : PySem.W.nsIn K mainGlobals "_law_wide" = some (some (.ref f_wide)))
    (l_wide : K.lookup f_wide = some ⟨oc_wide, od_wide, .func (PySem.W.fnOf "_law_wide" "_law_wide" (defArgs s_l_wide) (defBody s_l_wide) (defScope s_l_wide) .none kV_wide dc_wide pm_wide an_wide cd_wide ct_wide), sl_wide⟩)
    (c_wide : PySem.W.codeIn K cd_wide "_law_wide" = true)
    (k_wide : PySem.W.keepIn K (.ref f_wide) = true)
    (a_law : PySem.W.nsIn K mainGlobals "law" = some (some (.ref f_law)))
    (l_law : K.lookup f_law = some ⟨oc_law, od_law, .func (PySem.W.fnOf "law" "law" (defArgs s_law) (defBody s_law) (defScope s_law) .none kV_law dc_law pm_law an_law cd_law ct_law), sl_law⟩)
    (c_law : PySem.W.codeIn K cd_law "law" = true)
    (k_law : PySem.W.keepIn K (.ref f_law) = true)
    (a_C : PySem.W.nsIn K mainGlobals "Counts" = some (some (.ref C)))
    (pg_C : PySem.W.plainGet K C Str.empty = true)
    (hd_C : PySem.W.hasDictIn K C = true)
    (po_C : PySem.W.plainOver K C = true)
    (sa_C : PySem.W.findIn K (.ref C) "__setattr__" = some (some (.builtin "object.__setattr__")))
    (mk_C : PySem.W.makesIn K C = true)
    (kc_C : PySem.W.keepIn K (.ref C) = true)
    (ns_C : PySem.W.noSeq K C = true)
    (n_C_held : PySem.W.findIn K (.ref C) "held" = some none)
    (sf_C : PySem.W.selfFirst K C = true)
    (cc_C : PySem.W.findIn K (.ref C) "__class__" = some (some (.builtin "object.__class__")))
    (ch_C : PySem.W.specialIn K (.builtin "object.__class__") "__get__" = some (some (.builtin "getset_descriptor.__get__")))
    (ct_C : PySem.W.takesIn K (.builtin "object.__class__") = some true)
    (cm_C : PySem.W.mroIn K C (.type "object") = some true)
    (a_Dr : PySem.W.nsIn K mainGlobals "Rules" = some (some (.ref Dr)))
    (pg_Dr : PySem.W.plainGet K Dr Str.empty = true)
    (hd_Dr : PySem.W.hasDictIn K Dr = true)
    (po_Dr : PySem.W.plainOver K Dr = true)
    (sa_Dr : PySem.W.findIn K (.ref Dr) "__setattr__" = some (some (.builtin "object.__setattr__")))
    (mk_Dr : PySem.W.makesIn K Dr = true)
    (kc_Dr : PySem.W.keepIn K (.ref Dr) = true)
    (ns_Dr : PySem.W.noSeq K Dr = true)
    (n_Dr_listed : PySem.W.findIn K (.ref Dr) "listed" = some none)
    (n_Dr_kinds : PySem.W.findIn K (.ref Dr) "kinds" = some none)
    (n_Dr_loose : PySem.W.findIn K (.ref Dr) "loose" = some none)
    (n_Dr_caps : PySem.W.findIn K (.ref Dr) "caps" = some none)
    (n_Dr_every : PySem.W.findIn K (.ref Dr) "every" = some none)
    (a_init : PySem.W.findIn K (.ref C) "__init__" = some (some (.ref f_init)))
    (i_init : PySem.W.isFn K (.ref f_init) = true)
    (l_init : K.lookup f_init = some ⟨oc_init, od_init, .func (PySem.W.fnOf "__init__" "Counts.__init__" (defArgs s_Counts_init) (defBody s_Counts_init) (defScope s_Counts_init) .none kV_init dc_init pm_init an_init cd_init ct_init), sl_init⟩)
    (c_init : PySem.W.codeIn K cd_init "Counts.__init__" = true)
    (k_init : PySem.W.keepIn K (.ref f_init) = true)
    (a_BS : PySem.W.nsIn K mainGlobals "BadRules" = some (some (.ref BS)))
    (x_BS : ∃ nm q N bs bm sn sub ab col dd k0 k1 k2 k3 k5, K.lookup BS = some (excClassObj nm q BS N bs bm true sn sub ab col dd k0 k1 k2 k3 k5 "ValueError.__new__") ∧ PySem.HandSPX.refsVE bm = true)
    (sa_BS : PySem.W.findIn K (.ref BS) "__setattr__" = some (some (.builtin "object.__setattr__")))
    (ec_BS : PySem.W.subIn K (.ref BS) (.type "BaseException") = some true)
    (ty_BS : PySem.W.typeIn K (.ref BS) = some (.type "type"))
    (kc_BS : PySem.W.keepIn K (.ref BS) = true)
    (is_BS : PySem.W.isClsIn K BS = true)
    (ss_BS : PySem.W.subIn K (.ref BS) (.ref BS) = some true)
    (nf_BS : PySem.W.findIn K (.ref BS) "what" = some none)
    (a_xrs : PySem.W.findIn K (.ref BS) "__init__" = some (some (.ref f_xrs)))
    (t_xrs : PySem.W.typeIn K (.ref f_xrs) = some (.type "function"))
    (l_xrs : K.lookup f_xrs = some ⟨oc_xrs, od_xrs, .func (PySem.W.fnOf "__init__" "BadRules.__init__" (defArgs s_BadRules_init) (defBody s_BadRules_init) (defScope s_BadRules_init) .none kV_xrs dc_xrs pm_xrs an_xrs cd_xrs ct_xrs), sl_xrs⟩)
    (c_xrs : PySem.W.codeIn K cd_xrs "BadRules.__init__" = true)
    (k_xrs : PySem.W.keepIn K (.ref f_xrs) = true)
    (a_LET : PySem.W.nsIn K mainGlobals "LETTERS" = some (some (.str LET tk_LET)))
    (a_R : PySem.W.nsIn K mainGlobals "Rule" = some (some (.ref cl_R)))
    (is_R : PySem.W.isClsIn K cl_R = true)
    (ty_R : PySem.W.typeIn K (.ref cl_R) = some (.type "type"))
    (ai_R : PySem.W.findIn K (.ref cl_R) "__init__" = some (some (.ref f_iR)))
    (l_iR : K.lookup f_iR = some ⟨oc_iR, od_iR, .func (PySem.W.fnOf "__init__" "Rule.__init__" (defArgs s_Rule_init) (defBody s_Rule_init) (defScope s_Rule_init) .none kV_iR dc_iR pm_iR an_iR cd_iR ct_iR), sl_iR⟩)
    (c_iR : PySem.W.codeIn K cd_iR "Rule.__init__" = true)
    (tf_R : PySem.W.typeIn K (.ref f_iR) = some (.type "function"))
    (fi_R : PySem.W.fnIn K f_iR = true)
    (a_al : PySem.W.nsIn K mainGlobals "AtLeast" = some (some (.ref cl_al)))
    (pg_al : PySem.W.plainGet K cl_al Str.empty = true)
    (hd_al : PySem.W.hasDictIn K cl_al = true)
    (po_al : PySem.W.plainOver K cl_al = true)
    (sa_al : PySem.W.findIn K (.ref cl_al) "__setattr__" = some (some (.builtin "object.__setattr__")))
    (mk_al : PySem.W.makesIn K cl_al = true)
    (kc_al : PySem.W.keepIn K (.ref cl_al) = true)
    (nk_al : PySem.W.findIn K (.ref cl_al) "kinds" = some none)
    (nl_al : PySem.W.findIn K (.ref cl_al) "least" = some none)
    (nm_al : PySem.W.findIn K (.ref cl_al) "most" = some none)
    (ca_al : PySem.W.findIn K (.ref cl_al) "__class__" = some (some (.builtin "object.__class__")))
    (cm_al : PySem.W.mroIn K cl_al (.type "object") = some true)
    (is_al : PySem.W.isClsIn K cl_al = true)
    (ty_al : PySem.W.typeIn K (.ref cl_al) = some (.type "type"))
    (ai_al : PySem.W.findIn K (.ref cl_al) "__init__" = some (some (.ref f_ial)))
    (if_al : PySem.W.isFn K (.ref f_ial) = true)
    (l_ial : K.lookup f_ial = some ⟨oc_ial, od_ial, .func (PySem.W.ksFn "__init__" "AtLeast.__init__" (defArgs s_AtLeast_init) (defBody s_AtLeast_init) (defScope s_AtLeast_init) .none kV_ial dc_ial pm_ial an_ial (.ref cd_ial) ct_ial cc_ial), sl_ial⟩)
    (c_ial : PySem.W.codeIn K (.ref cd_ial) "AtLeast.__init__" = true)
    (e_ial : K.lookup cc_ial = some ⟨cl1_ial, dd1_ial, .cell (some (.ref cl_al)), sl1_ial⟩)
    (o_ial : K.lookup cd_ial = some ⟨cl2_ial, dd2_ial, .fields vs_ial, sl2_ial⟩)
    (v_ial : vs_ial[2]? = some (.str file_ial tk_ial))
    (p_ial : ((l.prog.main.file : Str) == file_ial) = true)
    (tf_al : PySem.W.typeIn K (.ref f_ial) = some (.type "function"))
    (fi_al : PySem.W.fnIn K f_ial = true)
    (a_am : PySem.W.nsIn K mainGlobals "AtMost" = some (some (.ref cl_am)))
    (pg_am : PySem.W.plainGet K cl_am Str.empty = true)
    (hd_am : PySem.W.hasDictIn K cl_am = true)
    (po_am : PySem.W.plainOver K cl_am = true)
    (sa_am : PySem.W.findIn K (.ref cl_am) "__setattr__" = some (some (.builtin "object.__setattr__")))
    (mk_am : PySem.W.makesIn K cl_am = true)
    (kc_am : PySem.W.keepIn K (.ref cl_am) = true)
    (nk_am : PySem.W.findIn K (.ref cl_am) "kinds" = some none)
    (nl_am : PySem.W.findIn K (.ref cl_am) "least" = some none)
    (nm_am : PySem.W.findIn K (.ref cl_am) "most" = some none)
    (ca_am : PySem.W.findIn K (.ref cl_am) "__class__" = some (some (.builtin "object.__class__")))
    (cm_am : PySem.W.mroIn K cl_am (.type "object") = some true)
    (is_am : PySem.W.isClsIn K cl_am = true)
    (ty_am : PySem.W.typeIn K (.ref cl_am) = some (.type "type"))
    (ai_am : PySem.W.findIn K (.ref cl_am) "__init__" = some (some (.ref f_iam)))
    (if_am : PySem.W.isFn K (.ref f_iam) = true)
    (l_iam : K.lookup f_iam = some ⟨oc_iam, od_iam, .func (PySem.W.ksFn "__init__" "AtMost.__init__" (defArgs s_AtMost_init) (defBody s_AtMost_init) (defScope s_AtMost_init) .none kV_iam dc_iam pm_iam an_iam (.ref cd_iam) ct_iam cc_iam), sl_iam⟩)
    (c_iam : PySem.W.codeIn K (.ref cd_iam) "AtMost.__init__" = true)
    (e_iam : K.lookup cc_iam = some ⟨cl1_iam, dd1_iam, .cell (some (.ref cl_am)), sl1_iam⟩)
    (o_iam : K.lookup cd_iam = some ⟨cl2_iam, dd2_iam, .fields vs_iam, sl2_iam⟩)
    (v_iam : vs_iam[2]? = some (.str file_iam tk_iam))
    (p_iam : ((l.prog.main.file : Str) == file_iam) = true)
    (tf_am : PySem.W.typeIn K (.ref f_iam) = some (.type "function"))
    (fi_am : PySem.W.fnIn K f_iam = true)
    (a_bt : PySem.W.nsIn K mainGlobals "Between" = some (some (.ref cl_bt)))
    (pg_bt : PySem.W.plainGet K cl_bt Str.empty = true)
    (hd_bt : PySem.W.hasDictIn K cl_bt = true)
    (po_bt : PySem.W.plainOver K cl_bt = true)
    (sa_bt : PySem.W.findIn K (.ref cl_bt) "__setattr__" = some (some (.builtin "object.__setattr__")))
    (mk_bt : PySem.W.makesIn K cl_bt = true)
    (kc_bt : PySem.W.keepIn K (.ref cl_bt) = true)
    (nk_bt : PySem.W.findIn K (.ref cl_bt) "kinds" = some none)
    (nl_bt : PySem.W.findIn K (.ref cl_bt) "least" = some none)
    (nm_bt : PySem.W.findIn K (.ref cl_bt) "most" = some none)
    (ca_bt : PySem.W.findIn K (.ref cl_bt) "__class__" = some (some (.builtin "object.__class__")))
    (cm_bt : PySem.W.mroIn K cl_bt (.type "object") = some true)
    (is_bt : PySem.W.isClsIn K cl_bt = true)
    (ty_bt : PySem.W.typeIn K (.ref cl_bt) = some (.type "type"))
    (ai_bt : PySem.W.findIn K (.ref cl_bt) "__init__" = some (some (.ref f_ibt)))
    (if_bt : PySem.W.isFn K (.ref f_ibt) = true)
    (l_ibt : K.lookup f_ibt = some ⟨oc_ibt, od_ibt, .func (PySem.W.ksFn "__init__" "Between.__init__" (defArgs s_Between_init) (defBody s_Between_init) (defScope s_Between_init) .none kV_ibt dc_ibt pm_ibt an_ibt (.ref cd_ibt) ct_ibt cc_ibt), sl_ibt⟩)
    (c_ibt : PySem.W.codeIn K (.ref cd_ibt) "Between.__init__" = true)
    (e_ibt : K.lookup cc_ibt = some ⟨cl1_ibt, dd1_ibt, .cell (some (.ref cl_bt)), sl1_ibt⟩)
    (o_ibt : K.lookup cd_ibt = some ⟨cl2_ibt, dd2_ibt, .fields vs_ibt, sl2_ibt⟩)
    (v_ibt : vs_ibt[2]? = some (.str file_ibt tk_ibt))
    (p_ibt : ((l.prog.main.file : Str) == file_ibt) = true)
    (tf_bt : PySem.W.typeIn K (.ref f_ibt) = some (.type "function"))
    (fi_bt : PySem.W.fnIn K f_ibt = true)
    (a_ex : PySem.W.nsIn K mainGlobals "Exactly" = some (some (.ref cl_ex)))
    (pg_ex : PySem.W.plainGet K cl_ex Str.empty = true)
    (hd_ex : PySem.W.hasDictIn K cl_ex = true)
    (po_ex : PySem.W.plainOver K cl_ex = true)
    (sa_ex : PySem.W.findIn K (.ref cl_ex) "__setattr__" = some (some (.builtin "object.__setattr__")))
    (mk_ex : PySem.W.makesIn K cl_ex = true)
    (kc_ex : PySem.W.keepIn K (.ref cl_ex) = true)
    (nk_ex : PySem.W.findIn K (.ref cl_ex) "kinds" = some none)
    (nl_ex : PySem.W.findIn K (.ref cl_ex) "least" = some none)
    (nm_ex : PySem.W.findIn K (.ref cl_ex) "most" = some none)
    (ca_ex : PySem.W.findIn K (.ref cl_ex) "__class__" = some (some (.builtin "object.__class__")))
    (cm_ex : PySem.W.mroIn K cl_ex (.type "object") = some true)
    (is_ex : PySem.W.isClsIn K cl_ex = true)
    (ty_ex : PySem.W.typeIn K (.ref cl_ex) = some (.type "type"))
    (ai_ex : PySem.W.findIn K (.ref cl_ex) "__init__" = some (some (.ref f_iex)))
    (if_ex : PySem.W.isFn K (.ref f_iex) = true)
    (l_iex : K.lookup f_iex = some ⟨oc_iex, od_iex, .func (PySem.W.ksFn "__init__" "Exactly.__init__" (defArgs s_Exactly_init) (defBody s_Exactly_init) (defScope s_Exactly_init) .none kV_iex dc_iex pm_iex an_iex (.ref cd_iex) ct_iex cc_iex), sl_iex⟩)
    (c_iex : PySem.W.codeIn K (.ref cd_iex) "Exactly.__init__" = true)
    (e_iex : K.lookup cc_iex = some ⟨cl1_iex, dd1_iex, .cell (some (.ref cl_ex)), sl1_iex⟩)
    (o_iex : K.lookup cd_iex = some ⟨cl2_iex, dd2_iex, .fields vs_iex, sl2_iex⟩)
    (v_iex : vs_iex[2]? = some (.str file_iex tk_iex))
    (p_iex : ((l.prog.main.file : Str) == file_iex) = true)
    (tf_ex : PySem.W.typeIn K (.ref f_iex) = some (.type "function"))
    (fi_ex : PySem.W.fnIn K f_iex = true)
    (ch_R : PySem.W.specialIn K (.builtin "object.__class__") "__get__" = some (some (.builtin "getset_descriptor.__get__")))
    (ct_R : PySem.W.takesIn K (.builtin "object.__class__") = some true)
    (sR_al : PySem.W.subIn K (.ref cl_al) (.ref cl_R) = some true)
    (s_al_am : PySem.W.subIn K (.ref cl_al) (.ref cl_am) = some false)
    (ne_al_am : cl_al ≠ cl_am)
    (s_al_bt : PySem.W.subIn K (.ref cl_al) (.ref cl_bt) = some false)
    (ne_al_bt : cl_al ≠ cl_bt)
    (s_al_ex : PySem.W.subIn K (.ref cl_al) (.ref cl_ex) = some false)
    (ne_al_ex : cl_al ≠ cl_ex)
    (sR_am : PySem.W.subIn K (.ref cl_am) (.ref cl_R) = some true)
    (s_am_al : PySem.W.subIn K (.ref cl_am) (.ref cl_al) = some false)
    (ne_am_al : cl_am ≠ cl_al)
    (s_am_bt : PySem.W.subIn K (.ref cl_am) (.ref cl_bt) = some false)
    (ne_am_bt : cl_am ≠ cl_bt)
    (s_am_ex : PySem.W.subIn K (.ref cl_am) (.ref cl_ex) = some false)
    (ne_am_ex : cl_am ≠ cl_ex)
    (sR_bt : PySem.W.subIn K (.ref cl_bt) (.ref cl_R) = some true)
    (s_bt_al : PySem.W.subIn K (.ref cl_bt) (.ref cl_al) = some true)
    (ne_bt_al : cl_bt ≠ cl_al)
    (s_bt_am : PySem.W.subIn K (.ref cl_bt) (.ref cl_am) = some true)
    (ne_bt_am : cl_bt ≠ cl_am)
    (s_bt_ex : PySem.W.subIn K (.ref cl_bt) (.ref cl_ex) = some false)
    (ne_bt_ex : cl_bt ≠ cl_ex)
    (sR_ex : PySem.W.subIn K (.ref cl_ex) (.ref cl_R) = some true)
    (s_ex_al : PySem.W.subIn K (.ref cl_ex) (.ref cl_al) = some true)
    (ne_ex_al : cl_ex ≠ cl_al)
    (s_ex_am : PySem.W.subIn K (.ref cl_ex) (.ref cl_am) = some true)
    (ne_ex_am : cl_ex ≠ cl_am)
    (s_ex_bt : PySem.W.subIn K (.ref cl_ex) (.ref cl_bt) = some true)
    (ne_ex_bt : cl_ex ≠ cl_bt)
    (m_al_al : PySem.W.mroIn K cl_al (.ref cl_al) = some true)
    (u_al_al : PySem.W.ks_superIn K cl_al cl_al "__init__" = some (some (.ref f_iR)))
    (m_am_am : PySem.W.mroIn K cl_am (.ref cl_am) = some true)
    (u_am_am : PySem.W.ks_superIn K cl_am cl_am "__init__" = some (some (.ref f_iR)))
    (m_bt_bt : PySem.W.mroIn K cl_bt (.ref cl_bt) = some true)
    (u_bt_bt : PySem.W.ks_superIn K cl_bt cl_bt "__init__" = some (some (.ref f_ial)))
    (m_bt_al : PySem.W.mroIn K cl_bt (.ref cl_al) = some true)
    (u_bt_al : PySem.W.ks_superIn K cl_bt cl_al "__init__" = some (some (.ref f_iam)))
    (m_bt_am : PySem.W.mroIn K cl_bt (.ref cl_am) = some true)
    (u_bt_am : PySem.W.ks_superIn K cl_bt cl_am "__init__" = some (some (.ref f_iR)))
    (m_ex_ex : PySem.W.mroIn K cl_ex (.ref cl_ex) = some true)
    (u_ex_ex : PySem.W.ks_superIn K cl_ex cl_ex "__init__" = some (some (.ref f_ibt)))
    (m_ex_bt : PySem.W.mroIn K cl_ex (.ref cl_bt) = some true)
    (u_ex_bt : PySem.W.ks_superIn K cl_ex cl_bt "__init__" = some (some (.ref f_ial)))
    (m_ex_al : PySem.W.mroIn K cl_ex (.ref cl_al) = some true)
    (u_ex_al : PySem.W.ks_superIn K cl_ex cl_al "__init__" = some (some (.ref f_iam)))
    (m_ex_am : PySem.W.mroIn K cl_ex (.ref cl_am) = some true)
    (u_ex_am : PySem.W.ks_superIn K cl_ex cl_am "__init__" = some (some (.ref f_iR)))
    (sg_top : (l.prog.main.scope.names.lookup ("super" : Str)).isSome = false)
    (z_super : PySem.W.nsIn K mainGlobals "super" = some none)
    (sg_opq : PySem.W.nsIn K cStatics "thirdparty.any" = some none)
    (a_RES : PySem.W.nsIn K mainGlobals "RESERVED" = some (some (.ref rR)))
    (t_RES : ∀ H : Hp, SqT K H rR (RES.map V.str))
    (a_rof : PySem.W.findCls K (.ref Dr) (.type "type") "of" = some (.get (.builtin "classmethod.__get__") (.ref q_rof) .none (.ref Dr)))
    (rc_rof : PySem.W.recIn K q_rof "classmethod" = some (.ref f_rof :: r_rof))
    (l_rof : K.lookup f_rof = some ⟨oc_rof, od_rof, .func (PySem.W.fnOf "of" "Rules.of" (defArgs s_Rules_of) (defBody s_Rules_of) (defScope s_Rules_of) dV_rof kV_rof dc_rof pm_rof an_rof cd_rof ct_rof), sl_rof⟩)
    (c_rof : PySem.W.codeIn K cd_rof "Rules.of" = true)
    (fi_rof : PySem.W.fnIn K f_rof = true)
    (k_rof : PySem.W.keepIn K (.ref f_rof) = true)
    (d_rof : L2.DflV K dV_rof [.ref e_rof])
    (t_rof : ∀ H : Hp, SqT K H e_rof [])
    (rd_Dr : PySem.W.readsIn K Dr (.type "type") = true)
    (ga_Dr : PySem.W.specialIn K (.ref Dr) "__getattribute__" = some (some (.builtin "type.__getattribute__")))
    (a_riD : PySem.W.findIn K (.ref Dr) "__init__" = some (some (.ref f_riD)))
    (i_riD : PySem.W.isFn K (.ref f_riD) = true)
    (l_riD : K.lookup f_riD = some ⟨oc_riD, od_riD, .func (PySem.W.fnOf "__init__" "Rules.__init__" (defArgs s_Rules_init) (defBody s_Rules_init) (defScope s_Rules_init) .none kV_riD dc_riD pm_riD an_riD cd_riD ct_riD), sl_riD⟩)
    (c_riD : PySem.W.codeIn K cd_riD "Rules.__init__" = true)
    (hg_BS : PySem.W.findIn K (.ref BS) "__getattribute__" = some (some (.builtin "BaseException.__getattribute__")))
    (hk_BS : PySem.W.findIn K (.ref BS) "__getattr__" = some none)
    (hd_BS : PySem.W.hasDictIn K BS = true)
    (ca_BS : PySem.W.findIn K (.ref BS) "__class__" = some (some (.builtin "object.__class__")))
    (cm_BS : PySem.W.mroIn K BS (.type "object") = some true)
    (a_ce : PySem.W.nsIn K mainGlobals "CountsheldError" = some (some (.ref ce)))
    (a_cbr : PySem.W.nsIn K mainGlobals "BadRule" = some (some (.ref cbr)))
    (k1_BS : PySem.W.kitOne K (.ref BS) (.ref ce) = some true)
    (k2_BS : PySem.W.kitOne K (.ref BS) (.ref cbr) = some false)
    (kC_R : PySem.W.kitOne K (.ref C) (.ref cl_R) = some false)
    (kR_NoneType : PySem.W.kitOne K (.type "NoneType") (.ref cl_R) = some false)
    (kR_bool : PySem.W.kitOne K (.type "bool") (.ref cl_R) = some false)
    (kR_int : PySem.W.kitOne K (.type "int") (.ref cl_R) = some false)
    (kR_list : PySem.W.kitOne K (.type "list") (.ref cl_R) = some false)
    (kR_tuple : PySem.W.kitOne K (.type "tuple") (.ref cl_R) = some false)
    (kR_str : PySem.W.kitOne K (.type "str") (.ref cl_R) = some false)
    (z_len : PySem.W.nsIn K mainGlobals "len" = some none)
    (z_int : PySem.W.nsIn K mainGlobals "int" = some none)
    (z_abs : PySem.W.nsIn K mainGlobals "abs" = some none)
    (z_list : PySem.W.nsIn K mainGlobals "list" = some none)
    (z_range : PySem.W.nsIn K mainGlobals "range" = some none)
    (z_sorted : PySem.W.nsIn K mainGlobals "sorted" = some none)
    (z_str : PySem.W.nsIn K mainGlobals "str" = some none)
    (z_isinstance : PySem.W.nsIn K mainGlobals "isinstance" = some none)
    (z_sum : PySem.W.nsIn K mainGlobals "sum" = some none)
    (z_tuple : PySem.W.nsIn K mainGlobals "tuple" = some none)
    (z_dict : PySem.W.nsIn K mainGlobals "dict" = some none)
    (z_all : PySem.W.nsIn K mainGlobals "all" = some none)
    (z_bool : PySem.W.nsIn K mainGlobals "bool" = some none)
    (z_enumerate : PySem.W.nsIn K mainGlobals "enumerate" = some none)
    (z_min : PySem.W.nsIn K mainGlobals "min" = some none)
    (z_zip : PySem.W.nsIn K mainGlobals "zip" = some none)
    : ∃ fd : FuncData, (∀ (s : Shared) (v : Value), BindsTo s fd ⟨[v], []⟩ [("_law_script", v)]) ∧ ∀ base : Heap, K.In base → base.Ns mainGlobals mg → FnOk l.prog w K mg base CX0 11 fa fd ["_law_script"] (spLawR K) := by
  have e := hfa.symm.trans (PySem.W.mg_of X G a_law)
  cases e
  have g : Bi mg := ⟨PySem.W.mg_none_of X G z_len, PySem.W.mg_none_of X G z_int, PySem.W.mg_none_of X G z_abs, PySem.W.mg_none_of X G z_list, PySem.W.mg_none_of X G z_range, PySem.W.mg_none_of X G z_sorted, PySem.W.mg_none_of X G z_str, PySem.W.mg_none_of X G z_isinstance, PySem.W.mg_none_of X G z_sum, PySem.W.mg_none_of X G z_tuple, PySem.W.mg_none_of X G z_dict, PySem.W.mg_none_of X G z_all, PySem.W.mg_none_of X G z_bool, PySem.W.mg_none_of X G z_enumerate⟩
  have F_isint := fun_mk (st := s_is_integer) l_isint c_isint k_isint
  have b_isint := F_isint.binds (ps := ["thing"]) fun _ _ _ _ _ _ us hl => match us, hl with | [_], _ => rfl
  have F_isword := fun_mk (st := s_is_word) l_isword c_isword k_isword
  have b_isword := F_isword.binds (ps := ["thing"]) fun _ _ _ _ _ _ us hl => match us, hl with | [_], _ => rfl
  have F_issmall := fun_mk (st := s_is_small) l_issmall c_issmall k_issmall
  have b_issmall := F_issmall.binds (ps := ["thing"]) fun _ _ _ _ _ _ us hl => match us, hl with | [_], _ => rfl
  have F_ispair := fun_mk (st := s_is_pair) l_ispair c_ispair k_ispair
  have b_ispair := F_ispair.binds (ps := ["thing"]) fun _ _ _ _ _ _ us hl => match us, hl with | [_], _ => rfl
  have F_source := fun_mk (st := s_l_source) l_source c_source k_source
  have b_source := F_source.binds (ps := ["_law_script"]) fun _ _ _ _ _ _ us hl => match us, hl with | [_], _ => rfl
  have F_mixed := fun_mk (st := s_l_mixed) l_mixed c_mixed k_mixed
  have b_mixed := F_mixed.binds (ps := ["_law_cell", "_law_count"]) fun _ _ _ _ _ _ us hl => match us, hl with | [_, _], _ => rfl
  have F_draw := fun_mk (st := s_l_draw) l_draw c_draw k_draw
  have b_draw := F_draw.binds (ps := ["_law_source_here", "_law_size"]) fun _ _ _ _ _ _ us hl => match us, hl with | [_, _], _ => rfl
  have F_distinct := fun_mk (st := s_distinct) l_distinct c_distinct k_distinct
  have b_distinct := F_distinct.binds (ps := ["words"]) fun _ _ _ _ _ _ us hl => match us, hl with | [_], _ => rfl
  have F_iskind := fun_mk (st := s_is_kind) l_iskind c_iskind k_iskind
  have b_iskind := F_iskind.binds (ps := ["thing"]) fun _ _ _ _ _ _ us hl => match us, hl with | [_], _ => rfl
  have F_isbound := fun_mk (st := s_is_bound) l_isbound c_isbound k_isbound
  have b_isbound := F_isbound.binds (ps := ["thing"]) fun _ _ _ _ _ _ us hl => match us, hl with | [_], _ => rfl
  have F_kind := fun_mk (st := s_l_kind) l_kind c_kind k_kind
  have b_kind := F_kind.binds (ps := ["_law_source_here", "_law_taken"]) fun _ _ _ _ _ _ us hl => match us, hl with | [_, _], _ => rfl
  have F_kinds := fun_mk (st := s_l_kinds) l_kinds c_kinds k_kinds
  have b_kinds := F_kinds.binds (ps := ["_law_source_here", "_law_many"]) fun _ _ _ _ _ _ us hl => match us, hl with | [_, _], _ => rfl
  have F_four := fun_mk (st := s_l_four) l_four c_four k_four
  have b_four := F_four.binds (ps := ["_law_low", "_law_high", "_law_kinds_here"]) fun _ _ _ _ _ _ us hl => match us, hl with | [_, _, _], _ => rfl
  have F_caps := fun_mk (st := s_caps_of) l_caps c_caps k_caps
  have b_caps := F_caps.binds (ps := ["rules", "kinds"]) fun _ _ _ _ _ _ us hl => match us, hl with | [_, _], _ => rfl
  have F_alln := fun_mk (st := s_all_numbers) l_alln c_alln k_alln
  have b_alln := F_alln.binds (ps := ["caps"]) fun _ _ _ _ _ _ us hl => match us, hl with | [_], _ => rfl
  have F_within := fun_mk (st := s_is_within) l_within c_within k_within
  have b_within := F_within.binds (ps := ["rules", "kinds", "numbers"]) fun _ _ _ _ _ _ us hl => match us, hl with | [_, _, _], _ => rfl
  have F_rows := fun_mk (st := s_l_rows) l_rows c_rows k_rows
  have b_rows := F_rows.binds (ps := ["_law_source_here", "_law_kinds_here"]) fun _ _ _ _ _ _ us hl => match us, hl with | [_, _], _ => rfl
  have F_rule := fun_mk (st := s_l_rule) l_rule c_rule k_rule
  have b_rule := F_rule.binds (ps := ["_law_row"]) fun _ _ _ _ _ _ us hl => match us, hl with | [_], _ => rfl
  have F_what := fun_mk (st := s_l_what) l_what c_what k_what
  have b_what := F_what.binds (ps := ["_law_rules", "_law_free"]) fun _ _ _ _ _ _ us hl => match us, hl with | [_, _], _ => rfl
  have F_wrongr := fun_mk (st := s_l_wrong_rules) l_wrongr c_wrongr k_wrongr
  have b_wrongr := F_wrongr.binds (ps := ["_law_choice", "_law_rules"]) fun _ _ _ _ _ _ us hl => match us, hl with | [_, _], _ => rfl
  have F_wrongl := fun_mk (st := s_l_wrong_loose) l_wrongl c_wrongl k_wrongl
  have b_wrongl := F_wrongl.binds (ps := ["_law_choice", "_law_kind_here", "_law_fresh"]) fun _ _ _ _ _ _ us hl => match us, hl with | [_, _, _], _ => rfl
  have F_wide := fun_mk (st := s_l_wide) l_wide c_wide k_wide
  have b_wide := F_wide.binds (ps := ["_law_kinds_here", "_law_extra"]) fun _ _ _ _ _ _ us hl => match us, hl with | [_, _], _ => rfl
  have F_law := fun_mk (st := s_law) l_law c_law k_law
  have b_law := F_law.binds (ps := ["_law_script"]) fun _ _ _ _ _ _ us hl => match us, hl with | [_], _ => rfl
  have F_init := fun_mk (st := s_Counts_init) l_init c_init k_init
  have F_xrs := fun_mk (st := s_BadRules_init) l_xrs c_xrs k_xrs
  have b_xrs := F_xrs.binds (ps := ["self", "what"]) fun _ _ _ _ _ _ us hl => match us, hl with | [_, _], _ => rfl
  refine ⟨PySem.W.fnOf "law" "law" (defArgs s_law) (defBody s_law) (defScope s_law) .none kV_law dc_law pm_law an_law cd_law ct_law, fun s v => .of_eq rfl, fun base _ _ => ?_⟩
  have M := fun {x : Str} {v : Value} (a : PySem.W.nsIn K mainGlobals x = some (some v)) => PySem.W.mg_of X G a
  have FII : Def l.prog w K mg base CX0 1 "is_integer" ["thing"] (spIsInteger K) f_isint _ := ⟨ok_is_integer F_isint g, M a_isint, k_isint, b_isint⟩
  have FIW : Def l.prog w K mg base CX0 1 "is_word" ["thing"] (spIsWord K) f_isword _ := ⟨ok_is_word F_isword g (M a_LET), M a_isword, k_isword, b_isword⟩
  have FIS : Def l.prog w K mg base CX0 2 "is_small" ["thing"] (spIsSmall K) f_issmall _ := ⟨ok_is_small F_issmall g FII, M a_issmall, k_issmall, b_issmall⟩
  have FIP : Def l.prog w K mg base CX0 3 "is_pair" ["thing"] (spIsPair K) f_ispair _ := ⟨ok_is_pair F_ispair g FIW FIS, M a_ispair, k_ispair, b_ispair⟩
  have FSO : Def l.prog w K mg base CX0 1 "_law_source" ["_law_script"] (spSource K) f_source _ := ⟨ok_source F_source g, M a_source, k_source, b_source⟩
  have FDR : Def l.prog w K mg base CX0 2 "_law_draw" ["_law_source_here", "_law_size"] spDraw f_draw _ := ⟨ok_draw F_draw g F_mixed (M a_mixed) b_mixed, M a_draw, k_draw, b_draw⟩
  have hRES : ResAt K rR := t_RES
  have FIK : Def l.prog w K mg base CX0 2 "is_kind" ["thing"] (spIsKind K) f_iskind _ := ⟨ok_is_kind F_iskind g FIW (M a_RES) hRES, M a_iskind, k_iskind, b_iskind⟩
  have FIB : Def l.prog w K mg base CX0 2 "is_bound" ["thing"] (spIsBound K) f_isbound _ := ⟨ok_is_bound F_isbound g FII, M a_isbound, k_isbound, b_isbound⟩
  have FDT : Def l.prog w K mg base CX0 1 "distinct" ["words"] (spDistinctT K) f_distinct _ := ⟨ok_distinctT F_distinct g, M a_distinct, k_distinct, b_distinct⟩
  have SG : SupG l.prog K mg := ⟨sg_top, PySem.W.mg_none_of X G z_super, sg_opq⟩
  have clal : Cls K cl_al := ⟨pg_al, hd_al, po_al, sa_al⟩
  have rcal : RC K cl_al := ⟨clal, nk_al, nl_al, nm_al⟩
  have fsal : FunS K "__init__" "AtLeast.__init__" s_AtLeast_init f_ial cd_ial cc_ial cl_al _ _ _ _ _ := ⟨⟨_, _, _, l_ial⟩, c_ial, ⟨_, _, _, e_ial⟩⟩
  have sdal : SupD l.prog K cd_ial cl_al := ⟨⟨_, _, _, _, _, _, o_ial, v_ial, p_ial⟩, is_al⟩
  have rual := ok_rule (P := l.prog) (w := w) (mg := mg) (base := base) (C := cl_al) g rcal FIK FDT l_iR c_iR
  have clam : Cls K cl_am := ⟨pg_am, hd_am, po_am, sa_am⟩
  have rcam : RC K cl_am := ⟨clam, nk_am, nl_am, nm_am⟩
  have fsam : FunS K "__init__" "AtMost.__init__" s_AtMost_init f_iam cd_iam cc_iam cl_am _ _ _ _ _ := ⟨⟨_, _, _, l_iam⟩, c_iam, ⟨_, _, _, e_iam⟩⟩
  have sdam : SupD l.prog K cd_iam cl_am := ⟨⟨_, _, _, _, _, _, o_iam, v_iam, p_iam⟩, is_am⟩
  have ruam := ok_rule (P := l.prog) (w := w) (mg := mg) (base := base) (C := cl_am) g rcam FIK FDT l_iR c_iR
  have clbt : Cls K cl_bt := ⟨pg_bt, hd_bt, po_bt, sa_bt⟩
  have rcbt : RC K cl_bt := ⟨clbt, nk_bt, nl_bt, nm_bt⟩
  have fsbt : FunS K "__init__" "Between.__init__" s_Between_init f_ibt cd_ibt cc_ibt cl_bt _ _ _ _ _ := ⟨⟨_, _, _, l_ibt⟩, c_ibt, ⟨_, _, _, e_ibt⟩⟩
  have sdbt : SupD l.prog K cd_ibt cl_bt := ⟨⟨_, _, _, _, _, _, o_ibt, v_ibt, p_ibt⟩, is_bt⟩
  have rubt := ok_rule (P := l.prog) (w := w) (mg := mg) (base := base) (C := cl_bt) g rcbt FIK FDT l_iR c_iR
  have clex : Cls K cl_ex := ⟨pg_ex, hd_ex, po_ex, sa_ex⟩
  have rcex : RC K cl_ex := ⟨clex, nk_ex, nl_ex, nm_ex⟩
  have fsex : FunS K "__init__" "Exactly.__init__" s_Exactly_init f_iex cd_iex cc_iex cl_ex _ _ _ _ _ := ⟨⟨_, _, _, l_iex⟩, c_iex, ⟨_, _, _, e_iex⟩⟩
  have sdex : SupD l.prog K cd_iex cl_ex := ⟨⟨_, _, _, _, _, _, o_iex, v_iex, p_iex⟩, is_ex⟩
  have ruex := ok_rule (P := l.prog) (w := w) (mg := mg) (base := base) (C := cl_ex) g rcex FIK FDT l_iR c_iR
  have NAL := ok_atleast1 g rcal FIB fsal SG sdal ⟨m_al_al, u_al_al, tf_R, fi_R⟩ rual
  have NAM := ok_atmost g rcam FIB fsam SG sdam ⟨m_am_am, u_am_am, tf_R, fi_R⟩ ruam
  have Nbt1 := ok_atmost g rcbt FIB fsam SG sdam ⟨m_bt_am, u_bt_am, tf_R, fi_R⟩ rubt
  have Nbt2 := ok_atleast2 g rcbt FIB fsal SG sdal ⟨m_bt_al, u_bt_al, tf_am, fi_am⟩ Nbt1
  have Nbt3 := ok_between g rcbt FIB fsbt SG sdbt ⟨m_bt_bt, u_bt_bt, tf_al, fi_al⟩ Nbt2
  have Nex1 := ok_atmost g rcex FIB fsam SG sdam ⟨m_ex_am, u_ex_am, tf_R, fi_R⟩ ruex
  have Nex2 := ok_atleast2 g rcex FIB fsal SG sdal ⟨m_ex_al, u_ex_al, tf_am, fi_am⟩ Nex1
  have Nex3 := ok_between g rcex FIB fsbt SG sdbt ⟨m_ex_bt, u_ex_bt, tf_al, fi_al⟩ Nex2
  have Nex4 := ok_exactly g fsex SG sdex ⟨m_ex_ex, u_ex_ex, tf_bt, fi_bt⟩ Nex3
  have WO : RWo K mg ⟨cl_R, cl_al, cl_am, cl_bt, cl_ex⟩ := ⟨M a_R, M a_al, M a_am, M a_bt, M a_ex, fun c => by cases c <;> assumption, fun c => by cases c; exact ⟨clal, ca_al, ch_R, ct_R, cm_al⟩; exact ⟨clam, ca_am, ch_R, ct_R, cm_am⟩; exact ⟨clbt, ca_bt, ch_R, ct_R, cm_bt⟩; exact ⟨clex, ca_ex, ch_R, ct_R, cm_ex⟩, fun c => by cases c; exact kitR_yes is_R ty_R sR_al; exact kitR_yes is_R ty_R sR_am; exact kitR_yes is_R ty_R sR_bt; exact kitR_yes is_R ty_R sR_ex, fun c d => by cases c <;> cases d; exact kitR_self; exact kitR_no is_am ty_am s_al_am ne_al_am; exact kitR_no is_bt ty_bt s_al_bt ne_al_bt; exact kitR_no is_ex ty_ex s_al_ex ne_al_ex; exact kitR_no is_al ty_al s_am_al ne_am_al; exact kitR_self; exact kitR_no is_bt ty_bt s_am_bt ne_am_bt; exact kitR_no is_ex ty_ex s_am_ex ne_am_ex; exact kitR_yes is_al ty_al s_bt_al; exact kitR_yes is_am ty_am s_bt_am; exact kitR_self; exact kitR_no is_ex ty_ex s_bt_ex ne_bt_ex; exact kitR_yes is_al ty_al s_ex_al; exact kitR_yes is_am ty_am s_ex_am; exact kitR_yes is_bt ty_bt s_ex_bt; exact kitR_self⟩
  have WM : RMk l.prog w K mg base ⟨cl_R, cl_al, cl_am, cl_bt, cl_ex⟩ := ⟨WO, ⟨_, ⟨mk_al, ai_al, if_al, kc_al⟩, FnR.up (FnR.less NAL (by decide)) (by decide)⟩, ⟨_, ⟨mk_am, ai_am, if_am, kc_am⟩, FnR.up (FnR.less NAM (by decide)) (by decide)⟩, ⟨_, ⟨mk_bt, ai_bt, if_bt, kc_bt⟩, FnR.up Nbt3 (by decide)⟩, ⟨_, ⟨mk_ex, ai_ex, if_ex, kc_ex⟩, Nex4⟩⟩
  have g2 : Bi2 mg := ⟨PySem.W.mg_none_of X G z_min, PySem.W.mg_none_of X G z_zip⟩
  have FDI : Def l.prog w K mg base CX0 1 "distinct" ["words"] (spDistinct K) f_distinct _ := ⟨ok_distinct F_distinct g, M a_distinct, k_distinct, b_distinct⟩
  have cl : Cls K C := ⟨pg_C, hd_C, po_C, sa_C⟩
  have ci : CI K C := ⟨cl, cc_C, ch_C, ct_C, cm_C⟩
  have T : CT l.prog w K mg base C f_init := ⟨cl, n_C_held, M a_C, ⟨mk_C, a_init, i_init, kc_C⟩, ok_init g cl n_C_held l_init c_init⟩
  have FKI : Def l.prog w K mg base CX0 3 "_law_kind" ["_law_source_here", "_law_taken"] spKind f_kind _ := ⟨ok_kind F_kind g FDR, M a_kind, k_kind, b_kind⟩
  have FKS : Def l.prog w K mg base CX0 4 "_law_kinds" ["_law_source_here", "_law_many"] spKinds f_kinds _ := ⟨ok_kinds F_kinds g FKI, M a_kinds, k_kinds, b_kinds⟩
  have FFO : Def l.prog w K mg base CX0 9 "_law_four" ["_law_low", "_law_high", "_law_kinds_here"] (spFour ⟨cl_R, cl_al, cl_am, cl_bt, cl_ex⟩) f_four _ := ⟨ok_four F_four g WM, M a_four, k_four, b_four⟩
  have FCP : Def l.prog w K mg base CX0 1 "caps_of" ["rules", "kinds"] (spCaps ⟨cl_R, cl_al, cl_am, cl_bt, cl_ex⟩) f_caps _ := ⟨ok_caps_of F_caps g g2 WO, M a_caps, k_caps, b_caps⟩
  have FAN : Def l.prog w K mg base CX0 1 "all_numbers" ["caps"] spAllN f_alln _ := ⟨ok_all_numbers F_alln g, M a_alln, k_alln, b_alln⟩
  have FWI : Def l.prog w K mg base CX0 1 "is_within" ["rules", "kinds", "numbers"] (spWithin ⟨cl_R, cl_al, cl_am, cl_bt, cl_ex⟩) f_within _ := ⟨ok_is_within F_within g g2 WO, M a_within, k_within, b_within⟩
  have clD : Cls K Dr := ⟨pg_Dr, hd_Dr, po_Dr, sa_Dr⟩
  have RKD : RsC K Dr := ⟨clD, n_Dr_listed, n_Dr_kinds, n_Dr_loose, n_Dr_caps, n_Dr_every⟩
  have IRD := ok_rules (P := l.prog) (w := w) (mg := mg) (base := base) (C := Dr) g WO RKD FIK FDI FCP FAN FWI l_riD c_riD (fun us rest u hl => match us, hl, rest with | [_], _, [] => rfl | [_], _, _ :: _ => rfl)
  have FRD : FunD K "of" "Rules.of" (defArgs s_Rules_of) (defBody s_Rules_of) (defScope s_Rules_of) [.ref e_rof] [] f_rof _ := ⟨⟨_, _, _, _, _, _, _, _, _, _, rfl, l_rof, c_rof, d_rof, .inl rfl⟩, k_rof⟩
  have BRD : L2.Binds K _ ["cls", "rules", "loose"] [] := rof_binds FRD (fun T kV doc pm an cdv ct us its hu hi => match us, hu, its, hi with | [_, _, _], _, [_], _ => ⟨_, rfl, rfl⟩)
  have MRS : KDef l.prog w K mg base CX0 5 Dr (.type "type") "of" (spRsOf ⟨cl_R, cl_al, cl_am, cl_bt, cl_ex⟩ Dr) q_rof f_rof := ⟨⟨rd_Dr, ga_Dr⟩, ⟨a_rof, ⟨_, rc_rof⟩, fi_rof⟩, fnR_of (ok_rules_of FRD ⟨mk_Dr, a_riD, i_riD, kc_Dr⟩ IRD) BRD⟩
  have FRO : Def l.prog w K mg base CX0 3 "_law_rows" ["_law_source_here", "_law_kinds_here"] spLRows f_rows _ := ⟨ok_rows F_rows g FDR, M a_rows, k_rows, b_rows⟩
  have FRU : Def l.prog w K mg base CX0 10 "_law_rule" ["_law_row"] (spRuleL ⟨cl_R, cl_al, cl_am, cl_bt, cl_ex⟩) f_rule _ := ⟨ok_ruleL F_rule g FFO, M a_rule, k_rule, b_rule⟩
  have IK1 := ok_initK (P := l.prog) (w := w) (mg := mg) (base := base) (ks := ["a"]) g cl n_C_held FIW FIS l_init c_init (by decide) (by decide) kw_a (fun u ws hw => match ws, hw with | [_], _ => rfl)
  have OBS : OexC K BS := ⟨x_BS, sa_BS, ec_BS, ty_BS, kc_BS⟩
  have XBS : XDef l.prog w K mg base "BadRules" BS f_xrs "what" ["self", "what"] _ := ⟨OBS, a_xrs, t_xrs, ok_xrules F_xrs OBS nf_BS, b_xrs, M a_BS, exm_self ec_BS is_BS ty_BS ss_BS⟩
  have EC_BS : ExcC K BS := ⟨hg_BS, hk_BS, ec_BS, hd_BS, ca_BS, ch_R, ct_R, cm_BS⟩
  have XF_BS : XfC K BS := ⟨hg_BS, hk_BS, ec_BS, hd_BS⟩
  have hTR : ∀ ty, ty ∈ TY6V → PySem.W.kitOne K (.type ty) (.ref cl_R) = some false := fun ty ht => by simp only [TY6V, List.mem_cons, List.not_mem_nil, or_false] at ht; rcases ht with rfl | rfl | rfl | rfl | rfl | rfl; exact kR_NoneType; exact kR_bool; exact kR_int; exact kR_list; exact kR_tuple; exact kR_str
  have IRX := ok_rulesX (P := l.prog) (w := w) (mg := mg) (base := base) (C := Dr) g WO RKD ci FIK FDI FDT FCP FAN FWI XBS hTR kC_R l_riD c_riD (fun us rest u hl => match us, hl, rest with | [_], _, [] => rfl | [_], _, _ :: _ => rfl)
  have GX := ok_rules_ofX FRD ⟨mk_Dr, a_riD, i_riD, kc_Dr⟩ IRX
  have GXK := fnL_kw (n := 2) (nm := "loose") FRD GX (by simp) rfl (fun T kV doc pm an cdv ct us its u hu hi => match us, hu, its, hi with | [_, _], _, [_], _ => ⟨_, rfl, rfl⟩)
  have FWH : Def l.prog w K mg base CX0 6 "_law_what" ["_law_rules", "_law_free"] (spWhat19 K ⟨cl_R, cl_al, cl_am, cl_bt, cl_ex⟩ C BS) f_what _ := ⟨ok_what19 F_what g (M a_Dr) ⟨rd_Dr, ga_Dr⟩ ⟨a_rof, ⟨_, rc_rof⟩, fi_rof⟩ GXK XBS EC_BS XF_BS nf_BS (M a_ce) (M a_cbr) k1_BS k2_BS, M a_what, k_what, b_what⟩
  have FWR : Def l.prog w K mg base CX0 5 "_law_wrong_rules" ["_law_choice", "_law_rules"] (spWrongR ⟨cl_R, cl_al, cl_am, cl_bt, cl_ex⟩ C) f_wrongr _ := ⟨ok_wrongR F_wrongr g T IK1, M a_wrongr, k_wrongr, b_wrongr⟩
  have FWL : Def l.prog w K mg base CX0 1 "_law_wrong_loose" ["_law_choice", "_law_kind_here", "_law_fresh"] spWrongLo f_wrongl _ := ⟨ok_wrongLo F_wrongl g, M a_wrongl, k_wrongl, b_wrongl⟩
  have FWI2 : Def l.prog w K mg base CX0 9 "_law_wide" ["_law_kinds_here", "_law_extra"] (spWide ⟨cl_R, cl_al, cl_am, cl_bt, cl_ex⟩) f_wide _ := ⟨ok_wide F_wide g WM, M a_wide, k_wide, b_wide⟩
  exact ok_law F_law g WM FSO FDR FKI FKS FRO FRU FWH FWR FWL FWI2
end Cs
namespace Cs
open PySem PySem.Spec PyProof.Rows L2
abbrev R0 : PySem.W.OpenRow := PySem.W.OpenLaw.row PySem.Challenge.rw_countsheld_k19_sets_of_rules_refused
def fd0 : FnA := ⟨fun K => (He.ga K "is_integer"), "is_integer", "is_integer", s_is_integer, [], false⟩
def fd1 : FnA := ⟨fun K => (He.ga K "is_word"), "is_word", "is_word", s_is_word, [], false⟩
def fd2 : FnA := ⟨fun K => (He.ga K "is_small"), "is_small", "is_small", s_is_small, [], false⟩
def fd3 : FnA := ⟨fun K => (He.ga K "is_pair"), "is_pair", "is_pair", s_is_pair, [], false⟩
def fd4 : FnA := ⟨fun K => (He.ga K "_law_source"), "_law_source", "_law_source", s_l_source, [], false⟩
def fd5 : FnA := ⟨fun K => (He.ga K "_law_mixed"), "_law_mixed", "_law_mixed", s_l_mixed, [], false⟩
def fd6 : FnA := ⟨fun K => (He.ga K "_law_draw"), "_law_draw", "_law_draw", s_l_draw, [], false⟩
def fd7 : FnA := ⟨fun K => (He.ga K "distinct"), "distinct", "distinct", s_distinct, [], false⟩
def fd8 : FnA := ⟨fun K => (He.ga K "is_kind"), "is_kind", "is_kind", s_is_kind, [], false⟩
def fd9 : FnA := ⟨fun K => (He.ga K "is_bound"), "is_bound", "is_bound", s_is_bound, [], false⟩
def fd10 : FnA := ⟨fun K => (He.ga K "_law_kind"), "_law_kind", "_law_kind", s_l_kind, [], false⟩
def fd11 : FnA := ⟨fun K => (He.ga K "_law_kinds"), "_law_kinds", "_law_kinds", s_l_kinds, [], false⟩
def fd12 : FnA := ⟨fun K => (He.ga K "_law_four"), "_law_four", "_law_four", s_l_four, [], false⟩
def fd13 : FnA := ⟨fun K => (He.ga K "caps_of"), "caps_of", "caps_of", s_caps_of, [], false⟩
def fd14 : FnA := ⟨fun K => (He.ga K "all_numbers"), "all_numbers", "all_numbers", s_all_numbers, [], false⟩
def fd15 : FnA := ⟨fun K => (He.ga K "is_within"), "is_within", "is_within", s_is_within, [], false⟩
def fd16 : FnA := ⟨fun K => (He.ga K "_law_rows"), "_law_rows", "_law_rows", s_l_rows, [], false⟩
def fd17 : FnA := ⟨fun K => (He.ga K "_law_rule"), "_law_rule", "_law_rule", s_l_rule, [], false⟩
def fd18 : FnA := ⟨fun K => (He.ga K "_law_what"), "_law_what", "_law_what", s_l_what, [], false⟩
def fd19 : FnA := ⟨fun K => (He.ga K "_law_wrong_rules"), "_law_wrong_rules", "_law_wrong_rules", s_l_wrong_rules, [], false⟩
def fd20 : FnA := ⟨fun K => (He.ga K "_law_wrong_loose"), "_law_wrong_loose", "_law_wrong_loose", s_l_wrong_loose, [], false⟩
def fd21 : FnA := ⟨fun K => (He.ga K "_law_wide"), "_law_wide", "_law_wide", s_l_wide, [], false⟩
def fd22 : FnA := ⟨fun K => (He.ga K "law"), "law", "law", s_law, [], false⟩
def fd23 : FnA := ⟨fun K => (He.ma K (He.ga K "Counts") "__init__"), "__init__", "Counts.__init__", s_Counts_init, [], false⟩
def fd24 : FnA := ⟨fun K => (He.ma K (He.ga K "BadRules") "__init__"), "__init__", "BadRules.__init__", s_BadRules_init, [], false⟩
def fd25 : FnA := ⟨fun K => (He.ma K (He.ga K "Rule") "__init__"), "__init__", "Rule.__init__", s_Rule_init, [], false⟩
def fd26 : FnA := ⟨fun K => (He.ma K (He.ga K "AtLeast") "__init__"), "__init__", "AtLeast.__init__", s_AtLeast_init, ["__class__"], false⟩
def fd27 : FnA := ⟨fun K => (He.ma K (He.ga K "AtMost") "__init__"), "__init__", "AtMost.__init__", s_AtMost_init, ["__class__"], false⟩
def fd28 : FnA := ⟨fun K => (He.ma K (He.ga K "Between") "__init__"), "__init__", "Between.__init__", s_Between_init, ["__class__"], false⟩
def fd29 : FnA := ⟨fun K => (He.ma K (He.ga K "Exactly") "__init__"), "__init__", "Exactly.__init__", s_Exactly_init, ["__class__"], false⟩
def fd30 : FnA := ⟨fun K => (cmF K (He.ga K "Rules") "of" "classmethod"), "of", "Rules.of", s_Rules_of, [], true⟩
def fd31 : FnA := ⟨fun K => (He.ma K (He.ga K "Rules") "__init__"), "__init__", "Rules.__init__", s_Rules_init, [], false⟩
def ck0 (K : Fr) : Bool := supB K (He.ma K (He.ga K "AtLeast") "__init__") (He.ga K "AtLeast") R0.prog.main.file
def ck1 (K : Fr) : Bool := supB K (He.ma K (He.ga K "AtMost") "__init__") (He.ga K "AtMost") R0.prog.main.file
def ck2 (K : Fr) : Bool := supB K (He.ma K (He.ga K "Between") "__init__") (He.ga K "Between") R0.prog.main.file
def ck3 (K : Fr) : Bool := supB K (He.ma K (He.ga K "Exactly") "__init__") (He.ga K "Exactly") R0.prog.main.file
def ck4 (K : Fr) : Bool := exoB K (He.ga K "BadRules")
def ck5 (K : Fr) : Bool := cmB K (He.ga K "Rules") "of"
def ck6 (K : Fr) : Bool := dflB K (cmF K (He.ga K "Rules") "of" "classmethod") [.ref (dflA K (cmF K (He.ga K "Rules") "of" "classmethod"))]
def ck7 (K : Fr) : Bool := nilB K (dflA K (cmF K (He.ga K "Rules") "of" "classmethod"))
def ck8 (K : Fr) : Bool := decide (PySem.W.nsIn K mainGlobals "is_integer" = some (some (.ref (He.ga K "is_integer"))))
def ck9 (K : Fr) : Bool := decide (PySem.W.keepIn K (.ref (He.ga K "is_integer")) = true)
def ck10 (K : Fr) : Bool := decide (PySem.W.nsIn K mainGlobals "is_word" = some (some (.ref (He.ga K "is_word"))))
def ck11 (K : Fr) : Bool := decide (PySem.W.keepIn K (.ref (He.ga K "is_word")) = true)
def ck12 (K : Fr) : Bool := decide (PySem.W.nsIn K mainGlobals "is_small" = some (some (.ref (He.ga K "is_small"))))
def ck13 (K : Fr) : Bool := decide (PySem.W.keepIn K (.ref (He.ga K "is_small")) = true)
def ck14 (K : Fr) : Bool := decide (PySem.W.nsIn K mainGlobals "is_pair" = some (some (.ref (He.ga K "is_pair"))))
def ck15 (K : Fr) : Bool := decide (PySem.W.keepIn K (.ref (He.ga K "is_pair")) = true)
def ck16 (K : Fr) : Bool := decide (PySem.W.nsIn K mainGlobals "_law_source" = some (some (.ref (He.ga K "_law_source"))))
def ck17 (K : Fr) : Bool := decide (PySem.W.keepIn K (.ref (He.ga K "_law_source")) = true)
def ck18 (K : Fr) : Bool := decide (PySem.W.nsIn K mainGlobals "_law_mixed" = some (some (.ref (He.ga K "_law_mixed"))))
def ck19 (K : Fr) : Bool := decide (PySem.W.keepIn K (.ref (He.ga K "_law_mixed")) = true)
def ck20 (K : Fr) : Bool := decide (PySem.W.nsIn K mainGlobals "_law_draw" = some (some (.ref (He.ga K "_law_draw"))))
def ck21 (K : Fr) : Bool := decide (PySem.W.keepIn K (.ref (He.ga K "_law_draw")) = true)
def ck22 (K : Fr) : Bool := decide (PySem.W.nsIn K mainGlobals "distinct" = some (some (.ref (He.ga K "distinct"))))
def ck23 (K : Fr) : Bool := decide (PySem.W.keepIn K (.ref (He.ga K "distinct")) = true)
def ck24 (K : Fr) : Bool := decide (PySem.W.nsIn K mainGlobals "is_kind" = some (some (.ref (He.ga K "is_kind"))))
def ck25 (K : Fr) : Bool := decide (PySem.W.keepIn K (.ref (He.ga K "is_kind")) = true)
def ck26 (K : Fr) : Bool := decide (PySem.W.nsIn K mainGlobals "is_bound" = some (some (.ref (He.ga K "is_bound"))))
def ck27 (K : Fr) : Bool := decide (PySem.W.keepIn K (.ref (He.ga K "is_bound")) = true)
def ck28 (K : Fr) : Bool := decide (PySem.W.nsIn K mainGlobals "_law_kind" = some (some (.ref (He.ga K "_law_kind"))))
def ck29 (K : Fr) : Bool := decide (PySem.W.keepIn K (.ref (He.ga K "_law_kind")) = true)
def ck30 (K : Fr) : Bool := decide (PySem.W.nsIn K mainGlobals "_law_kinds" = some (some (.ref (He.ga K "_law_kinds"))))
def ck31 (K : Fr) : Bool := decide (PySem.W.keepIn K (.ref (He.ga K "_law_kinds")) = true)
def ck32 (K : Fr) : Bool := decide (PySem.W.nsIn K mainGlobals "_law_four" = some (some (.ref (He.ga K "_law_four"))))
def ck33 (K : Fr) : Bool := decide (PySem.W.keepIn K (.ref (He.ga K "_law_four")) = true)
def ck34 (K : Fr) : Bool := decide (PySem.W.nsIn K mainGlobals "caps_of" = some (some (.ref (He.ga K "caps_of"))))
def ck35 (K : Fr) : Bool := decide (PySem.W.keepIn K (.ref (He.ga K "caps_of")) = true)
def ck36 (K : Fr) : Bool := decide (PySem.W.nsIn K mainGlobals "all_numbers" = some (some (.ref (He.ga K "all_numbers"))))
def ck37 (K : Fr) : Bool := decide (PySem.W.keepIn K (.ref (He.ga K "all_numbers")) = true)
def ck38 (K : Fr) : Bool := decide (PySem.W.nsIn K mainGlobals "is_within" = some (some (.ref (He.ga K "is_within"))))
def ck39 (K : Fr) : Bool := decide (PySem.W.keepIn K (.ref (He.ga K "is_within")) = true)
def ck40 (K : Fr) : Bool := decide (PySem.W.nsIn K mainGlobals "_law_rows" = some (some (.ref (He.ga K "_law_rows"))))
def ck41 (K : Fr) : Bool := decide (PySem.W.keepIn K (.ref (He.ga K "_law_rows")) = true)
def ck42 (K : Fr) : Bool := decide (PySem.W.nsIn K mainGlobals "_law_rule" = some (some (.ref (He.ga K "_law_rule"))))
def ck43 (K : Fr) : Bool := decide (PySem.W.keepIn K (.ref (He.ga K "_law_rule")) = true)
def ck44 (K : Fr) : Bool := decide (PySem.W.nsIn K mainGlobals "_law_what" = some (some (.ref (He.ga K "_law_what"))))
def ck45 (K : Fr) : Bool := decide (PySem.W.keepIn K (.ref (He.ga K "_law_what")) = true)
def ck46 (K : Fr) : Bool := decide (PySem.W.nsIn K mainGlobals "_law_wrong_rules" = some (some (.ref (He.ga K "_law_wrong_rules"))))
def ck47 (K : Fr) : Bool := decide (PySem.W.keepIn K (.ref (He.ga K "_law_wrong_rules")) = true)
def ck48 (K : Fr) : Bool := decide (PySem.W.nsIn K mainGlobals "_law_wrong_loose" = some (some (.ref (He.ga K "_law_wrong_loose"))))
def ck49 (K : Fr) : Bool := decide (PySem.W.keepIn K (.ref (He.ga K "_law_wrong_loose")) = true)
def ck50 (K : Fr) : Bool := decide (PySem.W.nsIn K mainGlobals "_law_wide" = some (some (.ref (He.ga K "_law_wide"))))
def ck51 (K : Fr) : Bool := decide (PySem.W.keepIn K (.ref (He.ga K "_law_wide")) = true)
def ck52 (K : Fr) : Bool := decide (PySem.W.nsIn K mainGlobals "law" = some (some (.ref (He.ga K "law"))))
def ck53 (K : Fr) : Bool := decide (PySem.W.keepIn K (.ref (He.ga K "law")) = true)
def ck54 (K : Fr) : Bool := decide (PySem.W.nsIn K mainGlobals "Counts" = some (some (.ref (He.ga K "Counts"))))
def ck55 (K : Fr) : Bool := decide (PySem.W.plainGet K (He.ga K "Counts") Str.empty = true)
def ck56 (K : Fr) : Bool := decide (PySem.W.hasDictIn K (He.ga K "Counts") = true)
def ck57 (K : Fr) : Bool := decide (PySem.W.plainOver K (He.ga K "Counts") = true)
def ck58 (K : Fr) : Bool := decide (PySem.W.findIn K (.ref (He.ga K "Counts")) "__setattr__" = some (some (.builtin "object.__setattr__")))
def ck59 (K : Fr) : Bool := decide (PySem.W.makesIn K (He.ga K "Counts") = true)
def ck60 (K : Fr) : Bool := decide (PySem.W.keepIn K (.ref (He.ga K "Counts")) = true)
def ck61 (K : Fr) : Bool := decide (PySem.W.noSeq K (He.ga K "Counts") = true)
def ck62 (K : Fr) : Bool := decide (PySem.W.findIn K (.ref (He.ga K "Counts")) "held" = some none)
def ck63 (K : Fr) : Bool := decide (PySem.W.selfFirst K (He.ga K "Counts") = true)
def ck64 (K : Fr) : Bool := decide (PySem.W.findIn K (.ref (He.ga K "Counts")) "__class__" = some (some (.builtin "object.__class__")))
def ck65 (K : Fr) : Bool := decide (PySem.W.specialIn K (.builtin "object.__class__") "__get__" = some (some (.builtin "getset_descriptor.__get__")))
def ck66 (K : Fr) : Bool := decide (PySem.W.takesIn K (.builtin "object.__class__") = some true)
def ck67 (K : Fr) : Bool := decide (PySem.W.mroIn K (He.ga K "Counts") (.type "object") = some true)
def ck68 (K : Fr) : Bool := decide (PySem.W.nsIn K mainGlobals "Rules" = some (some (.ref (He.ga K "Rules"))))
def ck69 (K : Fr) : Bool := decide (PySem.W.plainGet K (He.ga K "Rules") Str.empty = true)
def ck70 (K : Fr) : Bool := decide (PySem.W.hasDictIn K (He.ga K "Rules") = true)
def ck71 (K : Fr) : Bool := decide (PySem.W.plainOver K (He.ga K "Rules") = true)
def ck72 (K : Fr) : Bool := decide (PySem.W.findIn K (.ref (He.ga K "Rules")) "__setattr__" = some (some (.builtin "object.__setattr__")))
def ck73 (K : Fr) : Bool := decide (PySem.W.makesIn K (He.ga K "Rules") = true)
def ck74 (K : Fr) : Bool := decide (PySem.W.keepIn K (.ref (He.ga K "Rules")) = true)
def ck75 (K : Fr) : Bool := decide (PySem.W.noSeq K (He.ga K "Rules") = true)
def ck76 (K : Fr) : Bool := decide (PySem.W.findIn K (.ref (He.ga K "Rules")) "listed" = some none)
def ck77 (K : Fr) : Bool := decide (PySem.W.findIn K (.ref (He.ga K "Rules")) "kinds" = some none)
def ck78 (K : Fr) : Bool := decide (PySem.W.findIn K (.ref (He.ga K "Rules")) "loose" = some none)
def ck79 (K : Fr) : Bool := decide (PySem.W.findIn K (.ref (He.ga K "Rules")) "caps" = some none)
def ck80 (K : Fr) : Bool := decide (PySem.W.findIn K (.ref (He.ga K "Rules")) "every" = some none)
def ck81 (K : Fr) : Bool := decide (PySem.W.findIn K (.ref (He.ga K "Counts")) "__init__" = some (some (.ref (He.ma K (He.ga K "Counts") "__init__"))))
def ck82 (K : Fr) : Bool := decide (PySem.W.isFn K (.ref (He.ma K (He.ga K "Counts") "__init__")) = true)
def ck83 (K : Fr) : Bool := decide (PySem.W.keepIn K (.ref (He.ma K (He.ga K "Counts") "__init__")) = true)
def ck84 (K : Fr) : Bool := decide (PySem.W.nsIn K mainGlobals "BadRules" = some (some (.ref (He.ga K "BadRules"))))
def ck85 (K : Fr) : Bool := decide (PySem.W.findIn K (.ref (He.ga K "BadRules")) "__setattr__" = some (some (.builtin "object.__setattr__")))
def ck86 (K : Fr) : Bool := decide (PySem.W.subIn K (.ref (He.ga K "BadRules")) (.type "BaseException") = some true)
def ck87 (K : Fr) : Bool := decide (PySem.W.typeIn K (.ref (He.ga K "BadRules")) = some (.type "type"))
def ck88 (K : Fr) : Bool := decide (PySem.W.keepIn K (.ref (He.ga K "BadRules")) = true)
def ck89 (K : Fr) : Bool := decide (PySem.W.isClsIn K (He.ga K "BadRules") = true)
def ck90 (K : Fr) : Bool := decide (PySem.W.subIn K (.ref (He.ga K "BadRules")) (.ref (He.ga K "BadRules")) = some true)
def ck91 (K : Fr) : Bool := decide (PySem.W.findIn K (.ref (He.ga K "BadRules")) "what" = some none)
def ck92 (K : Fr) : Bool := decide (PySem.W.findIn K (.ref (He.ga K "BadRules")) "__init__" = some (some (.ref (He.ma K (He.ga K "BadRules") "__init__"))))
def ck93 (K : Fr) : Bool := decide (PySem.W.typeIn K (.ref (He.ma K (He.ga K "BadRules") "__init__")) = some (.type "function"))
def ck94 (K : Fr) : Bool := decide (PySem.W.keepIn K (.ref (He.ma K (He.ga K "BadRules") "__init__")) = true)
def ck95 (K : Fr) : Bool := strB K "LETTERS" LET
def ck96 (K : Fr) : Bool := decide (PySem.W.nsIn K mainGlobals "Rule" = some (some (.ref (He.ga K "Rule"))))
def ck97 (K : Fr) : Bool := decide (PySem.W.isClsIn K (He.ga K "Rule") = true)
def ck98 (K : Fr) : Bool := decide (PySem.W.typeIn K (.ref (He.ga K "Rule")) = some (.type "type"))
def ck99 (K : Fr) : Bool := decide (PySem.W.findIn K (.ref (He.ga K "Rule")) "__init__" = some (some (.ref (He.ma K (He.ga K "Rule") "__init__"))))
def ck100 (K : Fr) : Bool := decide (PySem.W.typeIn K (.ref (He.ma K (He.ga K "Rule") "__init__")) = some (.type "function"))
def ck101 (K : Fr) : Bool := decide (PySem.W.fnIn K (He.ma K (He.ga K "Rule") "__init__") = true)
def ck102 (K : Fr) : Bool := decide (PySem.W.nsIn K mainGlobals "AtLeast" = some (some (.ref (He.ga K "AtLeast"))))
def ck103 (K : Fr) : Bool := decide (PySem.W.plainGet K (He.ga K "AtLeast") Str.empty = true)
def ck104 (K : Fr) : Bool := decide (PySem.W.hasDictIn K (He.ga K "AtLeast") = true)
def ck105 (K : Fr) : Bool := decide (PySem.W.plainOver K (He.ga K "AtLeast") = true)
def ck106 (K : Fr) : Bool := decide (PySem.W.findIn K (.ref (He.ga K "AtLeast")) "__setattr__" = some (some (.builtin "object.__setattr__")))
def ck107 (K : Fr) : Bool := decide (PySem.W.makesIn K (He.ga K "AtLeast") = true)
def ck108 (K : Fr) : Bool := decide (PySem.W.keepIn K (.ref (He.ga K "AtLeast")) = true)
def ck109 (K : Fr) : Bool := decide (PySem.W.findIn K (.ref (He.ga K "AtLeast")) "kinds" = some none)
def ck110 (K : Fr) : Bool := decide (PySem.W.findIn K (.ref (He.ga K "AtLeast")) "least" = some none)
def ck111 (K : Fr) : Bool := decide (PySem.W.findIn K (.ref (He.ga K "AtLeast")) "most" = some none)
def ck112 (K : Fr) : Bool := decide (PySem.W.findIn K (.ref (He.ga K "AtLeast")) "__class__" = some (some (.builtin "object.__class__")))
def ck113 (K : Fr) : Bool := decide (PySem.W.mroIn K (He.ga K "AtLeast") (.type "object") = some true)
def ck114 (K : Fr) : Bool := decide (PySem.W.isClsIn K (He.ga K "AtLeast") = true)
def ck115 (K : Fr) : Bool := decide (PySem.W.typeIn K (.ref (He.ga K "AtLeast")) = some (.type "type"))
def ck116 (K : Fr) : Bool := decide (PySem.W.findIn K (.ref (He.ga K "AtLeast")) "__init__" = some (some (.ref (He.ma K (He.ga K "AtLeast") "__init__"))))
def ck117 (K : Fr) : Bool := decide (PySem.W.isFn K (.ref (He.ma K (He.ga K "AtLeast") "__init__")) = true)
def ck118 (K : Fr) : Bool := decide (PySem.W.typeIn K (.ref (He.ma K (He.ga K "AtLeast") "__init__")) = some (.type "function"))
def ck119 (K : Fr) : Bool := decide (PySem.W.fnIn K (He.ma K (He.ga K "AtLeast") "__init__") = true)
def ck120 (K : Fr) : Bool := decide (PySem.W.nsIn K mainGlobals "AtMost" = some (some (.ref (He.ga K "AtMost"))))
def ck121 (K : Fr) : Bool := decide (PySem.W.plainGet K (He.ga K "AtMost") Str.empty = true)
def ck122 (K : Fr) : Bool := decide (PySem.W.hasDictIn K (He.ga K "AtMost") = true)
def ck123 (K : Fr) : Bool := decide (PySem.W.plainOver K (He.ga K "AtMost") = true)
def ck124 (K : Fr) : Bool := decide (PySem.W.findIn K (.ref (He.ga K "AtMost")) "__setattr__" = some (some (.builtin "object.__setattr__")))
def ck125 (K : Fr) : Bool := decide (PySem.W.makesIn K (He.ga K "AtMost") = true)
def ck126 (K : Fr) : Bool := decide (PySem.W.keepIn K (.ref (He.ga K "AtMost")) = true)
def ck127 (K : Fr) : Bool := decide (PySem.W.findIn K (.ref (He.ga K "AtMost")) "kinds" = some none)
def ck128 (K : Fr) : Bool := decide (PySem.W.findIn K (.ref (He.ga K "AtMost")) "least" = some none)
def ck129 (K : Fr) : Bool := decide (PySem.W.findIn K (.ref (He.ga K "AtMost")) "most" = some none)
def ck130 (K : Fr) : Bool := decide (PySem.W.findIn K (.ref (He.ga K "AtMost")) "__class__" = some (some (.builtin "object.__class__")))
def ck131 (K : Fr) : Bool := decide (PySem.W.mroIn K (He.ga K "AtMost") (.type "object") = some true)
def ck132 (K : Fr) : Bool := decide (PySem.W.isClsIn K (He.ga K "AtMost") = true)
def ck133 (K : Fr) : Bool := decide (PySem.W.typeIn K (.ref (He.ga K "AtMost")) = some (.type "type"))
def ck134 (K : Fr) : Bool := decide (PySem.W.findIn K (.ref (He.ga K "AtMost")) "__init__" = some (some (.ref (He.ma K (He.ga K "AtMost") "__init__"))))
def ck135 (K : Fr) : Bool := decide (PySem.W.isFn K (.ref (He.ma K (He.ga K "AtMost") "__init__")) = true)
def ck136 (K : Fr) : Bool := decide (PySem.W.typeIn K (.ref (He.ma K (He.ga K "AtMost") "__init__")) = some (.type "function"))
def ck137 (K : Fr) : Bool := decide (PySem.W.fnIn K (He.ma K (He.ga K "AtMost") "__init__") = true)
def ck138 (K : Fr) : Bool := decide (PySem.W.nsIn K mainGlobals "Between" = some (some (.ref (He.ga K "Between"))))
def ck139 (K : Fr) : Bool := decide (PySem.W.plainGet K (He.ga K "Between") Str.empty = true)
def ck140 (K : Fr) : Bool := decide (PySem.W.hasDictIn K (He.ga K "Between") = true)
def ck141 (K : Fr) : Bool := decide (PySem.W.plainOver K (He.ga K "Between") = true)
def ck142 (K : Fr) : Bool := decide (PySem.W.findIn K (.ref (He.ga K "Between")) "__setattr__" = some (some (.builtin "object.__setattr__")))
def ck143 (K : Fr) : Bool := decide (PySem.W.makesIn K (He.ga K "Between") = true)
def ck144 (K : Fr) : Bool := decide (PySem.W.keepIn K (.ref (He.ga K "Between")) = true)
def ck145 (K : Fr) : Bool := decide (PySem.W.findIn K (.ref (He.ga K "Between")) "kinds" = some none)
def ck146 (K : Fr) : Bool := decide (PySem.W.findIn K (.ref (He.ga K "Between")) "least" = some none)
def ck147 (K : Fr) : Bool := decide (PySem.W.findIn K (.ref (He.ga K "Between")) "most" = some none)
def ck148 (K : Fr) : Bool := decide (PySem.W.findIn K (.ref (He.ga K "Between")) "__class__" = some (some (.builtin "object.__class__")))
def ck149 (K : Fr) : Bool := decide (PySem.W.mroIn K (He.ga K "Between") (.type "object") = some true)
def ck150 (K : Fr) : Bool := decide (PySem.W.isClsIn K (He.ga K "Between") = true)
def ck151 (K : Fr) : Bool := decide (PySem.W.typeIn K (.ref (He.ga K "Between")) = some (.type "type"))
def ck152 (K : Fr) : Bool := decide (PySem.W.findIn K (.ref (He.ga K "Between")) "__init__" = some (some (.ref (He.ma K (He.ga K "Between") "__init__"))))
def ck153 (K : Fr) : Bool := decide (PySem.W.isFn K (.ref (He.ma K (He.ga K "Between") "__init__")) = true)
def ck154 (K : Fr) : Bool := decide (PySem.W.typeIn K (.ref (He.ma K (He.ga K "Between") "__init__")) = some (.type "function"))
def ck155 (K : Fr) : Bool := decide (PySem.W.fnIn K (He.ma K (He.ga K "Between") "__init__") = true)
def ck156 (K : Fr) : Bool := decide (PySem.W.nsIn K mainGlobals "Exactly" = some (some (.ref (He.ga K "Exactly"))))
def ck157 (K : Fr) : Bool := decide (PySem.W.plainGet K (He.ga K "Exactly") Str.empty = true)
def ck158 (K : Fr) : Bool := decide (PySem.W.hasDictIn K (He.ga K "Exactly") = true)
def ck159 (K : Fr) : Bool := decide (PySem.W.plainOver K (He.ga K "Exactly") = true)
def ck160 (K : Fr) : Bool := decide (PySem.W.findIn K (.ref (He.ga K "Exactly")) "__setattr__" = some (some (.builtin "object.__setattr__")))
def ck161 (K : Fr) : Bool := decide (PySem.W.makesIn K (He.ga K "Exactly") = true)
def ck162 (K : Fr) : Bool := decide (PySem.W.keepIn K (.ref (He.ga K "Exactly")) = true)
def ck163 (K : Fr) : Bool := decide (PySem.W.findIn K (.ref (He.ga K "Exactly")) "kinds" = some none)
def ck164 (K : Fr) : Bool := decide (PySem.W.findIn K (.ref (He.ga K "Exactly")) "least" = some none)
def ck165 (K : Fr) : Bool := decide (PySem.W.findIn K (.ref (He.ga K "Exactly")) "most" = some none)
def ck166 (K : Fr) : Bool := decide (PySem.W.findIn K (.ref (He.ga K "Exactly")) "__class__" = some (some (.builtin "object.__class__")))
def ck167 (K : Fr) : Bool := decide (PySem.W.mroIn K (He.ga K "Exactly") (.type "object") = some true)
def ck168 (K : Fr) : Bool := decide (PySem.W.isClsIn K (He.ga K "Exactly") = true)
def ck169 (K : Fr) : Bool := decide (PySem.W.typeIn K (.ref (He.ga K "Exactly")) = some (.type "type"))
def ck170 (K : Fr) : Bool := decide (PySem.W.findIn K (.ref (He.ga K "Exactly")) "__init__" = some (some (.ref (He.ma K (He.ga K "Exactly") "__init__"))))
def ck171 (K : Fr) : Bool := decide (PySem.W.isFn K (.ref (He.ma K (He.ga K "Exactly") "__init__")) = true)
def ck172 (K : Fr) : Bool := decide (PySem.W.typeIn K (.ref (He.ma K (He.ga K "Exactly") "__init__")) = some (.type "function"))
def ck173 (K : Fr) : Bool := decide (PySem.W.fnIn K (He.ma K (He.ga K "Exactly") "__init__") = true)
def ck174 (K : Fr) : Bool := decide (PySem.W.specialIn K (.builtin "object.__class__") "__get__" = some (some (.builtin "getset_descriptor.__get__")))
def ck175 (K : Fr) : Bool := decide (PySem.W.takesIn K (.builtin "object.__class__") = some true)
def ck176 (K : Fr) : Bool := decide (PySem.W.subIn K (.ref (He.ga K "AtLeast")) (.ref (He.ga K "Rule")) = some true)
def ck177 (K : Fr) : Bool := decide (PySem.W.subIn K (.ref (He.ga K "AtLeast")) (.ref (He.ga K "AtMost")) = some false)
def ck178 (K : Fr) : Bool := decide ((He.ga K "AtLeast") ≠ (He.ga K "AtMost"))
def ck179 (K : Fr) : Bool := decide (PySem.W.subIn K (.ref (He.ga K "AtLeast")) (.ref (He.ga K "Between")) = some false)
def ck180 (K : Fr) : Bool := decide ((He.ga K "AtLeast") ≠ (He.ga K "Between"))
def ck181 (K : Fr) : Bool := decide (PySem.W.subIn K (.ref (He.ga K "AtLeast")) (.ref (He.ga K "Exactly")) = some false)
def ck182 (K : Fr) : Bool := decide ((He.ga K "AtLeast") ≠ (He.ga K "Exactly"))
def ck183 (K : Fr) : Bool := decide (PySem.W.subIn K (.ref (He.ga K "AtMost")) (.ref (He.ga K "Rule")) = some true)
def ck184 (K : Fr) : Bool := decide (PySem.W.subIn K (.ref (He.ga K "AtMost")) (.ref (He.ga K "AtLeast")) = some false)
def ck185 (K : Fr) : Bool := decide ((He.ga K "AtMost") ≠ (He.ga K "AtLeast"))
def ck186 (K : Fr) : Bool := decide (PySem.W.subIn K (.ref (He.ga K "AtMost")) (.ref (He.ga K "Between")) = some false)
def ck187 (K : Fr) : Bool := decide ((He.ga K "AtMost") ≠ (He.ga K "Between"))
def ck188 (K : Fr) : Bool := decide (PySem.W.subIn K (.ref (He.ga K "AtMost")) (.ref (He.ga K "Exactly")) = some false)
def ck189 (K : Fr) : Bool := decide ((He.ga K "AtMost") ≠ (He.ga K "Exactly"))
def ck190 (K : Fr) : Bool := decide (PySem.W.subIn K (.ref (He.ga K "Between")) (.ref (He.ga K "Rule")) = some true)
def ck191 (K : Fr) : Bool := decide (PySem.W.subIn K (.ref (He.ga K "Between")) (.ref (He.ga K "AtLeast")) = some true)
def ck192 (K : Fr) : Bool := decide ((He.ga K "Between") ≠ (He.ga K "AtLeast"))
def ck193 (K : Fr) : Bool := decide (PySem.W.subIn K (.ref (He.ga K "Between")) (.ref (He.ga K "AtMost")) = some true)
def ck194 (K : Fr) : Bool := decide ((He.ga K "Between") ≠ (He.ga K "AtMost"))
def ck195 (K : Fr) : Bool := decide (PySem.W.subIn K (.ref (He.ga K "Between")) (.ref (He.ga K "Exactly")) = some false)
def ck196 (K : Fr) : Bool := decide ((He.ga K "Between") ≠ (He.ga K "Exactly"))
def ck197 (K : Fr) : Bool := decide (PySem.W.subIn K (.ref (He.ga K "Exactly")) (.ref (He.ga K "Rule")) = some true)
def ck198 (K : Fr) : Bool := decide (PySem.W.subIn K (.ref (He.ga K "Exactly")) (.ref (He.ga K "AtLeast")) = some true)
def ck199 (K : Fr) : Bool := decide ((He.ga K "Exactly") ≠ (He.ga K "AtLeast"))
def ck200 (K : Fr) : Bool := decide (PySem.W.subIn K (.ref (He.ga K "Exactly")) (.ref (He.ga K "AtMost")) = some true)
def ck201 (K : Fr) : Bool := decide ((He.ga K "Exactly") ≠ (He.ga K "AtMost"))
def ck202 (K : Fr) : Bool := decide (PySem.W.subIn K (.ref (He.ga K "Exactly")) (.ref (He.ga K "Between")) = some true)
def ck203 (K : Fr) : Bool := decide ((He.ga K "Exactly") ≠ (He.ga K "Between"))
def ck204 (K : Fr) : Bool := decide (PySem.W.mroIn K (He.ga K "AtLeast") (.ref (He.ga K "AtLeast")) = some true)
def ck205 (K : Fr) : Bool := decide (PySem.W.ks_superIn K (He.ga K "AtLeast") (He.ga K "AtLeast") "__init__" = some (some (.ref (He.ma K (He.ga K "Rule") "__init__"))))
def ck206 (K : Fr) : Bool := decide (PySem.W.mroIn K (He.ga K "AtMost") (.ref (He.ga K "AtMost")) = some true)
def ck207 (K : Fr) : Bool := decide (PySem.W.ks_superIn K (He.ga K "AtMost") (He.ga K "AtMost") "__init__" = some (some (.ref (He.ma K (He.ga K "Rule") "__init__"))))
def ck208 (K : Fr) : Bool := decide (PySem.W.mroIn K (He.ga K "Between") (.ref (He.ga K "Between")) = some true)
def ck209 (K : Fr) : Bool := decide (PySem.W.ks_superIn K (He.ga K "Between") (He.ga K "Between") "__init__" = some (some (.ref (He.ma K (He.ga K "AtLeast") "__init__"))))
def ck210 (K : Fr) : Bool := decide (PySem.W.mroIn K (He.ga K "Between") (.ref (He.ga K "AtLeast")) = some true)
def ck211 (K : Fr) : Bool := decide (PySem.W.ks_superIn K (He.ga K "Between") (He.ga K "AtLeast") "__init__" = some (some (.ref (He.ma K (He.ga K "AtMost") "__init__"))))
def ck212 (K : Fr) : Bool := decide (PySem.W.mroIn K (He.ga K "Between") (.ref (He.ga K "AtMost")) = some true)
def ck213 (K : Fr) : Bool := decide (PySem.W.ks_superIn K (He.ga K "Between") (He.ga K "AtMost") "__init__" = some (some (.ref (He.ma K (He.ga K "Rule") "__init__"))))
def ck214 (K : Fr) : Bool := decide (PySem.W.mroIn K (He.ga K "Exactly") (.ref (He.ga K "Exactly")) = some true)
def ck215 (K : Fr) : Bool := decide (PySem.W.ks_superIn K (He.ga K "Exactly") (He.ga K "Exactly") "__init__" = some (some (.ref (He.ma K (He.ga K "Between") "__init__"))))
def ck216 (K : Fr) : Bool := decide (PySem.W.mroIn K (He.ga K "Exactly") (.ref (He.ga K "Between")) = some true)
def ck217 (K : Fr) : Bool := decide (PySem.W.ks_superIn K (He.ga K "Exactly") (He.ga K "Between") "__init__" = some (some (.ref (He.ma K (He.ga K "AtLeast") "__init__"))))
def ck218 (K : Fr) : Bool := decide (PySem.W.mroIn K (He.ga K "Exactly") (.ref (He.ga K "AtLeast")) = some true)
def ck219 (K : Fr) : Bool := decide (PySem.W.ks_superIn K (He.ga K "Exactly") (He.ga K "AtLeast") "__init__" = some (some (.ref (He.ma K (He.ga K "AtMost") "__init__"))))
def ck220 (K : Fr) : Bool := decide (PySem.W.mroIn K (He.ga K "Exactly") (.ref (He.ga K "AtMost")) = some true)
def ck221 (K : Fr) : Bool := decide (PySem.W.ks_superIn K (He.ga K "Exactly") (He.ga K "AtMost") "__init__" = some (some (.ref (He.ma K (He.ga K "Rule") "__init__"))))
def ck222 (K : Fr) : Bool := decide (PySem.W.nsIn K mainGlobals "super" = some none)
def ck223 (K : Fr) : Bool := decide (PySem.W.nsIn K cStatics "thirdparty.any" = some none)
def ck224 (K : Fr) : Bool := decide (PySem.W.nsIn K mainGlobals "RESERVED" = some (some (.ref (He.ga K "RESERVED"))))
def ck225 (K : Fr) : Bool := He.tupB K "RESERVED" (RES.map He.Dv.str)
def ck226 (K : Fr) : Bool := decide (PySem.W.recIn K (cmQ K (He.ga K "Rules") "of") "classmethod" = some (.ref (cmF K (He.ga K "Rules") "of" "classmethod") :: (cmR K (He.ga K "Rules") "of" "classmethod")))
def ck227 (K : Fr) : Bool := decide (PySem.W.fnIn K (cmF K (He.ga K "Rules") "of" "classmethod") = true)
def ck228 (K : Fr) : Bool := decide (PySem.W.keepIn K (.ref (cmF K (He.ga K "Rules") "of" "classmethod")) = true)
def ck229 (K : Fr) : Bool := decide (PySem.W.readsIn K (He.ga K "Rules") (.type "type") = true)
def ck230 (K : Fr) : Bool := decide (PySem.W.specialIn K (.ref (He.ga K "Rules")) "__getattribute__" = some (some (.builtin "type.__getattribute__")))
def ck231 (K : Fr) : Bool := decide (PySem.W.findIn K (.ref (He.ga K "Rules")) "__init__" = some (some (.ref (He.ma K (He.ga K "Rules") "__init__"))))
def ck232 (K : Fr) : Bool := decide (PySem.W.isFn K (.ref (He.ma K (He.ga K "Rules") "__init__")) = true)
def ck233 (K : Fr) : Bool := decide (PySem.W.findIn K (.ref (He.ga K "BadRules")) "__getattribute__" = some (some (.builtin "BaseException.__getattribute__")))
def ck234 (K : Fr) : Bool := decide (PySem.W.findIn K (.ref (He.ga K "BadRules")) "__getattr__" = some none)
def ck235 (K : Fr) : Bool := decide (PySem.W.hasDictIn K (He.ga K "BadRules") = true)
def ck236 (K : Fr) : Bool := decide (PySem.W.findIn K (.ref (He.ga K "BadRules")) "__class__" = some (some (.builtin "object.__class__")))
def ck237 (K : Fr) : Bool := decide (PySem.W.mroIn K (He.ga K "BadRules") (.type "object") = some true)
def ck238 (K : Fr) : Bool := decide (PySem.W.nsIn K mainGlobals "CountsheldError" = some (some (.ref (He.ga K "CountsheldError"))))
def ck239 (K : Fr) : Bool := decide (PySem.W.nsIn K mainGlobals "BadRule" = some (some (.ref (He.ga K "BadRule"))))
def ck240 (K : Fr) : Bool := decide (PySem.W.kitOne K (.ref (He.ga K "BadRules")) (.ref (He.ga K "CountsheldError")) = some true)
def ck241 (K : Fr) : Bool := decide (PySem.W.kitOne K (.ref (He.ga K "BadRules")) (.ref (He.ga K "BadRule")) = some false)
def ck242 (K : Fr) : Bool := decide (PySem.W.kitOne K (.ref (He.ga K "Counts")) (.ref (He.ga K "Rule")) = some false)
def ck243 (K : Fr) : Bool := decide (PySem.W.kitOne K (.type "NoneType") (.ref (He.ga K "Rule")) = some false)
def ck244 (K : Fr) : Bool := decide (PySem.W.kitOne K (.type "bool") (.ref (He.ga K "Rule")) = some false)
def ck245 (K : Fr) : Bool := decide (PySem.W.kitOne K (.type "int") (.ref (He.ga K "Rule")) = some false)
def ck246 (K : Fr) : Bool := decide (PySem.W.kitOne K (.type "list") (.ref (He.ga K "Rule")) = some false)
def ck247 (K : Fr) : Bool := decide (PySem.W.kitOne K (.type "tuple") (.ref (He.ga K "Rule")) = some false)
def ck248 (K : Fr) : Bool := decide (PySem.W.kitOne K (.type "str") (.ref (He.ga K "Rule")) = some false)
def ck249 (K : Fr) : Bool := decide (PySem.W.nsIn K mainGlobals "len" = some none)
def ck250 (K : Fr) : Bool := decide (PySem.W.nsIn K mainGlobals "int" = some none)
def ck251 (K : Fr) : Bool := decide (PySem.W.nsIn K mainGlobals "abs" = some none)
def ck252 (K : Fr) : Bool := decide (PySem.W.nsIn K mainGlobals "list" = some none)
def ck253 (K : Fr) : Bool := decide (PySem.W.nsIn K mainGlobals "range" = some none)
def ck254 (K : Fr) : Bool := decide (PySem.W.nsIn K mainGlobals "sorted" = some none)
def ck255 (K : Fr) : Bool := decide (PySem.W.nsIn K mainGlobals "str" = some none)
def ck256 (K : Fr) : Bool := decide (PySem.W.nsIn K mainGlobals "isinstance" = some none)
def ck257 (K : Fr) : Bool := decide (PySem.W.nsIn K mainGlobals "sum" = some none)
def ck258 (K : Fr) : Bool := decide (PySem.W.nsIn K mainGlobals "tuple" = some none)
def ck259 (K : Fr) : Bool := decide (PySem.W.nsIn K mainGlobals "dict" = some none)
def ck260 (K : Fr) : Bool := decide (PySem.W.nsIn K mainGlobals "all" = some none)
def ck261 (K : Fr) : Bool := decide (PySem.W.nsIn K mainGlobals "bool" = some none)
def ck262 (K : Fr) : Bool := decide (PySem.W.nsIn K mainGlobals "enumerate" = some none)
def ck263 (K : Fr) : Bool := decide (PySem.W.nsIn K mainGlobals "min" = some none)
def ck264 (K : Fr) : Bool := decide (PySem.W.nsIn K mainGlobals "zip" = some none)
def cks_0 : List (Fr → Bool) := [ck0, ck1, ck2, ck3, ck4, ck5, ck6, ck7, ck8, ck9, ck10, ck11, ck12, ck13, ck14, ck15, ck16, ck17, ck18, ck19, ck20, ck21, ck22, ck23, ck24, ck25, ck26, ck27, ck28, ck29]
def cks_1 : List (Fr → Bool) := [ck30, ck31, ck32, ck33, ck34, ck35, ck36, ck37, ck38, ck39, ck40, ck41, ck42, ck43, ck44, ck45, ck46, ck47, ck48, ck49, ck50, ck51, ck52, ck53, ck54, ck55, ck56, ck57, ck58, ck59]
def cks_2 : List (Fr → Bool) := [ck60, ck61, ck62, ck63, ck64, ck65, ck66, ck67, ck68, ck69, ck70, ck71, ck72, ck73, ck74, ck75, ck76, ck77, ck78, ck79, ck80, ck81, ck82, ck83, ck84, ck85, ck86, ck87, ck88, ck89]
def cks_3 : List (Fr → Bool) := [ck90, ck91, ck92, ck93, ck94, ck95, ck96, ck97, ck98, ck99, ck100, ck101, ck102, ck103, ck104, ck105, ck106, ck107, ck108, ck109, ck110, ck111, ck112, ck113, ck114, ck115, ck116, ck117, ck118, ck119]
def cks_4 : List (Fr → Bool) := [ck120, ck121, ck122, ck123, ck124, ck125, ck126, ck127, ck128, ck129, ck130, ck131, ck132, ck133, ck134, ck135, ck136, ck137, ck138, ck139, ck140, ck141, ck142, ck143, ck144, ck145, ck146, ck147, ck148, ck149]
def cks_5 : List (Fr → Bool) := [ck150, ck151, ck152, ck153, ck154, ck155, ck156, ck157, ck158, ck159, ck160, ck161, ck162, ck163, ck164, ck165, ck166, ck167, ck168, ck169, ck170, ck171, ck172, ck173, ck174, ck175, ck176, ck177, ck178, ck179]
def cks_6 : List (Fr → Bool) := [ck180, ck181, ck182, ck183, ck184, ck185, ck186, ck187, ck188, ck189, ck190, ck191, ck192, ck193, ck194, ck195, ck196, ck197, ck198, ck199, ck200, ck201, ck202, ck203, ck204, ck205, ck206, ck207, ck208, ck209]
def cks_7 : List (Fr → Bool) := [ck210, ck211, ck212, ck213, ck214, ck215, ck216, ck217, ck218, ck219, ck220, ck221, ck222, ck223, ck224, ck225, ck226, ck227, ck228, ck229, ck230, ck231, ck232, ck233, ck234, ck235, ck236, ck237, ck238, ck239]
def cks_8 : List (Fr → Bool) := [ck240, ck241, ck242, ck243, ck244, ck245, ck246, ck247, ck248, ck249, ck250, ck251, ck252, ck253, ck254, ck255, ck256, ck257, ck258, ck259, ck260, ck261, ck262, ck263, ck264]
def cks : List (Fr → Bool) := cks_0 ++ (cks_1 ++ (cks_2 ++ (cks_3 ++ (cks_4 ++ (cks_5 ++ (cks_6 ++ (cks_7 ++ (cks_8))))))))
def fns_0 : List FnA := [fd0, fd1, fd2, fd3, fd4, fd5, fd6, fd7, fd8, fd9, fd10, fd11, fd12, fd13, fd14, fd15, fd16, fd17, fd18, fd19, fd20, fd21, fd22, fd23, fd24, fd25, fd26, fd27, fd28, fd29]
def fns_1 : List FnA := [fd30, fd31]
def fns : List FnA := fns_0 ++ (fns_1)
def nms_0 : List Str := ["_wall", "__name__", "CountsheldError", "BadWord", "BadNumber", "BadCounts", "BadRule", "BadRules", "NoDivisor", "is_integer", "LETTERS", "RESERVED", "is_word", "is_kind", "is_small", "distinct", "is_pair", "joint_words", "Counts", "is_bound", "Rule", "AtLeast", "AtMost", "Between", "Exactly", "caps_of", "all_numbers", "is_within", "with_numbers", "Rules"]
def nms_1 : List Str := ["_law_source", "_law_mixed", "_law_draw", "_law_kind", "_law_kinds", "_law_four", "_law_ends", "_law_rows", "_law_rule", "_law_bounds", "_law_cap", "_law_broken", "_law_what", "_law_wrong_rules", "_law_wrong_loose", "_law_wide"]
def nms : List Str := nms_0 ++ (nms_1)
abbrev hkK : PySem.W.Hook := hookK 8 cks fns
def obT (s : PySem.W.SharedT) : AlK := obsKG 8 cks fns (HandSHeadRun.getT s)
theorem obT_eq (s : PySem.W.SharedT) : obT s = hkK.obs s.abs := obsKG_eq (HandSHeadRun.getT_eq s)
set_option maxHeartbeats 0 in
theorem runK (w : World) : HandSHeadRun.RunEq R0 (PySem.W.view R0.prog [51]) hkK obT 60000 nms w := by
  intro os
  kernel_rfl
theorem factsK {w : World} {K : Fr} {h : Heap} {mg : Str → Option Value} {fa : Addr} (X : K.In h) (G : h.Ns mainGlobals mg) (hfa : mg "law" = some (.ref fa)) (c : SaysK cks fns K) : ∃ fd : FuncData, (∀ (s : Shared) (v : Value), BindsTo s fd ⟨[v], []⟩ [("_law_script", v)]) ∧ ∀ base : Heap, K.In base → base.Ns mainGlobals mg → FnOk (PySem.Challenge.rw_countsheld_k19_sets_of_rules_refused).prog w K mg base CX0 11 fa fd ["_law_script"] (spLawR K) := by
  obtain ⟨oc_isint, od_isint, sl_isint, kV_isint, dc_isint, pm_isint, an_isint, cd_isint, ct_isint, l_isint, c_isint⟩ := c.fn 0 (d := fd0) rfl rfl
  obtain ⟨oc_isword, od_isword, sl_isword, kV_isword, dc_isword, pm_isword, an_isword, cd_isword, ct_isword, l_isword, c_isword⟩ := c.fn 1 (d := fd1) rfl rfl
  obtain ⟨oc_issmall, od_issmall, sl_issmall, kV_issmall, dc_issmall, pm_issmall, an_issmall, cd_issmall, ct_issmall, l_issmall, c_issmall⟩ := c.fn 2 (d := fd2) rfl rfl
  obtain ⟨oc_ispair, od_ispair, sl_ispair, kV_ispair, dc_ispair, pm_ispair, an_ispair, cd_ispair, ct_ispair, l_ispair, c_ispair⟩ := c.fn 3 (d := fd3) rfl rfl
  obtain ⟨oc_source, od_source, sl_source, kV_source, dc_source, pm_source, an_source, cd_source, ct_source, l_source, c_source⟩ := c.fn 4 (d := fd4) rfl rfl
  obtain ⟨oc_mixed, od_mixed, sl_mixed, kV_mixed, dc_mixed, pm_mixed, an_mixed, cd_mixed, ct_mixed, l_mixed, c_mixed⟩ := c.fn 5 (d := fd5) rfl rfl
  obtain ⟨oc_draw, od_draw, sl_draw, kV_draw, dc_draw, pm_draw, an_draw, cd_draw, ct_draw, l_draw, c_draw⟩ := c.fn 6 (d := fd6) rfl rfl
  obtain ⟨oc_distinct, od_distinct, sl_distinct, kV_distinct, dc_distinct, pm_distinct, an_distinct, cd_distinct, ct_distinct, l_distinct, c_distinct⟩ := c.fn 7 (d := fd7) rfl rfl
  obtain ⟨oc_iskind, od_iskind, sl_iskind, kV_iskind, dc_iskind, pm_iskind, an_iskind, cd_iskind, ct_iskind, l_iskind, c_iskind⟩ := c.fn 8 (d := fd8) rfl rfl
  obtain ⟨oc_isbound, od_isbound, sl_isbound, kV_isbound, dc_isbound, pm_isbound, an_isbound, cd_isbound, ct_isbound, l_isbound, c_isbound⟩ := c.fn 9 (d := fd9) rfl rfl
  obtain ⟨oc_kind, od_kind, sl_kind, kV_kind, dc_kind, pm_kind, an_kind, cd_kind, ct_kind, l_kind, c_kind⟩ := c.fn 10 (d := fd10) rfl rfl
  obtain ⟨oc_kinds, od_kinds, sl_kinds, kV_kinds, dc_kinds, pm_kinds, an_kinds, cd_kinds, ct_kinds, l_kinds, c_kinds⟩ := c.fn 11 (d := fd11) rfl rfl
  obtain ⟨oc_four, od_four, sl_four, kV_four, dc_four, pm_four, an_four, cd_four, ct_four, l_four, c_four⟩ := c.fn 12 (d := fd12) rfl rfl
  obtain ⟨oc_caps, od_caps, sl_caps, kV_caps, dc_caps, pm_caps, an_caps, cd_caps, ct_caps, l_caps, c_caps⟩ := c.fn 13 (d := fd13) rfl rfl
  obtain ⟨oc_alln, od_alln, sl_alln, kV_alln, dc_alln, pm_alln, an_alln, cd_alln, ct_alln, l_alln, c_alln⟩ := c.fn 14 (d := fd14) rfl rfl
  obtain ⟨oc_within, od_within, sl_within, kV_within, dc_within, pm_within, an_within, cd_within, ct_within, l_within, c_within⟩ := c.fn 15 (d := fd15) rfl rfl
  obtain ⟨oc_rows, od_rows, sl_rows, kV_rows, dc_rows, pm_rows, an_rows, cd_rows, ct_rows, l_rows, c_rows⟩ := c.fn 16 (d := fd16) rfl rfl
  obtain ⟨oc_rule, od_rule, sl_rule, kV_rule, dc_rule, pm_rule, an_rule, cd_rule, ct_rule, l_rule, c_rule⟩ := c.fn 17 (d := fd17) rfl rfl
  obtain ⟨oc_what, od_what, sl_what, kV_what, dc_what, pm_what, an_what, cd_what, ct_what, l_what, c_what⟩ := c.fn 18 (d := fd18) rfl rfl
  obtain ⟨oc_wrongr, od_wrongr, sl_wrongr, kV_wrongr, dc_wrongr, pm_wrongr, an_wrongr, cd_wrongr, ct_wrongr, l_wrongr, c_wrongr⟩ := c.fn 19 (d := fd19) rfl rfl
  obtain ⟨oc_wrongl, od_wrongl, sl_wrongl, kV_wrongl, dc_wrongl, pm_wrongl, an_wrongl, cd_wrongl, ct_wrongl, l_wrongl, c_wrongl⟩ := c.fn 20 (d := fd20) rfl rfl
  obtain ⟨oc_wide, od_wide, sl_wide, kV_wide, dc_wide, pm_wide, an_wide, cd_wide, ct_wide, l_wide, c_wide⟩ := c.fn 21 (d := fd21) rfl rfl
  obtain ⟨oc_law, od_law, sl_law, kV_law, dc_law, pm_law, an_law, cd_law, ct_law, l_law, c_law⟩ := c.fn 22 (d := fd22) rfl rfl
  obtain ⟨oc_init, od_init, sl_init, kV_init, dc_init, pm_init, an_init, cd_init, ct_init, l_init, c_init⟩ := c.fn 23 (d := fd23) rfl rfl
  obtain ⟨oc_xrs, od_xrs, sl_xrs, kV_xrs, dc_xrs, pm_xrs, an_xrs, cd_xrs, ct_xrs, l_xrs, c_xrs⟩ := c.fn 24 (d := fd24) rfl rfl
  obtain ⟨oc_iR, od_iR, sl_iR, kV_iR, dc_iR, pm_iR, an_iR, cd_iR, ct_iR, l_iR, c_iR⟩ := c.fn 25 (d := fd25) rfl rfl
  obtain ⟨oc_ial, od_ial, sl_ial, kV_ial, dc_ial, pm_ial, an_ial, cd_ial, ct_ial, cc_ial, l_ial, c_ial, ⟨cl1_ial, dd1_ial, sl1_ial, e_ial⟩, cl2_ial, dd2_ial, vs_ial, sl2_ial, file_ial, tk_ial, o_ial, v_ial, p_ial⟩ := c.fs 26 (d := fd26) rfl rfl (c.ck 0 (f := ck0) rfl)
  obtain ⟨oc_iam, od_iam, sl_iam, kV_iam, dc_iam, pm_iam, an_iam, cd_iam, ct_iam, cc_iam, l_iam, c_iam, ⟨cl1_iam, dd1_iam, sl1_iam, e_iam⟩, cl2_iam, dd2_iam, vs_iam, sl2_iam, file_iam, tk_iam, o_iam, v_iam, p_iam⟩ := c.fs 27 (d := fd27) rfl rfl (c.ck 1 (f := ck1) rfl)
  obtain ⟨oc_ibt, od_ibt, sl_ibt, kV_ibt, dc_ibt, pm_ibt, an_ibt, cd_ibt, ct_ibt, cc_ibt, l_ibt, c_ibt, ⟨cl1_ibt, dd1_ibt, sl1_ibt, e_ibt⟩, cl2_ibt, dd2_ibt, vs_ibt, sl2_ibt, file_ibt, tk_ibt, o_ibt, v_ibt, p_ibt⟩ := c.fs 28 (d := fd28) rfl rfl (c.ck 2 (f := ck2) rfl)
  obtain ⟨oc_iex, od_iex, sl_iex, kV_iex, dc_iex, pm_iex, an_iex, cd_iex, ct_iex, cc_iex, l_iex, c_iex, ⟨cl1_iex, dd1_iex, sl1_iex, e_iex⟩, cl2_iex, dd2_iex, vs_iex, sl2_iex, file_iex, tk_iex, o_iex, v_iex, p_iex⟩ := c.fs 29 (d := fd29) rfl rfl (c.ck 3 (f := ck3) rfl)
  obtain ⟨oc_rof, od_rof, sl_rof, dV_rof, kV_rof, dc_rof, pm_rof, an_rof, cd_rof, ct_rof, l_rof, c_rof⟩ := c.fnD 30 (d := fd30) rfl rfl
  obtain ⟨oc_riD, od_riD, sl_riD, kV_riD, dc_riD, pm_riD, an_riD, cd_riD, ct_riD, l_riD, c_riD⟩ := c.fn 31 (d := fd31) rfl rfl
  obtain ⟨tk_a_LET, h_a_LET⟩ := strB_ok (c.ck 95 (f := ck95) rfl)
  exact all_mk (l := PySem.Challenge.rw_countsheld_k19_sets_of_rules_refused) X G hfa (of_decide_eq_true (c.ck 8 (f := ck8) rfl)) l_isint c_isint (of_decide_eq_true (c.ck 9 (f := ck9) rfl)) (of_decide_eq_true (c.ck 10 (f := ck10) rfl)) l_isword c_isword (of_decide_eq_true (c.ck 11 (f := ck11) rfl)) (of_decide_eq_true (c.ck 12 (f := ck12) rfl)) l_issmall c_issmall (of_decide_eq_true (c.ck 13 (f := ck13) rfl)) (of_decide_eq_true (c.ck 14 (f := ck14) rfl)) l_ispair c_ispair (of_decide_eq_true (c.ck 15 (f := ck15) rfl)) (of_decide_eq_true (c.ck 16 (f := ck16) rfl)) l_source c_source (of_decide_eq_true (c.ck 17 (f := ck17) rfl)) (of_decide_eq_true (c.ck 18 (f := ck18) rfl)) l_mixed c_mixed (of_decide_eq_true (c.ck 19 (f := ck19) rfl)) (of_decide_eq_true (c.ck 20 (f := ck20) rfl)) l_draw c_draw (of_decide_eq_true (c.ck 21 (f := ck21) rfl)) (of_decide_eq_true (c.ck 22 (f := ck22) rfl)) l_distinct c_distinct (of_decide_eq_true (c.ck 23 (f := ck23) rfl)) (of_decide_eq_true (c.ck 24 (f := ck24) rfl)) l_iskind c_iskind (of_decide_eq_true (c.ck 25 (f := ck25) rfl)) (of_decide_eq_true (c.ck 26 (f := ck26) rfl)) l_isbound c_isbound (of_decide_eq_true (c.ck 27 (f := ck27) rfl)) (of_decide_eq_true (c.ck 28 (f := ck28) rfl)) l_kind c_kind (of_decide_eq_true (c.ck 29 (f := ck29) rfl)) (of_decide_eq_true (c.ck 30 (f := ck30) rfl)) l_kinds c_kinds (of_decide_eq_true (c.ck 31 (f := ck31) rfl)) (of_decide_eq_true (c.ck 32 (f := ck32) rfl)) l_four c_four (of_decide_eq_true (c.ck 33 (f := ck33) rfl)) (of_decide_eq_true (c.ck 34 (f := ck34) rfl)) l_caps c_caps (of_decide_eq_true (c.ck 35 (f := ck35) rfl)) (of_decide_eq_true (c.ck 36 (f := ck36) rfl)) l_alln c_alln (of_decide_eq_true (c.ck 37 (f := ck37) rfl)) (of_decide_eq_true (c.ck 38 (f := ck38) rfl)) l_within c_within (of_decide_eq_true (c.ck 39 (f := ck39) rfl)) (of_decide_eq_true (c.ck 40 (f := ck40) rfl)) l_rows c_rows (of_decide_eq_true (c.ck 41 (f := ck41) rfl)) (of_decide_eq_true (c.ck 42 (f := ck42) rfl)) l_rule c_rule (of_decide_eq_true (c.ck 43 (f := ck43) rfl)) (of_decide_eq_true (c.ck 44 (f := ck44) rfl)) l_what c_what (of_decide_eq_true (c.ck 45 (f := ck45) rfl)) (of_decide_eq_true (c.ck 46 (f := ck46) rfl)) l_wrongr c_wrongr (of_decide_eq_true (c.ck 47 (f := ck47) rfl)) (of_decide_eq_true (c.ck 48 (f := ck48) rfl)) l_wrongl c_wrongl (of_decide_eq_true (c.ck 49 (f := ck49) rfl)) (of_decide_eq_true (c.ck 50 (f := ck50) rfl)) l_wide c_wide (of_decide_eq_true (c.ck 51 (f := ck51) rfl)) (of_decide_eq_true (c.ck 52 (f := ck52) rfl)) l_law c_law (of_decide_eq_true (c.ck 53 (f := ck53) rfl)) (of_decide_eq_true (c.ck 54 (f := ck54) rfl)) (of_decide_eq_true (c.ck 55 (f := ck55) rfl)) (of_decide_eq_true (c.ck 56 (f := ck56) rfl)) (of_decide_eq_true (c.ck 57 (f := ck57) rfl)) (of_decide_eq_true (c.ck 58 (f := ck58) rfl)) (of_decide_eq_true (c.ck 59 (f := ck59) rfl)) (of_decide_eq_true (c.ck 60 (f := ck60) rfl)) (of_decide_eq_true (c.ck 61 (f := ck61) rfl)) (of_decide_eq_true (c.ck 62 (f := ck62) rfl)) (of_decide_eq_true (c.ck 63 (f := ck63) rfl)) (of_decide_eq_true (c.ck 64 (f := ck64) rfl)) (of_decide_eq_true (c.ck 65 (f := ck65) rfl)) (of_decide_eq_true (c.ck 66 (f := ck66) rfl)) (of_decide_eq_true (c.ck 67 (f := ck67) rfl)) (of_decide_eq_true (c.ck 68 (f := ck68) rfl)) (of_decide_eq_true (c.ck 69 (f := ck69) rfl)) (of_decide_eq_true (c.ck 70 (f := ck70) rfl)) (of_decide_eq_true (c.ck 71 (f := ck71) rfl)) (of_decide_eq_true (c.ck 72 (f := ck72) rfl)) (of_decide_eq_true (c.ck 73 (f := ck73) rfl)) (of_decide_eq_true (c.ck 74 (f := ck74) rfl)) (of_decide_eq_true (c.ck 75 (f := ck75) rfl)) (of_decide_eq_true (c.ck 76 (f := ck76) rfl)) (of_decide_eq_true (c.ck 77 (f := ck77) rfl)) (of_decide_eq_true (c.ck 78 (f := ck78) rfl)) (of_decide_eq_true (c.ck 79 (f := ck79) rfl)) (of_decide_eq_true (c.ck 80 (f := ck80) rfl)) (of_decide_eq_true (c.ck 81 (f := ck81) rfl)) (of_decide_eq_true (c.ck 82 (f := ck82) rfl)) l_init c_init (of_decide_eq_true (c.ck 83 (f := ck83) rfl)) (of_decide_eq_true (c.ck 84 (f := ck84) rfl)) (exoB_ok (c.ck 4 (f := ck4) rfl)) (of_decide_eq_true (c.ck 85 (f := ck85) rfl)) (of_decide_eq_true (c.ck 86 (f := ck86) rfl)) (of_decide_eq_true (c.ck 87 (f := ck87) rfl)) (of_decide_eq_true (c.ck 88 (f := ck88) rfl)) (of_decide_eq_true (c.ck 89 (f := ck89) rfl)) (of_decide_eq_true (c.ck 90 (f := ck90) rfl)) (of_decide_eq_true (c.ck 91 (f := ck91) rfl)) (of_decide_eq_true (c.ck 92 (f := ck92) rfl)) (of_decide_eq_true (c.ck 93 (f := ck93) rfl)) l_xrs c_xrs (of_decide_eq_true (c.ck 94 (f := ck94) rfl)) (h_a_LET) (of_decide_eq_true (c.ck 96 (f := ck96) rfl)) (of_decide_eq_true (c.ck 97 (f := ck97) rfl)) (of_decide_eq_true (c.ck 98 (f := ck98) rfl)) (of_decide_eq_true (c.ck 99 (f := ck99) rfl)) l_iR c_iR (of_decide_eq_true (c.ck 100 (f := ck100) rfl)) (of_decide_eq_true (c.ck 101 (f := ck101) rfl)) (of_decide_eq_true (c.ck 102 (f := ck102) rfl)) (of_decide_eq_true (c.ck 103 (f := ck103) rfl)) (of_decide_eq_true (c.ck 104 (f := ck104) rfl)) (of_decide_eq_true (c.ck 105 (f := ck105) rfl)) (of_decide_eq_true (c.ck 106 (f := ck106) rfl)) (of_decide_eq_true (c.ck 107 (f := ck107) rfl)) (of_decide_eq_true (c.ck 108 (f := ck108) rfl)) (of_decide_eq_true (c.ck 109 (f := ck109) rfl)) (of_decide_eq_true (c.ck 110 (f := ck110) rfl)) (of_decide_eq_true (c.ck 111 (f := ck111) rfl)) (of_decide_eq_true (c.ck 112 (f := ck112) rfl)) (of_decide_eq_true (c.ck 113 (f := ck113) rfl)) (of_decide_eq_true (c.ck 114 (f := ck114) rfl)) (of_decide_eq_true (c.ck 115 (f := ck115) rfl)) (of_decide_eq_true (c.ck 116 (f := ck116) rfl)) (of_decide_eq_true (c.ck 117 (f := ck117) rfl)) l_ial c_ial e_ial o_ial v_ial p_ial (of_decide_eq_true (c.ck 118 (f := ck118) rfl)) (of_decide_eq_true (c.ck 119 (f := ck119) rfl)) (of_decide_eq_true (c.ck 120 (f := ck120) rfl)) (of_decide_eq_true (c.ck 121 (f := ck121) rfl)) (of_decide_eq_true (c.ck 122 (f := ck122) rfl)) (of_decide_eq_true (c.ck 123 (f := ck123) rfl)) (of_decide_eq_true (c.ck 124 (f := ck124) rfl)) (of_decide_eq_true (c.ck 125 (f := ck125) rfl)) (of_decide_eq_true (c.ck 126 (f := ck126) rfl)) (of_decide_eq_true (c.ck 127 (f := ck127) rfl)) (of_decide_eq_true (c.ck 128 (f := ck128) rfl)) (of_decide_eq_true (c.ck 129 (f := ck129) rfl)) (of_decide_eq_true (c.ck 130 (f := ck130) rfl)) (of_decide_eq_true (c.ck 131 (f := ck131) rfl)) (of_decide_eq_true (c.ck 132 (f := ck132) rfl)) (of_decide_eq_true (c.ck 133 (f := ck133) rfl)) (of_decide_eq_true (c.ck 134 (f := ck134) rfl)) (of_decide_eq_true (c.ck 135 (f := ck135) rfl)) l_iam c_iam e_iam o_iam v_iam p_iam (of_decide_eq_true (c.ck 136 (f := ck136) rfl)) (of_decide_eq_true (c.ck 137 (f := ck137) rfl)) (of_decide_eq_true (c.ck 138 (f := ck138) rfl)) (of_decide_eq_true (c.ck 139 (f := ck139) rfl)) (of_decide_eq_true (c.ck 140 (f := ck140) rfl)) (of_decide_eq_true (c.ck 141 (f := ck141) rfl)) (of_decide_eq_true (c.ck 142 (f := ck142) rfl)) (of_decide_eq_true (c.ck 143 (f := ck143) rfl)) (of_decide_eq_true (c.ck 144 (f := ck144) rfl)) (of_decide_eq_true (c.ck 145 (f := ck145) rfl)) (of_decide_eq_true (c.ck 146 (f := ck146) rfl)) (of_decide_eq_true (c.ck 147 (f := ck147) rfl)) (of_decide_eq_true (c.ck 148 (f := ck148) rfl)) (of_decide_eq_true (c.ck 149 (f := ck149) rfl)) (of_decide_eq_true (c.ck 150 (f := ck150) rfl)) (of_decide_eq_true (c.ck 151 (f := ck151) rfl)) (of_decide_eq_true (c.ck 152 (f := ck152) rfl)) (of_decide_eq_true (c.ck 153 (f := ck153) rfl)) l_ibt c_ibt e_ibt o_ibt v_ibt p_ibt (of_decide_eq_true (c.ck 154 (f := ck154) rfl)) (of_decide_eq_true (c.ck 155 (f := ck155) rfl)) (of_decide_eq_true (c.ck 156 (f := ck156) rfl)) (of_decide_eq_true (c.ck 157 (f := ck157) rfl)) (of_decide_eq_true (c.ck 158 (f := ck158) rfl)) (of_decide_eq_true (c.ck 159 (f := ck159) rfl)) (of_decide_eq_true (c.ck 160 (f := ck160) rfl)) (of_decide_eq_true (c.ck 161 (f := ck161) rfl)) (of_decide_eq_true (c.ck 162 (f := ck162) rfl)) (of_decide_eq_true (c.ck 163 (f := ck163) rfl)) (of_decide_eq_true (c.ck 164 (f := ck164) rfl)) (of_decide_eq_true (c.ck 165 (f := ck165) rfl)) (of_decide_eq_true (c.ck 166 (f := ck166) rfl)) (of_decide_eq_true (c.ck 167 (f := ck167) rfl)) (of_decide_eq_true (c.ck 168 (f := ck168) rfl)) (of_decide_eq_true (c.ck 169 (f := ck169) rfl)) (of_decide_eq_true (c.ck 170 (f := ck170) rfl)) (of_decide_eq_true (c.ck 171 (f := ck171) rfl)) l_iex c_iex e_iex o_iex v_iex p_iex (of_decide_eq_true (c.ck 172 (f := ck172) rfl)) (of_decide_eq_true (c.ck 173 (f := ck173) rfl)) (of_decide_eq_true (c.ck 174 (f := ck174) rfl)) (of_decide_eq_true (c.ck 175 (f := ck175) rfl)) (of_decide_eq_true (c.ck 176 (f := ck176) rfl)) (of_decide_eq_true (c.ck 177 (f := ck177) rfl)) (of_decide_eq_true (c.ck 178 (f := ck178) rfl)) (of_decide_eq_true (c.ck 179 (f := ck179) rfl)) (of_decide_eq_true (c.ck 180 (f := ck180) rfl)) (of_decide_eq_true (c.ck 181 (f := ck181) rfl)) (of_decide_eq_true (c.ck 182 (f := ck182) rfl)) (of_decide_eq_true (c.ck 183 (f := ck183) rfl)) (of_decide_eq_true (c.ck 184 (f := ck184) rfl)) (of_decide_eq_true (c.ck 185 (f := ck185) rfl)) (of_decide_eq_true (c.ck 186 (f := ck186) rfl)) (of_decide_eq_true (c.ck 187 (f := ck187) rfl)) (of_decide_eq_true (c.ck 188 (f := ck188) rfl)) (of_decide_eq_true (c.ck 189 (f := ck189) rfl)) (of_decide_eq_true (c.ck 190 (f := ck190) rfl)) (of_decide_eq_true (c.ck 191 (f := ck191) rfl)) (of_decide_eq_true (c.ck 192 (f := ck192) rfl)) (of_decide_eq_true (c.ck 193 (f := ck193) rfl)) (of_decide_eq_true (c.ck 194 (f := ck194) rfl)) (of_decide_eq_true (c.ck 195 (f := ck195) rfl)) (of_decide_eq_true (c.ck 196 (f := ck196) rfl)) (of_decide_eq_true (c.ck 197 (f := ck197) rfl)) (of_decide_eq_true (c.ck 198 (f := ck198) rfl)) (of_decide_eq_true (c.ck 199 (f := ck199) rfl)) (of_decide_eq_true (c.ck 200 (f := ck200) rfl)) (of_decide_eq_true (c.ck 201 (f := ck201) rfl)) (of_decide_eq_true (c.ck 202 (f := ck202) rfl)) (of_decide_eq_true (c.ck 203 (f := ck203) rfl)) (of_decide_eq_true (c.ck 204 (f := ck204) rfl)) (of_decide_eq_true (c.ck 205 (f := ck205) rfl)) (of_decide_eq_true (c.ck 206 (f := ck206) rfl)) (of_decide_eq_true (c.ck 207 (f := ck207) rfl)) (of_decide_eq_true (c.ck 208 (f := ck208) rfl)) (of_decide_eq_true (c.ck 209 (f := ck209) rfl)) (of_decide_eq_true (c.ck 210 (f := ck210) rfl)) (of_decide_eq_true (c.ck 211 (f := ck211) rfl)) (of_decide_eq_true (c.ck 212 (f := ck212) rfl)) (of_decide_eq_true (c.ck 213 (f := ck213) rfl)) (of_decide_eq_true (c.ck 214 (f := ck214) rfl)) (of_decide_eq_true (c.ck 215 (f := ck215) rfl)) (of_decide_eq_true (c.ck 216 (f := ck216) rfl)) (of_decide_eq_true (c.ck 217 (f := ck217) rfl)) (of_decide_eq_true (c.ck 218 (f := ck218) rfl)) (of_decide_eq_true (c.ck 219 (f := ck219) rfl)) (of_decide_eq_true (c.ck 220 (f := ck220) rfl)) (of_decide_eq_true (c.ck 221 (f := ck221) rfl)) (by first | rfl | decide +kernel) (of_decide_eq_true (c.ck 222 (f := ck222) rfl)) (of_decide_eq_true (c.ck 223 (f := ck223) rfl)) (of_decide_eq_true (c.ck 224 (f := ck224) rfl)) (tup_at (c.ck 225 (f := ck225) rfl)) (cmB_ok (c.ck 5 (f := ck5) rfl)) (of_decide_eq_true (c.ck 226 (f := ck226) rfl)) l_rof c_rof (of_decide_eq_true (c.ck 227 (f := ck227) rfl)) (of_decide_eq_true (c.ck 228 (f := ck228) rfl)) (dflB_ok (c.ck 6 (f := ck6) rfl) l_rof) (nilB_ok (c.ck 7 (f := ck7) rfl)) (of_decide_eq_true (c.ck 229 (f := ck229) rfl)) (of_decide_eq_true (c.ck 230 (f := ck230) rfl)) (of_decide_eq_true (c.ck 231 (f := ck231) rfl)) (of_decide_eq_true (c.ck 232 (f := ck232) rfl)) l_riD c_riD (of_decide_eq_true (c.ck 233 (f := ck233) rfl)) (of_decide_eq_true (c.ck 234 (f := ck234) rfl)) (of_decide_eq_true (c.ck 235 (f := ck235) rfl)) (of_decide_eq_true (c.ck 236 (f := ck236) rfl)) (of_decide_eq_true (c.ck 237 (f := ck237) rfl)) (of_decide_eq_true (c.ck 238 (f := ck238) rfl)) (of_decide_eq_true (c.ck 239 (f := ck239) rfl)) (of_decide_eq_true (c.ck 240 (f := ck240) rfl)) (of_decide_eq_true (c.ck 241 (f := ck241) rfl)) (of_decide_eq_true (c.ck 242 (f := ck242) rfl)) (of_decide_eq_true (c.ck 243 (f := ck243) rfl)) (of_decide_eq_true (c.ck 244 (f := ck244) rfl)) (of_decide_eq_true (c.ck 245 (f := ck245) rfl)) (of_decide_eq_true (c.ck 246 (f := ck246) rfl)) (of_decide_eq_true (c.ck 247 (f := ck247) rfl)) (of_decide_eq_true (c.ck 248 (f := ck248) rfl)) (of_decide_eq_true (c.ck 249 (f := ck249) rfl)) (of_decide_eq_true (c.ck 250 (f := ck250) rfl)) (of_decide_eq_true (c.ck 251 (f := ck251) rfl)) (of_decide_eq_true (c.ck 252 (f := ck252) rfl)) (of_decide_eq_true (c.ck 253 (f := ck253) rfl)) (of_decide_eq_true (c.ck 254 (f := ck254) rfl)) (of_decide_eq_true (c.ck 255 (f := ck255) rfl)) (of_decide_eq_true (c.ck 256 (f := ck256) rfl)) (of_decide_eq_true (c.ck 257 (f := ck257) rfl)) (of_decide_eq_true (c.ck 258 (f := ck258) rfl)) (of_decide_eq_true (c.ck 259 (f := ck259) rfl)) (of_decide_eq_true (c.ck 260 (f := ck260) rfl)) (of_decide_eq_true (c.ck 261 (f := ck261) rfl)) (of_decide_eq_true (c.ck 262 (f := ck262) rfl)) (of_decide_eq_true (c.ck 263 (f := ck263) rfl)) (of_decide_eq_true (c.ck 264 (f := ck264) rfl))
end Cs
open PySem PySem.W PySem.Calls PyProof.Rows
set_option maxRecDepth 100000 in
set_option maxHeartbeats 0 in
theorem PySem.Challenge.cw_countsheld_k19_sets_of_rules_refused_holds : PySem.Challenge.rw_countsheld_k19_sets_of_rules_refused.Holds := by
  w_on; o_law
  refine HandSHeadRun.head_any (r := Cs.R0) (q := view Cs.R0.prog [51]) (H := Cs.hkK) (ob := Cs.obT) (M := 60000) (loose := Cs.nms) (d := HandSHeadRun.topDef Cs.R0.prog 51) (kwd := []) Cs.obT_eq
    (by kernel_rfl) (fun s => by kernel_rfl) Cs.runK (by kernel_rfl) (by kernel_rfl) (by kernel_rfl) (by rfl) (by first | assumption | decide +kernel) (by decide +kernel) ⟨rfl, rfl, rfl, rfl, rfl, by decide +kernel⟩ ?hw ?hc
  case hw => w_witness2
  case hc =>
    refine L2.walk_ofE (l := PySem.Challenge.rw_countsheld_k19_sets_of_rules_refused) (n := 63) (k := 11) (x := "_law_script") (CX := L2.CX0) rfl (by decide) (by kernel_rfl) ⟨rfl, by decide, by decide⟩ ?F (fun _ _ _ _ z => z)
    intro w mg fa h Y G hmg0
    obtain ⟨K, KX, c⟩ := Y
    have hmg : mg ("law" : PySem.Str) = some (.ref fa) := by
      have e : (HandSHeadRun.topDef Cs.R0.prog 51).name = ("law" : PySem.Str) := by kernel_rfl
      rw [← e]
      exact hmg0
    obtain ⟨fd, hb, hF⟩ := Cs.factsK (w := w) KX G hmg c
    exact ⟨K, fd, Cs.spLawR K, KX, hb, fun H a ns hl _ hS => ⟨a, ns, rfl, hS, hl, fun _ => rfl⟩, hF⟩
