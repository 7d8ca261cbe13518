import PyProof.Rows.All
import Wide.All
import OpenK.AllK
import Wide.FinOn
import HandS.ForMost
import HandS.Nested
import HandS.Set
import HandS.SetBool
import PyProof.Rows.SortShellAny
import KE.KOpsOwn
import HandS.Star
import HandS.ClsMeth
import HandS.Property
import HandS.CallRecv
import HandS.Codes
import HandS.Wide
import HandS.IsInst
import HandS.RaiseMore
import HandS.Walk
import HandS.ListItems
import HandS.DictComp
import KE.KSuper
import KE.KStar
import HandS.Replace
import KE.RegKSuper
import PySem.Challenge.RW_countsheld_k14_rules_hold
set_option Elab.async false
set_option linter.all false
set_option maxRecDepth 100000
set_option maxHeartbeats 4000000
namespace Cs
open PySem L2
def top (i : Nat) : Stmt := PySem.Challenge.pw_countsheld_k14_rules_hold.main.body.getD i (.Pass ⟨0, 0, 0, 0⟩)
abbrev s_BadWord_init : Stmt := inClass (top 3) 0
theorem sc_BadWord_init : FnScope ["self", "word"] ["self", "word"] (defScope s_BadWord_init) :=
  ⟨rfl, rfl, rfl, by decide +kernel, rfl, by decide +kernel, by decide +kernel⟩
abbrev s_BadNumber_init : Stmt := inClass (top 4) 0
theorem sc_BadNumber_init : FnScope ["self", "number"] ["self", "number"] (defScope s_BadNumber_init) :=
  ⟨rfl, rfl, rfl, by decide +kernel, rfl, by decide +kernel, by decide +kernel⟩
abbrev s_BadCounts_init : Stmt := inClass (top 5) 0
theorem sc_BadCounts_init : FnScope ["self", "at"] ["self", "at"] (defScope s_BadCounts_init) :=
  ⟨rfl, rfl, rfl, by decide +kernel, rfl, by decide +kernel, by decide +kernel⟩
abbrev s_BadRule_init : Stmt := inClass (top 6) 0
theorem sc_BadRule_init : FnScope ["self", "what"] ["self", "what"] (defScope s_BadRule_init) :=
  ⟨rfl, rfl, rfl, by decide +kernel, rfl, by decide +kernel, by decide +kernel⟩
abbrev s_NoDivisor_init : Stmt := inClass (top 7) 0
theorem sc_NoDivisor_init : FnScope ["self", "word"] ["self", "word"] (defScope s_NoDivisor_init) :=
  ⟨rfl, rfl, rfl, by decide +kernel, rfl, by decide +kernel, by decide +kernel⟩
abbrev s_is_integer : Stmt := top 9
theorem sc_is_integer : FnScope ["thing"] ["thing"] (defScope s_is_integer) :=
  ⟨rfl, rfl, rfl, by decide +kernel, rfl, by decide +kernel, by decide +kernel⟩
abbrev s_is_word : Stmt := top 13
theorem sc_is_word : FnScope ["thing", "sign"] ["thing"] (defScope s_is_word) :=
  ⟨rfl, rfl, rfl, by decide +kernel, rfl, by decide +kernel, by decide +kernel⟩
abbrev s_is_kind : Stmt := top 14
theorem sc_is_kind : FnScope ["thing"] ["thing"] (defScope s_is_kind) :=
  ⟨rfl, rfl, rfl, by decide +kernel, rfl, by decide +kernel, by decide +kernel⟩
abbrev s_is_small : Stmt := top 15
theorem sc_is_small : FnScope ["thing"] ["thing"] (defScope s_is_small) :=
  ⟨rfl, rfl, rfl, by decide +kernel, rfl, by decide +kernel, by decide +kernel⟩
abbrev s_distinct : Stmt := top 16
theorem sc_distinct : FnScope ["words", "word"] ["words"] (defScope s_distinct) :=
  ⟨rfl, rfl, rfl, by decide +kernel, rfl, by decide +kernel, by decide +kernel⟩
abbrev s_is_pair : Stmt := top 18
theorem sc_is_pair : FnScope ["thing"] ["thing"] (defScope s_is_pair) :=
  ⟨rfl, rfl, rfl, by decide +kernel, rfl, by decide +kernel, by decide +kernel⟩
abbrev s_joint_words : Stmt := top 19
theorem sc_joint_words : FnScope ["one", "other"] ["one", "other"] (defScope s_joint_words) :=
  ⟨rfl, rfl, rfl, by decide +kernel, rfl, by decide +kernel, by decide +kernel⟩
abbrev s_Counts_init : Stmt := inClass (top 20) 0
theorem sc_Counts_init : FnScope ["self", "pairs", "numbers", "word", "held", "number"] ["self", "pairs", "numbers"] (defScope s_Counts_init) :=
  ⟨rfl, rfl, rfl, by decide +kernel, rfl, by decide +kernel, by decide +kernel⟩
abbrev s_Counts_of : Stmt := inClass (top 20) 1
theorem sc_Counts_of : FnScope ["cls", "pairs", "at", "pair"] ["cls", "pairs"] (defScope s_Counts_of) :=
  ⟨rfl, rfl, rfl, by decide +kernel, rfl, by decide +kernel, by decide +kernel⟩
abbrev s_Counts_words : Stmt := inClass (top 20) 3
theorem sc_Counts_words : FnScope ["self"] ["self"] (defScope s_Counts_words) :=
  ⟨rfl, rfl, rfl, by decide +kernel, rfl, by decide +kernel, by decide +kernel⟩
abbrev s_Counts_pairs : Stmt := inClass (top 20) 4
theorem sc_Counts_pairs : FnScope ["self", "word"] ["self"] (defScope s_Counts_pairs) :=
  ⟨rfl, rfl, rfl, by decide +kernel, rfl, by decide +kernel, by decide +kernel⟩
abbrev s_Counts_total : Stmt := inClass (top 20) 8
theorem sc_Counts_total : FnScope ["self", "number"] ["self"] (defScope s_Counts_total) :=
  ⟨rfl, rfl, rfl, by decide +kernel, rfl, by decide +kernel, by decide +kernel⟩
abbrev s_Counts_getitem : Stmt := inClass (top 20) 9
theorem sc_Counts_getitem : FnScope ["self", "word"] ["self", "word"] (defScope s_Counts_getitem) :=
  ⟨rfl, rfl, rfl, by decide +kernel, rfl, by decide +kernel, by decide +kernel⟩
abbrev s_Counts_setitem : Stmt := inClass (top 20) 10
theorem sc_Counts_setitem : FnScope ["self", "word", "number"] ["self", "word", "number"] (defScope s_Counts_setitem) :=
  ⟨rfl, rfl, rfl, by decide +kernel, rfl, by decide +kernel, by decide +kernel⟩
abbrev s_Counts_iter : Stmt := inClass (top 20) 11
theorem sc_Counts_iter : FnScope ["self"] ["self"] (defScope s_Counts_iter) :=
  ⟨rfl, rfl, rfl, by decide +kernel, rfl, by decide +kernel, by decide +kernel⟩
abbrev s_Counts_contains : Stmt := inClass (top 20) 12
theorem sc_Counts_contains : FnScope ["self", "word"] ["self", "word"] (defScope s_Counts_contains) :=
  ⟨rfl, rfl, rfl, by decide +kernel, rfl, by decide +kernel, by decide +kernel⟩
abbrev s_Counts_len : Stmt := inClass (top 20) 13
theorem sc_Counts_len : FnScope ["self"] ["self"] (defScope s_Counts_len) :=
  ⟨rfl, rfl, rfl, by decide +kernel, rfl, by decide +kernel, by decide +kernel⟩
abbrev s_Counts_bool : Stmt := inClass (top 20) 14
theorem sc_Counts_bool : FnScope ["self"] ["self"] (defScope s_Counts_bool) :=
  ⟨rfl, rfl, rfl, by decide +kernel, rfl, by decide +kernel, by decide +kernel⟩
abbrev s_Counts_eq : Stmt := inClass (top 20) 15
theorem sc_Counts_eq : FnScope ["self", "other"] ["self", "other"] (defScope s_Counts_eq) :=
  ⟨rfl, rfl, rfl, by decide +kernel, rfl, by decide +kernel, by decide +kernel⟩
abbrev s_Counts_le : Stmt := inClass (top 20) 16
theorem sc_Counts_le : FnScope ["self", "other", "word"] ["self", "other"] (defScope s_Counts_le) :=
  ⟨rfl, rfl, rfl, by decide +kernel, rfl, by decide +kernel, by decide +kernel⟩
abbrev s_Counts_lt : Stmt := inClass (top 20) 17
theorem sc_Counts_lt : FnScope ["self", "other"] ["self", "other"] (defScope s_Counts_lt) :=
  ⟨rfl, rfl, rfl, by decide +kernel, rfl, by decide +kernel, by decide +kernel⟩
abbrev s_Counts_add : Stmt := inClass (top 20) 18
theorem sc_Counts_add : FnScope ["self", "other", "pairs"] ["self", "other"] (defScope s_Counts_add) :=
  ⟨rfl, rfl, rfl, by decide +kernel, rfl, by decide +kernel, by decide +kernel⟩
abbrev s_Counts_neg : Stmt := inClass (top 20) 19
theorem sc_Counts_neg : FnScope ["self", "pairs", "word"] ["self"] (defScope s_Counts_neg) :=
  ⟨rfl, rfl, rfl, by decide +kernel, rfl, by decide +kernel, by decide +kernel⟩
abbrev s_Counts_abs : Stmt := inClass (top 20) 20
theorem sc_Counts_abs : FnScope ["self", "pairs", "word"] ["self"] (defScope s_Counts_abs) :=
  ⟨rfl, rfl, rfl, by decide +kernel, rfl, by decide +kernel, by decide +kernel⟩
abbrev s_Counts_sub : Stmt := inClass (top 20) 21
theorem sc_Counts_sub : FnScope ["self", "other", "pairs", "word"] ["self", "other"] (defScope s_Counts_sub) :=
  ⟨rfl, rfl, rfl, by decide +kernel, rfl, by decide +kernel, by decide +kernel⟩
abbrev s_Counts_and : Stmt := inClass (top 20) 22
theorem sc_Counts_and : FnScope ["self", "other", "pairs", "word"] ["self", "other"] (defScope s_Counts_and) :=
  ⟨rfl, rfl, rfl, by decide +kernel, rfl, by decide +kernel, by decide +kernel⟩
abbrev s_Counts_or : Stmt := inClass (top 20) 23
theorem sc_Counts_or : FnScope ["self", "other", "pairs", "word"] ["self", "other"] (defScope s_Counts_or) :=
  ⟨rfl, rfl, rfl, by decide +kernel, rfl, by decide +kernel, by decide +kernel⟩
abbrev s_Counts_xor : Stmt := inClass (top 20) 24
theorem sc_Counts_xor : FnScope ["self", "other"] ["self", "other"] (defScope s_Counts_xor) :=
  ⟨rfl, rfl, rfl, by decide +kernel, rfl, by decide +kernel, by decide +kernel⟩
abbrev s_Counts_mul : Stmt := inClass (top 20) 25
theorem sc_Counts_mul : FnScope ["self", "times", "pairs", "word"] ["self", "times"] (defScope s_Counts_mul) :=
  ⟨rfl, rfl, rfl, by decide +kernel, rfl, by decide +kernel, by decide +kernel⟩
abbrev s_Counts_rmul : Stmt := inClass (top 20) 26
theorem sc_Counts_rmul : FnScope ["self", "times"] ["self", "times"] (defScope s_Counts_rmul) :=
  ⟨rfl, rfl, rfl, by decide +kernel, rfl, by decide +kernel, by decide +kernel⟩
abbrev s_Counts_floordiv : Stmt := inClass (top 20) 27
theorem sc_Counts_floordiv : FnScope ["self", "other", "word"] ["self", "other"] (defScope s_Counts_floordiv) :=
  ⟨rfl, rfl, rfl, by decide +kernel, rfl, by decide +kernel, by decide +kernel⟩
abbrev s_Counts_mod : Stmt := inClass (top 20) 28
theorem sc_Counts_mod : FnScope ["self", "other", "times"] ["self", "other"] (defScope s_Counts_mod) :=
  ⟨rfl, rfl, rfl, by decide +kernel, rfl, by decide +kernel, by decide +kernel⟩
abbrev s_Counts_iadd : Stmt := inClass (top 20) 29
theorem sc_Counts_iadd : FnScope ["self", "other", "result"] ["self", "other"] (defScope s_Counts_iadd) :=
  ⟨rfl, rfl, rfl, by decide +kernel, rfl, by decide +kernel, by decide +kernel⟩
abbrev s_Counts_isub : Stmt := inClass (top 20) 30
theorem sc_Counts_isub : FnScope ["self", "other", "result"] ["self", "other"] (defScope s_Counts_isub) :=
  ⟨rfl, rfl, rfl, by decide +kernel, rfl, by decide +kernel, by decide +kernel⟩
abbrev s_Counts_iand : Stmt := inClass (top 20) 31
theorem sc_Counts_iand : FnScope ["self", "other", "result"] ["self", "other"] (defScope s_Counts_iand) :=
  ⟨rfl, rfl, rfl, by decide +kernel, rfl, by decide +kernel, by decide +kernel⟩
abbrev s_Counts_ior : Stmt := inClass (top 20) 32
theorem sc_Counts_ior : FnScope ["self", "other", "result"] ["self", "other"] (defScope s_Counts_ior) :=
  ⟨rfl, rfl, rfl, by decide +kernel, rfl, by decide +kernel, by decide +kernel⟩
abbrev s_Counts_imul : Stmt := inClass (top 20) 33
theorem sc_Counts_imul : FnScope ["self", "times", "result"] ["self", "times"] (defScope s_Counts_imul) :=
  ⟨rfl, rfl, rfl, by decide +kernel, rfl, by decide +kernel, by decide +kernel⟩
abbrev s_Counts_repr : Stmt := inClass (top 20) 34
theorem sc_Counts_repr : FnScope ["self", "parts", "inside", "word"] ["self"] (defScope s_Counts_repr) :=
  ⟨rfl, rfl, rfl, by decide +kernel, rfl, by decide +kernel, by decide +kernel⟩
abbrev s_is_bound : Stmt := top 22
theorem sc_is_bound : FnScope ["thing"] ["thing"] (defScope s_is_bound) :=
  ⟨rfl, rfl, rfl, by decide +kernel, rfl, by decide +kernel, by decide +kernel⟩
abbrev s_Rule_init : Stmt := inClass (top 23) 0
theorem sc_Rule_init : FnScope ["self", "kinds", "kind"] ["self", "kinds"] (defScope s_Rule_init) :=
  ⟨rfl, rfl, rfl, by decide +kernel, rfl, by decide +kernel, by decide +kernel⟩
abbrev s_Rule_total_of : Stmt := inClass (top 23) 1
theorem sc_Rule_total_of : FnScope ["self", "counts", "kind"] ["self", "counts"] (defScope s_Rule_total_of) :=
  ⟨rfl, rfl, rfl, by decide +kernel, rfl, by decide +kernel, by decide +kernel⟩
abbrev s_Rule_holds : Stmt := inClass (top 23) 2
theorem sc_Rule_holds : FnScope ["self", "counts"] ["self", "counts"] (defScope s_Rule_holds) :=
  ⟨rfl, rfl, rfl, by decide +kernel, rfl, by decide +kernel, by decide +kernel⟩
abbrev s_Rule_lacks : Stmt := inClass (top 23) 3
theorem sc_Rule_lacks : FnScope ["self", "counts", "missing"] ["self", "counts"] (defScope s_Rule_lacks) :=
  ⟨rfl, rfl, rfl, by decide +kernel, rfl, by decide +kernel, by decide +kernel⟩
abbrev s_Rule_sum_text : Stmt := inClass (top 23) 4
theorem sc_Rule_sum_text : FnScope ["self"] ["self"] (defScope s_Rule_sum_text) :=
  ⟨rfl, rfl, rfl, by decide +kernel, rfl, by decide +kernel, by decide +kernel⟩
abbrev s_Rule_eq : Stmt := inClass (top 23) 5
theorem sc_Rule_eq : FnScope ["self", "other", "same"] ["self", "other"] (defScope s_Rule_eq) :=
  ⟨rfl, rfl, rfl, by decide +kernel, rfl, by decide +kernel, by decide +kernel⟩
abbrev s_AtLeast_init : Stmt := inClass (top 24) 0
theorem sc_AtLeast_init : NdefX.NScope ["self", "least", "rest", "__class__"] ["self", "least", "rest"] ["__class__"] (defScope s_AtLeast_init) := NdefX.nscope_by (by decide +kernel)
abbrev s_AtLeast_holds : Stmt := inClass (top 24) 1
theorem sc_AtLeast_holds : NdefX.NScope ["self", "counts", "__class__"] ["self", "counts"] ["__class__"] (defScope s_AtLeast_holds) := NdefX.nscope_by (by decide +kernel)
abbrev s_AtLeast_lacks : Stmt := inClass (top 24) 2
theorem sc_AtLeast_lacks : NdefX.NScope ["self", "counts", "__class__"] ["self", "counts"] ["__class__"] (defScope s_AtLeast_lacks) := NdefX.nscope_by (by decide +kernel)
abbrev s_AtLeast_str : Stmt := inClass (top 24) 3
theorem sc_AtLeast_str : FnScope ["self"] ["self"] (defScope s_AtLeast_str) :=
  ⟨rfl, rfl, rfl, by decide +kernel, rfl, by decide +kernel, by decide +kernel⟩
abbrev s_AtMost_init : Stmt := inClass (top 25) 0
theorem sc_AtMost_init : NdefX.NScope ["self", "most", "kinds", "__class__"] ["self", "most", "kinds"] ["__class__"] (defScope s_AtMost_init) := NdefX.nscope_by (by decide +kernel)
abbrev s_AtMost_holds : Stmt := inClass (top 25) 1
theorem sc_AtMost_holds : NdefX.NScope ["self", "counts", "__class__"] ["self", "counts"] ["__class__"] (defScope s_AtMost_holds) := NdefX.nscope_by (by decide +kernel)
abbrev s_AtMost_lacks : Stmt := inClass (top 25) 2
theorem sc_AtMost_lacks : NdefX.NScope ["self", "counts", "__class__", "extra"] ["self", "counts"] ["__class__"] (defScope s_AtMost_lacks) := NdefX.nscope_by (by decide +kernel)
abbrev s_AtMost_str : Stmt := inClass (top 25) 3
theorem sc_AtMost_str : FnScope ["self"] ["self"] (defScope s_AtMost_str) :=
  ⟨rfl, rfl, rfl, by decide +kernel, rfl, by decide +kernel, by decide +kernel⟩
abbrev s_Between_init : Stmt := inClass (top 26) 0
theorem sc_Between_init : NdefX.NScope ["self", "least", "most", "kinds", "__class__"] ["self", "least", "most", "kinds"] ["__class__"] (defScope s_Between_init) := NdefX.nscope_by (by decide +kernel)
abbrev s_Between_holds : Stmt := inClass (top 26) 1
theorem sc_Between_holds : NdefX.NScope ["self", "counts", "__class__"] ["self", "counts"] ["__class__"] (defScope s_Between_holds) := NdefX.nscope_by (by decide +kernel)
abbrev s_Between_lacks : Stmt := inClass (top 26) 2
theorem sc_Between_lacks : NdefX.NScope ["self", "counts", "__class__"] ["self", "counts"] ["__class__"] (defScope s_Between_lacks) := NdefX.nscope_by (by decide +kernel)
abbrev s_Between_str : Stmt := inClass (top 26) 3
theorem sc_Between_str : FnScope ["self"] ["self"] (defScope s_Between_str) :=
  ⟨rfl, rfl, rfl, by decide +kernel, rfl, by decide +kernel, by decide +kernel⟩
abbrev s_Exactly_init : Stmt := inClass (top 27) 0
theorem sc_Exactly_init : NdefX.NScope ["self", "number", "kinds", "__class__"] ["self", "number", "kinds"] ["__class__"] (defScope s_Exactly_init) := NdefX.nscope_by (by decide +kernel)
abbrev s_Exactly_holds : Stmt := inClass (top 27) 1
theorem sc_Exactly_holds : NdefX.NScope ["self", "counts", "__class__"] ["self", "counts"] ["__class__"] (defScope s_Exactly_holds) := NdefX.nscope_by (by decide +kernel)
abbrev s_Exactly_lacks : Stmt := inClass (top 27) 2
theorem sc_Exactly_lacks : NdefX.NScope ["self", "counts", "__class__"] ["self", "counts"] ["__class__"] (defScope s_Exactly_lacks) := NdefX.nscope_by (by decide +kernel)
abbrev s_Exactly_str : Stmt := inClass (top 27) 3
theorem sc_Exactly_str : FnScope ["self"] ["self"] (defScope s_Exactly_str) :=
  ⟨rfl, rfl, rfl, by decide +kernel, rfl, by decide +kernel, by decide +kernel⟩
abbrev s_l_source : Stmt := top 29
theorem sc_l_source : FnScope ["_law_script"] ["_law_script"] (defScope s_l_source) :=
  ⟨rfl, rfl, rfl, by decide +kernel, rfl, by decide +kernel, by decide +kernel⟩
abbrev s_l_mixed : Stmt := top 30
theorem sc_l_mixed : FnScope ["_law_cell", "_law_count", "_law_first"] ["_law_cell", "_law_count"] (defScope s_l_mixed) :=
  ⟨rfl, rfl, rfl, by decide +kernel, rfl, by decide +kernel, by decide +kernel⟩
abbrev s_l_draw : Stmt := top 31
theorem sc_l_draw : FnScope ["_law_source_here", "_law_size", "_law_at", "_law_cell", "_law_value"] ["_law_source_here", "_law_size"] (defScope s_l_draw) :=
  ⟨rfl, rfl, rfl, by decide +kernel, rfl, by decide +kernel, by decide +kernel⟩
abbrev s_l_number : Stmt := top 32
theorem sc_l_number : FnScope ["_law_source_here", "_law_mode", "_law_number_here", "_law_k"] ["_law_source_here"] (defScope s_l_number) :=
  ⟨rfl, rfl, rfl, by decide +kernel, rfl, by decide +kernel, by decide +kernel⟩
abbrev s_l_kind : Stmt := top 33
theorem sc_l_kind : FnScope ["_law_source_here", "_law_taken", "_law_letters", "_law_barred", "_law_words", "_law_word", "_law_k"] ["_law_source_here", "_law_taken"] (defScope s_l_kind) :=
  ⟨rfl, rfl, rfl, by decide +kernel, rfl, by decide +kernel, by decide +kernel⟩
abbrev s_l_kinds : Stmt := top 34
theorem sc_l_kinds : FnScope ["_law_source_here", "_law_many", "_law_kinds_here", "_law_k"] ["_law_source_here", "_law_many"] (defScope s_l_kinds) :=
  ⟨rfl, rfl, rfl, by decide +kernel, rfl, by decide +kernel, by decide +kernel⟩
abbrev s_l_four : Stmt := top 35
theorem sc_l_four : FnScope ["_law_low", "_law_high", "_law_kinds_here", "_law_one", "_law_two", "_law_three", "_law_found"] ["_law_low", "_law_high", "_law_kinds_here"] (defScope s_l_four) :=
  ⟨rfl, rfl, rfl, by decide +kernel, rfl, by decide +kernel, by decide +kernel⟩
abbrev s_l_ends : Stmt := top 36
theorem sc_l_ends : FnScope ["_law_low", "_law_high"] ["_law_low", "_law_high"] (defScope s_l_ends) :=
  ⟨rfl, rfl, rfl, by decide +kernel, rfl, by decide +kernel, by decide +kernel⟩
abbrev s_l_counts : Stmt := top 37
theorem sc_l_counts : FnScope ["_law_source_here", "_law_kinds_here", "_law_other", "_law_low", "_law_high", "_law_pairs", "_law_kind_here", "_law_mode", "_law_number_here", "_law_near", "_law_rest", "_law_end", "_law_pair"] ["_law_source_here", "_law_kinds_here", "_law_other", "_law_low", "_law_high"] (defScope s_l_counts) :=
  ⟨rfl, rfl, rfl, by decide +kernel, rfl, by decide +kernel, by decide +kernel⟩
abbrev s_l_lacks : Stmt := top 38
theorem sc_l_lacks : FnScope ["_law_total", "_law_ends_here"] ["_law_total", "_law_ends_here"] (defScope s_l_lacks) :=
  ⟨rfl, rfl, rfl, by decide +kernel, rfl, by decide +kernel, by decide +kernel⟩
abbrev s_l_is_integer : Stmt := top 39
theorem sc_l_is_integer : FnScope ["_law_thing"] ["_law_thing"] (defScope s_l_is_integer) :=
  ⟨rfl, rfl, rfl, by decide +kernel, rfl, by decide +kernel, by decide +kernel⟩
abbrev s_l_judged : Stmt := top 40
theorem sc_l_judged : FnScope ["_law_rule", "_law_ends_here", "_law_counts_here", "_law_total", "_law_due", "_law_told", "_law_pair"] ["_law_rule", "_law_ends_here", "_law_counts_here", "_law_total"] (defScope s_l_judged) :=
  ⟨rfl, rfl, rfl, by decide +kernel, rfl, by decide +kernel, by decide +kernel⟩
abbrev s_law : Stmt := top 41
theorem sc_law : FnScope ["_law_script", "_law_source_here", "_law_kinds_here", "_law_other", "_law_low", "_law_high", "_law_rules", "_law_ends_here", "_law_k", "_law_pairs", "_law_counts_here", "_law_total", "_law_at", "_law_empty", "_law_pair"] ["_law_script"] (defScope s_law) :=
  ⟨rfl, rfl, rfl, by decide +kernel, rfl, by decide +kernel, by decide +kernel⟩
end Cs

set_option Elab.async false
set_option linter.all false
set_option maxRecDepth 100000
set_option maxHeartbeats 4000000
/-! Sets of texts as a set comprehension makes them: a list of members without repeats, up to order; and sorted(..) of such a set. -/
namespace Cs
open PySem PySem.Spec PyProof.Rows L2

def tkey (e : Int × Value) : Str := match e.2 with | .str z _ => z | _ => Str.empty
def TGood (w : World) (e : Int × Value) : Prop := ∃ z tk, e.2 = Value.str z tk ∧ e.1 = hashStr w z
/-- a set object whose members are the texts zs (in some order) -/
def TSet (w : World) (h : Heap) (a : Addr) (zs : List Str) : Prop :=
  ∃ o es ep t, h.get? a = some o ∧ o.ExactSet ∧ o.data = .set es ep t ∧ (∀ e ∈ es.toList, TGood w e)
    ∧ (es.toList.map tkey).Perm zs ∧ zs.Nodup ∧ es.size < scanBound ∧ t.fits es.size = true
    ∧ Ris t.place.toList ∧ (w.params.followText "set-order" = true ∨ t.led = true)

section
variable {P : Program} {w : World} {h h' : Heap} {a : Addr} {zs : List Str}
theorem TSet.there (R : TSet w h a zs) (k : ∀ o, h.get? a = some o → h'.get? a = some o) : TSet w h' a zs := by
  obtain ⟨o, es, ep, t, q, r⟩ := R
  exact ⟨o, es, ep, t, k o q, r⟩
theorem TGood.elems {l : List (Int × Value)} (g : ∀ e ∈ l, TGood w e) : ElemsOf (PySem.strKind P w) l := fun e m => by
  obtain ⟨z, tk, e1, e2⟩ := g e m
  refine ⟨⟨z, ?_, e2⟩, ?_⟩
  · rw [e1]
    show Value.isStrOf z (.str z tk) = true
    simp [Value.isStrOf]
  · rw [e1]
    rfl
theorem TGood.is_iff {e : Int × Value} (g : TGood w e) (z : Str) : (PySem.strKind P w).is z e.2 = true ↔ tkey e = z := by
  obtain ⟨y, tk, e1, _⟩ := g
  unfold tkey
  rw [e1]
  show Value.isStrOf z (.str y tk) = true ↔ y = z
  simp [Value.isStrOf]
theorem TGood.mem_iff {l : List (Int × Value)} (g : ∀ e ∈ l, TGood w e) (z : Str) : z ∈ l.map tkey ↔ ∃ e ∈ l, (PySem.strKind P w).is z e.2 = true := by
  constructor
  · intro m
    obtain ⟨e, he, q⟩ := List.mem_map.mp m
    exact ⟨e, he, (TGood.is_iff (g e he) z).mpr q⟩
  · rintro ⟨e, he, q⟩
    exact List.mem_map.mpr ⟨e, he, (TGood.is_iff (g e he) z).mp q⟩
end

section
variable {P : Program} {w : World} {A : Around} {E : Value → Shared → Prop} {s : Shared} {a : Addr} {zs : List Str}
/-- the end of an addition: the table is stored, laid anew where it is too full -/
theorem tset_tail {g : Bool → Sem Unit} (hg : ∀ (b : Bool) (s1 : Shared) (Q1 : Unit → Shared → Prop), Q1 () s1 → wpAny (model P w) A (g b) Q1 E s1)
    {o : Obj} {es es1 : Array (Int × Value)} {ep : Nat} {t t1 : SetTable} (ho : s.heap.get? a = some o) (hex : o.ExactSet) (hd : o.data = .set es ep t)
    (gd : ∀ e ∈ es1.toList, TGood w e) (pz : (es1.toList.map tkey).Perm zs) (nz : zs.Nodup) (hb : es1.size < scanBound) (hf : t1.fits es1.size = true)
    (hr : Ris t1.place.toList) (hl : w.params.followText "set-order" = true ∨ t1.led = true) {dm : Bool} {R : Option Bool → Shared → Prop}
    (hR : ∀ h', Heap.SameBut a s.heap h' → TSet w h' a zs → R (some true) { s with heap := h' }) :
    wpAny (model P w) A (do
        storeSet a es1 t1
        if (!dm && t1.tooFull) = true then do
            g (relayAll t1 es1 (SetTable.grown es1.size)).2.2
            storeSet a (relayAll t1 es1 (SetTable.grown es1.size)).1 (relayAll t1 es1 (SetTable.grown es1.size)).2.1
            pure (some true)
          else pure (some true)) R E s := by
  refine wpAny_bind (wpAny_storeSet_of ho hd ?_ (fits_of_scanBound hb))
  have ho1 := store_at (es' := es1) (t' := t1) ho hd
  have same := Heap.SameBut.update s.heap a (Obj.putSet es1 t1)
  split
  · have p2 := relayAll_perm t1 es1 (SetTable.grown es1.size)
    have f2 := relayAll_fits t1 es1 (SetTable.grown es1.size)
    have r2 := relayAll_ris t1 es1 (SetTable.grown es1.size)
    have l2 := relayAll_led t1 es1 (SetTable.grown es1.size)
    generalize relayAll t1 es1 (SetTable.grown es1.size) = Z at p2 f2 r2 l2 ⊢
    obtain ⟨es2, t2, gv⟩ := Z
    dsimp only at p2 f2 r2 l2 ⊢
    have sz : es2.size = es1.size := by rw [← Array.length_toList, p2.length_eq, Array.length_toList]
    have hb2 : es2.size < scanBound := sz ▸ hb
    refine wpAny_bind (hg _ _ _ (wpAny_bind (wpAny_storeSet_of ho1 rfl ?_ (fits_of_scanBound hb2))))
    have ho2 := store_at (es' := es2) (t' := t2) ho1 rfl
    exact wpAny_pure (hR _ (same.trans (Heap.SameBut.update _ a _)) ⟨_, es2, _, t2, ho2, hex, rfl, fun e m => gd e (p2.mem_iff.mp m), (p2.map tkey).trans pz, nz, hb2, f2, r2, hl.imp id fun q => by rw [l2]; exact q⟩)
  · exact wpAny_pure (hR _ same ⟨_, es1, _, t1, ho1, hex, rfl, gd, pz, nz, hb, hf, hr, hl⟩)

/-- one text more -/
def addT (zs : List Str) (z : Str) : List Str := if z ∈ zs then zs else zs ++ [z]

theorem tset_hashed {z : Str} {tk : Tok} {Q : Bool → Shared → Prop} (R : TSet w s.heap a zs) (room : zs.length + 1 < scanBound)
    (hQ : ∀ b h', Heap.SameBut a s.heap h' → TSet w h' a (addT zs z) → Q b { s with heap := h' }) :
    wpAny (model P w) A (setAddHashed a (.str z tk) ((PySem.strKind P w).hash z)) Q E s := by
  obtain ⟨o, es, ep, t, ho, hex, hd, gd, pz, nz, hb, hf, hr, hl⟩ := R
  have hkey : (PySem.strKind P w).is z (.str z tk) = true := by
    show Value.isStrOf z (.str z tk) = true
    simp [Value.isStrOf]
  have hsc : (Value.str z tk).scannable = true := rfl
  have hel : ElemsOf (PySem.strKind P w) es.toList := TGood.elems gd
  have hn : es.size = zs.length := by rw [← Array.length_toList, ← pz.length_eq, List.length_map]
  unfold setAddHashed setAddHashedIn
  refine wpAny_holding (wpAny_bind (wpAny_setState_of ho hd hf ?_))
  dsimp only
  rw [byScan_of hsc hb hel]
  simp only [↓reduceIte]
  unfold setAddByScan
  refine wpAny_bind (wpAny_bind (wpAny_rule (wpAny_bind (wpAny_setScan_of hkey ho hd hf hel ?_))))
  cases hfi : List.findIdx? (fun e => (PySem.strKind P w).is z e.2) es.toList with
  | some j =>
    dsimp only
    obtain ⟨hj, pj, _⟩ := List.findIdx?_eq_some_iff_getElem.mp hfi
    have hin : z ∈ zs := pz.mem_iff.mp ((TGood.mem_iff (P := P) gd z).mpr ⟨_, List.getElem_mem hj, pj⟩)
    have q := hQ false s.heap (Heap.SameBut.refl a s.heap)
    rw [show addT zs z = zs from if_pos hin] at q
    exact wpAny_pure (wpAny_pure (q ⟨o, es, ep, t, ho, hex, hd, gd, pz, nz, hb, hf, hr, hl⟩))
  | none =>
    dsimp only
    have hout : z ∉ zs := fun m => by
      obtain ⟨e, he, q⟩ := (TGood.mem_iff (P := P) (w := w) gd z).mp (pz.mem_iff.mpr m)
      have c := List.findIdx?_eq_none_iff.mp hfi e he
      rw [q] at c
      cases c
    have hgw : ∀ (b : Bool) {s1 : Shared} {Q1 : Unit → Shared → Prop}, Q1 () s1 → wpAny (model P w) A (match b with | true => rule "set.scan.the-table-gave-way" | false => pure ()) Q1 E s1 :=
      fun b s1 Q1 q => by cases b <;> first | exact wpAny_pure q | exact wpAny_rule q
    have p1 := layNew_perm t es ((PySem.strKind P w).hash z) (.str z tk)
    have f1 := layNew_fits t es ((PySem.strKind P w).hash z) (.str z tk)
    have r1 := layNew_ris t es ((PySem.strKind P w).hash z) (.str z tk) hr
    have l1 := layNew_led t es ((PySem.strKind P w).hash z) (.str z tk)
    generalize layNew t es ((PySem.strKind P w).hash z) (.str z tk) = Z at p1 f1 r1 l1 ⊢
    obtain ⟨es1, t1, dm, gv⟩ := Z
    dsimp only at p1 f1 r1 l1 ⊢
    rw [Array.toList_push] at p1
    have gd1 : ∀ e ∈ es1.toList, TGood w e := fun e m => by
      rcases List.mem_append.mp (p1.mem_iff.mp m) with q | q
      · exact gd e q
      · rw [List.mem_singleton.mp q]
        exact ⟨z, tk, rfl, rfl⟩
    have ez : addT zs z = zs ++ [z] := if_neg hout
    have pz1 : (es1.toList.map tkey).Perm (addT zs z) := by
      rw [ez]
      refine (p1.map tkey).trans ?_
      rw [List.map_append]
      exact pz.append_right _
    have nz1 : (addT zs z).Nodup := by
      rw [ez]
      exact nd_snoc nz hout
    have sz1 : es1.size = zs.length + 1 := by
      rw [← Array.length_toList, p1.length_eq, List.length_append, Array.length_toList, hn]
      rfl
    have hb1 : es1.size < scanBound := by rw [sz1]; exact room
    have hl1 : w.params.followText "set-order" = true ∨ t1.led = true := hl.imp id fun q => by rw [l1]; exact q
    have fin : ∀ h', Heap.SameBut a s.heap h' → TSet w h' a (addT zs z) → Q true { s with heap := h' } := hQ true
    refine wpAny_bind (hgw _ ?_)
    split
    · refine wpAny_bind ?_
      rw [hashByValue_scannable 8 hsc]
      refine wpAny_pure ?_
      refine tset_tail ?_ ho hex hd gd1 pz1 nz1 hb1 ?_ ?_ ?_ ?_
      · intro b s1 Q1 q
        cases b <;> first | exact wpAny_pure q | exact wpAny_rule q
      · first | (split <;> first | exact f1 | exact SetTable.fits_plain_off f1) | exact f1
      · first | (split <;> exact r1) | exact r1
      · first | (split <;> exact hl1) | exact hl1
      · intro h' sb r
        dsimp only
        exact wpAny_pure (fin h' sb r)
    · refine wpAny_bind (wpAny_pure ?_)
      simp only [↓reduceIte]
      refine tset_tail ?_ ho hex hd gd1 pz1 nz1 hb1 f1 r1 hl1 ?_
      · intro b s1 Q1 q
        cases b <;> first | exact wpAny_pure q | exact wpAny_rule q
      · intro h' sb r
        dsimp only
        exact wpAny_pure (fin h' sb r)

theorem TSet.typeIs {zs : List Str} (R : TSet w s.heap a zs) : s.TypeIs (.ref a) "set" := by
  obtain ⟨o, es, ep, t, ho, hex, _⟩ := R
  exact ⟨o, ho, hex.1⟩
/-- s.add(z) -/
theorem tset_add {z : Str} {tk : Tok} {Q : Value → Shared → Prop} (R : TSet w s.heap a zs) (room : zs.length + 1 < scanBound)
    (hQ : ∀ h', Heap.SameBut a s.heap h' → TSet w h' a (addT zs z) → Q .none { s with heap := h', toks := s.toks + 1 }) :
    wpAny (model P w) A (call (.builtin "set.add") [.ref a, .str z tk]) Q E s := by
  have hkey : (PySem.strKind P w).is z (.str z tk) = true := by
    show Value.isStrOf z (.str z tk) = true
    simp [Value.isStrOf]
  refine wpAny_call_entry F.slot_set_add R.typeIs F.entry_set_add ?_ (F.args_set_add_2 _ _)
  unfold Builtin.«set.add» Builtin.Frozenset.oneOther
  simp only [List.isEmpty_nil, bind_assoc]
  unfold Builtin.Frozenset.addrOf setAdd
  refine wpAny_bind (wpAny_pure ?_)
  try dsimp only
  refine wpAny_bind (wpAny_pure ?_)
  try dsimp only
  refine wpAny_bind (wpAny_holding (wpAny_bind ((PySem.strKind P w).pyHash hkey ?_)))
  refine tset_hashed (s := { s with toks := s.toks + 1 }) R room fun b h' sb r => ?_
  show wpAny _ _ (ret Value.none) _ _ _
  exact wpAny_pure ⟨_, rfl, hQ h' sb r⟩
theorem tset_fresh {h : Heap} (w : World) : TSet w (h.push { cls := .type "set", dict := none, data := .set #[] 0 (.fresh 0 0 (!w.params.followText "set-order")) }) h.objs.size [] := by
  refine ⟨_, #[], 0, _, Heap.get?_push_size _ rfl, ⟨rfl, rfl, rfl⟩, rfl, (fun e m => by simp at m), .nil, .nil, by decide, rfl, .nil, ?_⟩
  show _ ∨ (!w.params.followText "set-order") = true
  cases w.params.followText "set-order"
  · exact Or.inr rfl
  · exact Or.inl rfl

/-! ### sorted -/
theorem strs_of : ∀ (l : List Value), (∀ v ∈ l, ∃ z tk, v = Value.str z tk) → StrsAre l (l.map fun v => tkey (0, v))
  | [], _ => .nil
  | v :: l, h => by
    obtain ⟨z, tk, rfl⟩ := h v List.mem_cons_self
    exact .cons z tk (strs_of l fun u m => h u (List.mem_cons_of_mem _ m))
theorem tset_sorted {Q : Value → Shared → Prop} (R : TSet w s.heap a zs) (hh : A.handled = none)
    (hQ : ∀ s' p (out : Array Value) (c : Nat) (ys : List Str), (∀ b o, s.heap.get? b = some o → s'.heap.get? b = some o) → s'.gens = s.gens → s'.os = s.os → s.heap.objs.size ≤ p →
      s'.heap.get? p = some (seqObj "list" out c) → StrsAre out.toList ys → ys.Perm zs → sortedS ys = true → Q (.ref p) s') :
    wpAny (model P w) A (call (.builtin "sorted") [.ref a]) Q E s := by
  obtain ⟨o, es, ep, t, ho, hex, hd, gd, pz, nz, hb, hf, hr, hl⟩ := R
  refine Calls.call_function_entry kind_sorted plain_sorted entry_sorted (args_sorted1 _) ?_
  unfold Builtin.«sorted»
  refine wpAny_bind (m := checkCount "sorted" 1 1 _) (wpAny_pure ?_)
  refine wpAny_bind (collect_set (A := A.in1) hh ⟨o, ho, hex.1, hd⟩ hf hb hr hl fun s1 vs k1 hz g1 o1 pm => ?_)
  have hvl : vs.length = es.size := by rw [pm.length_eq, List.length_map, Array.length_toList]
  have hS : StrsAre vs (vs.map fun v => tkey (0, v)) := strs_of vs fun v hv => by
    obtain ⟨e, he, q⟩ := List.mem_map.mp (pm.mem_iff.mp hv)
    obtain ⟨z, tk, e1, _⟩ := gd e he
    exact ⟨z, tk, by rw [← q]; exact e1⟩
  have pk : (vs.map fun v => tkey (0, v)).Perm zs := by
    have q := pm.map fun v => tkey (0, v)
    rw [List.map_map] at q
    exact q.trans pz
  have hln : vs.length ≤ sizeLine := by
    rw [hvl]
    exact fits_of_scanBound hb
  refine wpAny_bind (wpAny_newList ?_ hln)
  have hoL : (s1.heap.push (seqObj "list" vs.toArray 0)).get? s1.heap.objs.size = some (seqObj "list" vs.toArray 0) := Heap.get?_push_size _ rfl
  refine wpAny_bind (wpAny_holding (wpAny_call_entry slot_list_sort ⟨_, hoL, rfl⟩ entry_list_sort (list_sort_treeKAny strKind_oneLt hoL hS.keysOf (fun v1 v2 rest e => keyKind_strs (by rw [← e]; exact hS)) hln fun st' hp hs => ⟨_, rfl, ?_⟩) (args_list_sort _)))
  obtain ⟨ys, a1, a2, a3⟩ := sorted_out_str hS hp hs
  generalize (arrOf st').map (·.2) = out at a1 ⊢
  obtain ⟨c, hc⟩ := sortedHeap_at (vs := vs) (out := out) hoL
  refine wpAny_pure ⟨_, rfl, hQ _ s1.heap.objs.size out c ys (fun b u e => ?_) g1 o1 hz hc a1 (a2.trans pk) a3⟩
  have q := k1 b u e
  have hlt := Heap.lt_size q
  show (sortedHeap (s1.heap.push (seqObj "list" vs.toArray 0)) s1.heap.objs.size vs out).get? b = some u
  rw [sortedHeap_old (Nat.ne_of_lt hlt) (by rw [size_push']; exact Nat.lt_succ_of_lt hlt)]
  exact Heap.get?_push_of_some _ q
end

/-! ### over the abstract heap -/
def TSetO (w : World) (a : Addr) (zs : List Str) : HO := .ext fun h => TSet w h a zs
theorem tsetO_new {w : World} {P : Program} {H : Hp} {h : Heap} {a : Addr} {zs : List Str} (R : TSet w h a zs) : ObjOk P w H h a (TSetO w a zs) := by
  have ⟨o, _, _, _, ho, _⟩ := R
  exact ⟨R, ⟨o, ho⟩, fun h1 h2 p k => TSet.there p k⟩
section
variable {X : Cx} {pins : List (Addr × Obj)} {σ : L2.St} {H : Hp} {s : Shared} {zs : List Str}
theorem tsetO_get {a : Addr} (I : Inv X pins σ H s) (ha : H a = some (TSetO X.w a zs)) : TSet X.w s.heap a zs := (I.hok a _ ha).1
theorem tsetO_add {E : Value → Shared → Prop} {D : Addr} {z : Str} {tk : Tok} {Q : Value → Shared → Prop} (I : Inv X pins σ H s) (hD : H D = some (TSetO X.w D zs)) (room : zs.length + 1 < scanBound)
    (h : ∀ s', Inv X pins σ (upd H D (TSetO X.w D (addT zs z))) s' → Q .none s') : wpAny (model X.prog X.w) X.A (call (.builtin "set.add") [.ref D, .str z tk]) Q E s := by
  refine tset_add (tsetO_get I hD) room fun h' sb new => h _ ?_
  have he : ∃ u, h'.get? D = some u := by
    have ⟨o, _, _, _, ho, _⟩ := new
    exact ⟨o, ho⟩
  exact I.write (e := D) (t' := s.toks + 1) (by rw [hD]; trivial) (.inl rfl) (fun b u hb hu => (sb.2 b hb).trans hu) he (tsetO_new new)
/-- sorted(s), s a set of texts -/
def rSortT (w : World) : List V → Hp → VK → Prop := fun vs H Q => ∃ (a : Addr) (zs : List Str), vs = [V.ref a] ∧ H a = some (TSetO w a zs) ∧ zs.length ≤ 100000 ∧
  ∀ (ys : List Str) (p : Addr), ys.Perm zs → sortedS ys = true → H p = none → Q (.ref p) (upd H p (.lst (ys.map V.str)))
theorem cr_sortT (hc : X.calm = true) : CallR X (.builtin "sorted") (rSortT X.w) := by
  intro pins s σ H vs us Q I r h
  obtain ⟨a, zs, rfl, ha, hz, q⟩ := h
  rw [Vals.ref1 r]
  refine tset_sorted (tsetO_get I ha) (I.ok.hd hc) fun s' p out c ys k g o hp hg hS hperm hsrt => ?_
  have hlen : (ys.map V.str).length ≤ sizeLine := by
    rw [List.length_map, hperm.length_eq]
    exact Nat.le_trans hz (by decide)
  have hn : H p = none := I.hok.fresh hp
  have J : Inv X pins σ (upd H p (.lst (ys.map V.str))) { s with heap := s'.heap, gens := s'.gens, drawn := s'.drawn, toks := s'.toks } :=
    I.call (ch := []) (Un.laid k hp hn) (I.hok.laid k hp ⟨hlen, out.toList, c, vals_of_strs hS, hg⟩) (by rw [g]; exact I.bare) (fun _ m => nomatch m)
  have e : s' = { s with heap := s'.heap, gens := s'.gens, drawn := s'.drawn, toks := s'.toks } := by
    cases s'
    cases s
    cases o
    rfl
  rw [e]
  exact ⟨.ref p, _, J, rfl, q ys p hperm hsrt hn⟩
end
end Cs

set_option Elab.async false
set_option linter.all false
set_option maxRecDepth 100000
set_option maxHeartbeats 4000000
/-! {elt for target in iter if ..} where elt is a text. -/
namespace Cs
open PySem PySem.Spec PyProof.Rows L2

/-- one turn of such a comprehension: the text that comes is put into the set at D -/
def tScT (w : World) (wi : TI) (g : TG) (tt : TT) (te : TE) (vs : List Nat) : TE := fun σ H Q => wi σ H fun J H1 => ∀ D, H1 D = none →
  ∃ W : Nat → Nat → Hp → Prop, (∃ m, W 0 m (upd H1 D (TSetO w D []))) ∧ ∀ i m H, W i m H →
  (J.stop i H ∧ Q (.ref D) H) ∨ (J.go i H ∧ ∃ Nx : Hp → Prop, (∀ H', Nx H' → ∃ m', m' < m ∧ W (i + 1) m' H') ∧
    ∀ x H', J.yld i H x H' → g x (wipe σ vs) H' fun σ2 H2 => wipe σ2 vs = wipe σ vs ∧ tt σ2 H2 fun b H3 =>
    if b = true then te σ2 H3 fun y H4 => ∃ (z : Str) (zs : List Str), y = .str z ∧ H4 D = some (TSetO w D zs) ∧ zs.length + 1 < scanBound ∧ Nx (upd H4 D (TSetO w D (addT zs z))) else Nx H3)
section
variable {X : Cx}
theorem scT_core {pins : List (Addr × Obj)} {s : Shared} {σ : L2.St} {H : Hp} {Q : VK} {elt tg iter : Expr} {ifs : List Expr} {scope : Scope} {own : List (PySem.Str × Nat)} {pos pos' : Pos}
    {wi : TI} {g : TG} {tt : TT} {te : TE} {use : Option (Value → Sem Unit)} {Qf : Value → Shared → Prop}
    (hc : X.calm = true) (hN : X.N.Nodup) (I : Inv X pins σ H s) (hi : PI X tg iter wi) (ok : BlkOk X.N X.env.scope scope own)
    (hg : ∀ (s : Shared) (H : Hp) (C : Addr) (cl : List (PySem.Str × Addr)) (fp : List Addr), PG (X.blk s H scope (compEnvC scope cl C X.env) fp) tg g)
    (ht : ∀ (s : Shared) (H : Hp) (C : Addr) (cl : List (PySem.Str × Addr)) (fp : List Addr), PTs (X.blk s H scope (compEnvC scope cl C X.env) fp) ifs tt)
    (he : ∀ (s : Shared) (H : Hp) (C : Addr) (cl : List (PySem.Str × Addr)) (fp : List Addr), PE (X.blk s H scope (compEnvC scope cl C X.env) fp) elt te)
    (hs : ∀ x, foldedSetIterable iter X.env x = pure x) (h : tScT X.w wi g tt te (own.map (·.2)) σ H Q)
    (hRR : ∀ D C s' m H', Inv X pins σ H' s' → Q (.ref D) H' → s'.heap.Ns C m → FpOk X pins H' C → compPost (model X.prog X.w) X.A X.xe use Qf (.ref D) C (.ok .next) s') :
    wpAny (model X.prog X.w) X.A (comprehension (.SetComp elt [⟨tg, iter, ifs, 0⟩] scope pos) scope X.env pos' (newSet (.type "set")) false (eval iter X.env) use) Qf X.xe s := by
  have cells : ∀ y ∈ scope.names, y.2 = .free → ∃ c, X.env.cells.lookup y.1 = some c := fun y hy e => (ok.free y hy e).elim (fun k => I.ok.has _ (.inl k)) fun k => I.ok.has _ (.inr k)
  refine wpAny_comprehension_free (use := use) rfl hs (closure_ok cells) ok.kind (fun y hy e => by rw [ok.uniq y hy, e]) (thn (hi.run pins s σ H _ I h) fun xv sA hx => thn hx fun itv sB hB => ?_)
  obtain ⟨it, fp, tn, J, HB, e, IB, T, stB, fB, q⟩ := hB
  subst e
  refine PpSet.newSet_ok (newEnv_comp ?_)
  generalize hD : sB.heap.objs.size = D
  obtain ⟨W, ⟨m0, w0⟩, turn⟩ := q D (IB.hok.fresh (Nat.le_of_eq hD))
  generalize hsC : ({ sB with heap := sB.heap.push { cls := .type "set", dict := none, data := .set #[] 0 (.fresh 0 0 (!X.w.params.followText "set-order")) } } : Shared) = sC
  have hpC : sC.heap = sB.heap.push { cls := .type "set", dict := none, data := .set #[] 0 (.fresh 0 0 (!X.w.params.followText "set-order")) } := by rw [← hsC]
  generalize hHC : upd HB D (TSetO X.w D []) = HC at w0
  have IC : Inv X pins σ HC sC := by
    rw [← hsC, ← hHC]
    refine IB.laid (t' := sB.toks) (fun b o e => Heap.get?_push_of_some _ e) (Nat.le_of_eq hD) ?_
    rw [← hD]
    exact tsetO_new (tset_fresh X.w)
  have below : ∀ b ∈ fp, b < sB.heap.objs.size := fun b hb => (T.obj _ _ stB b hb).elim fun o z => Heap.lt_size z.1
  have fC : ∀ b ∈ fp, FpOk X pins HC b ∧ b < sC.heap.objs.size := fun b hb => by
    have lt := below b hb
    refine ⟨⟨?_, (fB b hb).2⟩, by rw [hpC, Heap.size_push]; exact Nat.lt_succ_of_lt lt⟩
    rw [← hHC, upd_ne (by rw [← hD]; exact Nat.ne_of_lt lt)]
    exact (fB b hb).1
  have stC : tn 0 sC.heap := T.keep _ _ _ stB fun b _ o e => by rw [hpC]; exact Heap.get?_push_of_some _ e
  have IK := block_start IC ok hN fC
  show codeAny _ _ (.compStart (.SetComp elt [⟨tg, iter, ifs, 0⟩] scope pos) 0 (.ref it) (.ref D) (compEnvC scope (cellsFrom (sC.heap.objs.size + 1) scope.names (cloFrom X.env.cells scope.names [])) sC.heap.objs.size X.env))
    (compPost (model X.prog X.w) X.A X.xe use Qf (.ref D) sC.heap.objs.size) { sC with heap := pushCells (sC.heap.push { cls := .type "dict", data := .dict #[] }) scope.names }
  generalize cellsFrom (sC.heap.objs.size + 1) scope.names (cloFrom X.env.cells scope.names []) = cl at IK ⊢
  have pg := hg sC HC sC.heap.objs.size cl fp
  have pt := ht sC HC sC.heap.objs.size cl fp
  have pe := he sC HC sC.heap.objs.size cl fp
  have nC : ∀ b ∈ fp, HC b = none := fun b hb => (fC b hb).1.1
  generalize hce : compEnvC scope cl sC.heap.objs.size X.env = ce at IK pg pt pe ⊢
  have locals : ce.locals = sC.heap.objs.size := by subst hce; rfl
  generalize hsK : ({ sC with heap := pushCells (sC.heap.push { cls := .type "dict", data := .dict #[] }) scope.names } : Shared) = sK at IK ⊢
  have stK : tn 0 sK.heap := T.keep _ _ _ stC fun b _ o e => by rw [← hsK]; exact pushCells_keeps _ _ _ _ (Heap.get?_push_of_some _ e)
  have stand : ∀ {σ' : L2.St} {H' : Hp} {s' : Shared}, Inv (X.blk sC HC scope ce fp) [] σ' H' s' → (∀ b ∈ fp, H' b = none) → ∀ b ∈ fp, FpOk (X.blk sC HC scope ce fp) [] H' b := fun {σ' H' s'} I' hn b hb =>
    ⟨hn b hb, (I'.ok.exf b hb).1, I'.ok.exfs b hb, .inl hb, fun x c e => (I'.ok.exf b hb).2 x c e, fun p hp => absurd (show p ∈ ([] : List (Addr × Obj)) ++ [] from hp) (by simp)⟩
  have loop : codeAny (model X.prog X.w) X.A (.compLoop (.SetComp elt [⟨tg, iter, ifs, 0⟩] scope pos) 0 (.ref it) (.ref D) ce) (compPost (model X.prog X.w) X.A X.xe use Qf (.ref D) sC.heap.objs.size) sK := by
    refine PpSet.compLoopS_any (fun n s' => ∃ i H', Inv (X.blk sC HC scope ce fp) [] (wipe σ (own.map (·.2))) H' s' ∧ tn i s'.heap ∧ (∀ b ∈ fp, H' b = none) ∧ W i n H') ?_ m0 ⟨0, HC, IK, stK, nC, w0⟩
    rintro n sL ⟨i, HL, IL, stL, nL, wL⟩
    rcases turn i n HL wL with ⟨stop, qq⟩ | ⟨go, Nx, hNx, step⟩
    · refine thnF (T.done (X.blk sC HC scope ce fp) rfl rfl rfl hc i [] sL _ HL (fun _ _ => False) IL (stand IL nL) stL stop) fun r sM ⟨hr, IM⟩ => ?_
      subst hr
      have IX : Inv X pins σ HL sM := IC.call' (ch := fp) IM.os IM.base IM.hok IM.bare fun b hb => ⟨(fC b hb).1.2.2.2.1, (fC b hb).1.2.1, (fC b hb).1.2.2.2.2.1, (fC b hb).1.2.2.2.2.2⟩
      have nl : HL sC.heap.objs.size = none := by
        have z : HL ce.locals = none := IM.free
        rw [locals] at z
        exact z
      obtain ⟨m, hn, _⟩ := IM.loc
      have hn : sM.heap.Ns ce.locals m := hn
      rw [locals] at hn
      exact hRR D sC.heap.objs.size sM m HL IX qq hn (IC.fpOk (Nat.le_refl _) nl)
    · refine thnF (T.item (X.blk sC HC scope ce fp) rfl rfl rfl hc i [] sL _ HL (fun _ _ => False) IL (stand IL nL) stL go) fun r sM ⟨u, hr, hM⟩ => ?_
      subst hr
      refine thnF hM fun _ sN ⟨x, HN, IN, rN, yN, stN, nN⟩ => ?_
      have INp := IN.pinned (stand IN nN) (T.obj _ _ stN)
      refine thnF (pg.run _ sN _ HN x u _ INp rN (step x HN yN)) fun _ sO ⟨σO, HO_, IO_, hwO, qO⟩ => ?_
      refine thnF (pt.run _ sO σO HO_ _ IO_ qO) fun b sP ⟨HP, IP, qP⟩ => ?_
      have fin : ∀ {s' : Shared} {H' : Hp}, Inv (X.blk sC HC scope ce fp) ([] ++ pinsAt fp sN.heap) σO H' s' → Nx H' →
          ∃ m, m < n ∧ ∃ i H', Inv (X.blk sC HC scope ce fp) [] (wipe σ (own.map (·.2))) H' s' ∧ tn i s'.heap ∧ (∀ b ∈ fp, H' b = none) ∧ W i m H' := fun {s' H'} I' nx => by
        obtain ⟨m', hm, w'⟩ := hNx H' nx
        have kept : ∀ b ∈ fp, ∀ o, sN.heap.get? b = some o → s'.heap.get? b = some o ∧ H' b = none := fun b hb o e =>
          let z := I'.pin (b, o) (List.mem_append_right _ (List.mem_append_right _ (mem_pinsAt hb e)))
          ⟨z.1, z.2.1⟩
        refine ⟨m', hm, i + 1, H', (I'.unpinned (pins := [])).weak (by rw [← hwO, wipe_length]) (fun j v e => ?_), T.keep _ _ _ stN fun b hb o e => (kept b hb o e).1, fun b hb => ?_, w'⟩
        · rw [← hwO] at e
          exact (wipe_some e).1
        · exact (T.obj _ _ stN b hb).elim fun o z => (kept b hb o z.1).2
      cases b with
      | false =>
        simp only [Bool.false_eq_true, if_false] at qP ⊢
        exact fin IP qP
      | true =>
        simp only [if_true] at qP ⊢
        refine thnF (pe.run _ sP σO HP _ IP qP) fun v sQ ⟨yv, HQ, IQ, rQ, z, zs, ey, hDQ, hzQ, nx⟩ => ?_
        subst ey
        obtain ⟨tk, rfl⟩ : ∃ tk, v = Value.str z tk := rQ
        exact tsetO_add (X := X.blk sC HC scope ce fp) IQ hDQ hzQ fun sR IR => fin IR nx
  exact PpSet.codeAny_compStart_set loop (T.self X.A 0 _ _ _ stK loop)
theorem pe_scT {elt tg iter : Expr} {ifs : List Expr} {scope : Scope} {own : List (PySem.Str × Nat)} {pos : Pos} {wi : TI} {g : TG} {tt : TT} {te : TE} (hc : X.calm = true) (hN : X.N.Nodup) (hi : PI X tg iter wi)
    (ok : BlkOk X.N X.env.scope scope own)
    (hg : ∀ (s : Shared) (H : Hp) (C : Addr) (cl : List (PySem.Str × Addr)) (fp : List Addr), PG (X.blk s H scope (compEnvC scope cl C X.env) fp) tg g)
    (ht : ∀ (s : Shared) (H : Hp) (C : Addr) (cl : List (PySem.Str × Addr)) (fp : List Addr), PTs (X.blk s H scope (compEnvC scope cl C X.env) fp) ifs tt)
    (he : ∀ (s : Shared) (H : Hp) (C : Addr) (cl : List (PySem.Str × Addr)) (fp : List Addr), PE (X.blk s H scope (compEnvC scope cl C X.env) fp) elt te)
    (hs : ∀ x, foldedSetIterable iter X.env x = pure x := by intro _; rfl) : PE X (.SetComp elt [⟨tg, iter, ifs, 0⟩] scope pos) (tScT X.w wi g tt te (own.map (·.2))) := by
  refine ⟨fun pins s σ H Q I h => ?_⟩
  rw [PpSet.eval_SetComp]
  refine scT_core hc hN I hi ok hg ht he hs h fun D C s' m H' I' q hn f => ⟨m, hn, fun h'' sb => ?_⟩
  obtain ⟨f0, f1, f2, f3, f4, f5⟩ := f
  exact ⟨.ref D, H', I'.turned (t' := s'.toks) (fun b o hb e => (sb.2 b hb).trans e) f0 f1 f3 f4 f5, rfl, q⟩
end
/-- the texts of a list, each once, by first place -/
def once (zs : List Str) : List Str := zs.foldl addT []
theorem once_snoc (zs : List Str) (z : Str) : once (zs ++ [z]) = addT (once zs) z := by
  unfold once
  rw [List.foldl_append]
  rfl
theorem once_len (zs : List Str) : (once zs).length ≤ zs.length := by
  have h : ∀ (l acc : List Str), (l.foldl addT acc).length ≤ acc.length + l.length := by
    intro l
    induction l with
    | nil => intro acc; exact Nat.le_refl _
    | cons z l ih =>
      intro acc
      have e := ih (addT acc z)
      have f : (addT acc z).length ≤ acc.length + 1 := by
        unfold addT
        split
        · omega
        · simp
      show (l.foldl addT (addT acc z)).length ≤ _
      rw [List.length_cons]
      omega
  have := h zs []
  simpa [once] using this
theorem once_mem (zs : List Str) (y : Str) : y ∈ once zs ↔ y ∈ zs := by
  have h : ∀ (l acc : List Str), y ∈ l.foldl addT acc ↔ y ∈ acc ∨ y ∈ l := by
    intro l
    induction l with
    | nil => intro acc; simp
    | cons z l ih =>
      intro acc
      show y ∈ l.foldl addT (addT acc z) ↔ _
      rw [ih]
      unfold addT
      split
      · rename_i m
        simp only [List.mem_cons]
        constructor
        · rintro (a | a)
          · exact .inl a
          · exact .inr (.inr a)
        · rintro (a | a | a)
          · exact .inl a
          · exact .inl (a ▸ m)
          · exact .inr a
      · simp only [List.mem_append, List.mem_cons, List.not_mem_nil, or_false, or_assoc]
  simpa [once] using h zs []
theorem once_nodup (zs : List Str) : (once zs).Nodup := by
  have h : ∀ (l acc : List Str), acc.Nodup → (l.foldl addT acc).Nodup := by
    intro l
    induction l with
    | nil => intro acc h; exact h
    | cons z l ih =>
      intro acc h
      refine ih _ ?_
      unfold addT
      split
      · exact h
      · rename_i m
        exact nd_snoc h m
  exact h zs [] .nil
end Cs

set_option Elab.async false
set_option linter.all false
set_option maxRecDepth 100000
set_option maxHeartbeats 4000000
/-! Plain laws: texts in order, tables of words and integers, what is told of a table. -/
namespace Cs
open PySem L2 PyProof.Rows
/-! ### the order of texts -/
def SLt (a b : Str) : Prop := a.cps.toList < b.cps.toList
theorem slt_irrefl (a : Str) : ¬ SLt a a := List.lt_irrefl _
theorem slt_trans {a b c : Str} (h : SLt a b) (k : SLt b c) : SLt a c := List.lt_trans h k
theorem str_ext {a b : Str} (h : a.cps.toList = b.cps.toList) : a = b := by
  cases a
  cases b
  congr
  exact Array.toList_inj.mp h
theorem slt_total {a b : Str} (h : ¬ SLt b a) (n : a ≠ b) : SLt a b := by
  have h1 : a.cps.toList ≤ b.cps.toList := List.not_lt.mp h
  apply Classical.byContradiction
  intro q
  exact n (str_ext (List.le_antisymm h1 (List.not_lt.mp q)))
theorem slt_of_le_lt {a b c : Str} (h : ¬ SLt b a) (k : SLt b c) : SLt a c := List.lt_of_le_of_lt (List.not_lt.mp h) k
/-- ascending, none twice -/
def Asc (zs : List Str) : Prop := zs.Pairwise SLt
theorem rising_pw : ∀ (r : List Str) (p : Str), risingS p r = true → (p :: r).Pairwise (fun a b => ¬ SLt b a)
  | [], p, _ => List.pairwise_singleton _ _
  | x :: r, p, h => by
    have h : (!PySem.Spec.ltCps x.cps.toList p.cps.toList && risingS x r) = true := h
    rw [Bool.and_eq_true, ltCps_eq] at h
    have ih := rising_pw r x h.2
    have h1 : ¬ SLt x p := by
      have := h.1
      intro q
      rw [decide_eq_true (show x.cps.toList < p.cps.toList from q)] at this
      cases this
    refine List.pairwise_cons.mpr ⟨fun y hy => ?_, ih⟩
    rcases List.mem_cons.mp hy with e | e
    · rw [e]
      exact h1
    · have h2 := (List.pairwise_cons.mp ih).1 y e
      exact fun q => h1 (slt_of_le_lt h2 q)
theorem sorted_pw : ∀ {zs : List Str}, sortedS zs = true → zs.Pairwise (fun a b => ¬ SLt b a)
  | [], _ => .nil
  | x :: r, h => rising_pw r x h
theorem asc_of_sorted {zs : List Str} (h : sortedS zs = true) (n : zs.Nodup) : Asc zs := by
  have a := sorted_pw h
  have b : zs.Pairwise (fun a b => ¬ SLt b a ∧ a ≠ b) := a.and n
  exact b.imp fun h => slt_total h.1 h.2
theorem Asc.nodup {zs : List Str} (h : Asc zs) : zs.Nodup := h.imp fun {a b} (q : SLt a b) (e : a = b) => slt_irrefl a (by rw [← e] at q; exact q)
/-- ascending lists with the same members are one -/
theorem asc_eq : ∀ {xs ys : List Str}, Asc xs → Asc ys → (∀ z, z ∈ xs ↔ z ∈ ys) → xs = ys
  | [], [], _, _, _ => rfl
  | [], y :: ys, _, _, h => absurd ((h y).mpr List.mem_cons_self) (by simp)
  | x :: xs, [], _, _, h => absurd ((h x).mp List.mem_cons_self) (by simp)
  | x :: xs, y :: ys, a, b, h => by
    obtain ⟨a1, a2⟩ := List.pairwise_cons.mp a
    obtain ⟨b1, b2⟩ := List.pairwise_cons.mp b
    have e : x = y := by
      rcases List.mem_cons.mp ((h x).mp List.mem_cons_self) with e | e
      · exact e
      · rcases List.mem_cons.mp ((h y).mpr List.mem_cons_self) with f | f
        · exact f.symm
        · exact absurd (slt_trans (a1 y f) (b1 x e)) (slt_irrefl x)
    subst e
    rw [asc_eq a2 b2 fun z => ?_]
    constructor
    · intro m
      rcases List.mem_cons.mp ((h z).mp (List.mem_cons_of_mem _ m)) with e | e
      · exact absurd (e ▸ a1 z m) (slt_irrefl _)
      · exact e
    · intro m
      rcases List.mem_cons.mp ((h z).mpr (List.mem_cons_of_mem _ m)) with e | e
      · exact absurd (e ▸ b1 z m) (slt_irrefl _)
      · exact e
/-! ### tables -/
abbrev Tab := List (Str × Int)
def keys (t : Tab) : List Str := t.map (·.1)
def look (t : Tab) (z : Str) : Option Int := (t.find? fun q => decide (q.1 = z)).map (·.2)
def val (t : Tab) (z : Str) : Int := (look t z).getD 0
def put (t : Tab) (z : Str) (n : Int) : Tab := if (t.any fun q => decide (q.1 = z)) = true then t.map (fun q => if q.1 = z then (q.1, n) else q) else t ++ [(z, n)]
def drop (t : Tab) (z : Str) : Tab := t.filter fun q => decide (q.1 ≠ z)
theorem look_none : ∀ {t : Tab} {z : Str}, z ∉ keys t → look t z = none
  | [], _, _ => rfl
  | q :: t, z, h => by
    have h1 : q.1 ≠ z := fun e => h (by rw [← e]; exact List.mem_cons_self)
    have h2 : z ∉ keys t := fun m => h (List.mem_cons_of_mem _ m)
    have ih := look_none h2
    unfold look at ih ⊢
    rw [List.find?_cons, decide_eq_false h1]
    exact ih
theorem look_some : ∀ {t : Tab} {z : Str}, z ∈ keys t → ∃ n, look t z = some n ∧ (z, n) ∈ t
  | [], _, h => by simp [keys] at h
  | q :: t, z, h => by
    by_cases e : q.1 = z
    · refine ⟨q.2, ?_, ?_⟩
      · unfold look
        rw [List.find?_cons, decide_eq_true e]
        rfl
      · rw [← e]
        exact List.mem_cons_self
    · have h2 : z ∈ keys t := (List.mem_cons.mp h).resolve_left fun q => e q.symm
      obtain ⟨n, a, b⟩ := look_some h2
      refine ⟨n, ?_, List.mem_cons_of_mem _ b⟩
      unfold look at a ⊢
      rw [List.find?_cons, decide_eq_false e]
      exact a
theorem look_mem {t : Tab} (nd : (keys t).Nodup) {z : Str} {n : Int} (h : (z, n) ∈ t) : look t z = some n := by
  induction t with
  | nil => cases h
  | cons q t ih =>
    obtain ⟨n1, n2⟩ := List.nodup_cons.mp (show (q.1 :: keys t).Nodup from nd)
    rcases List.mem_cons.mp h with e | e
    · subst e
      unfold look
      rw [List.find?_cons, decide_eq_true rfl]
      rfl
    · have h1 : q.1 ≠ z := fun f => n1 (f ▸ List.mem_map.mpr ⟨_, e, rfl⟩)
      have := ih n2 e
      unfold look at this ⊢
      rw [List.find?_cons, decide_eq_false h1]
      exact this
theorem any_keys (t : Tab) (z : Str) : (t.any fun q => decide (q.1 = z)) = decide (z ∈ keys t) := by
  rw [Bool.eq_iff_iff, List.any_eq_true, decide_eq_true_eq]
  constructor
  · rintro ⟨q, m, e⟩
    exact List.mem_map.mpr ⟨q, m, of_decide_eq_true e⟩
  · intro m
    obtain ⟨q, m, e⟩ := List.mem_map.mp m
    exact ⟨q, m, decide_eq_true e⟩
theorem keys_put (t : Tab) (z : Str) (n : Int) : keys (put t z n) = if z ∈ keys t then keys t else keys t ++ [z] := by
  unfold put
  rw [any_keys]
  by_cases h : z ∈ keys t
  · rw [if_pos (decide_eq_true h), if_pos h]
    unfold keys
    rw [List.map_map]
    apply List.map_congr_left
    intro q _
    simp only [Function.comp]
    split <;> rfl
  · rw [if_neg (by simpa using h), if_neg h]
    unfold keys
    rw [List.map_append]
    rfl
theorem mem_keys_put {t : Tab} {z y : Str} {n : Int} : y ∈ keys (put t z n) ↔ y ∈ keys t ∨ y = z := by
  rw [keys_put]
  split
  · rename_i h
    exact ⟨.inl, fun q => q.elim id fun e => e ▸ h⟩
  · rw [List.mem_append, List.mem_singleton]
theorem nd_put {t : Tab} {z : Str} {n : Int} (h : (keys t).Nodup) : (keys (put t z n)).Nodup := by
  rw [keys_put]
  split
  · exact h
  · rename_i m
    exact nd_snoc h m
theorem mem_put {t : Tab} {z y : Str} {n m : Int} (h : (y, m) ∈ put t z n) : (y = z ∧ m = n) ∨ (y ≠ z ∧ (y, m) ∈ t) := by
  unfold put at h
  rw [any_keys] at h
  by_cases k : z ∈ keys t
  · rw [if_pos (decide_eq_true k)] at h
    obtain ⟨q, hq, e⟩ := List.mem_map.mp h
    by_cases c : q.1 = z
    · rw [if_pos c] at e
      left
      exact ⟨by rw [← c]; exact (congrArg Prod.fst e).symm, (congrArg Prod.snd e).symm⟩
    · rw [if_neg c] at e
      right
      subst e
      exact ⟨c, hq⟩
  · rw [if_neg (by simpa using k)] at h
    rcases List.mem_append.mp h with a | a
    · right
      exact ⟨fun e => k (e ▸ List.mem_map.mpr ⟨_, a, rfl⟩), a⟩
    · left
      have := List.mem_singleton.mp a
      exact ⟨congrArg Prod.fst this, congrArg Prod.snd this⟩
theorem look_put {t : Tab} {z y : Str} {n : Int} (h : (keys t).Nodup) : look (put t z n) y = if y = z then some n else look t y := by
  by_cases k : y ∈ keys (put t z n)
  · obtain ⟨m, a, b⟩ := look_some k
    rw [a]
    rcases mem_put b with ⟨e, f⟩ | ⟨e, f⟩
    · rw [if_pos e, f]
    · rw [if_neg e, look_mem h f]
  · rw [look_none k]
    have k2 : ¬ (y ∈ keys t ∨ y = z) := fun q => k (mem_keys_put.mpr q)
    rw [if_neg fun e => k2 (.inr e), look_none fun e => k2 (.inl e)]
theorem val_put {t : Tab} {z y : Str} {n : Int} (h : (keys t).Nodup) : val (put t z n) y = if y = z then n else val t y := by
  unfold val
  rw [look_put h]
  split <;> rfl
theorem keys_drop (t : Tab) (z : Str) : keys (drop t z) = (keys t).filter fun y => decide (y ≠ z) := by
  unfold keys drop
  rw [List.filter_map]
  rfl
theorem nd_drop {t : Tab} {z : Str} (h : (keys t).Nodup) : (keys (drop t z)).Nodup := by
  rw [keys_drop]
  exact h.filter _
theorem look_drop {t : Tab} {z y : Str} (h : (keys t).Nodup) : look (drop t z) y = if y = z then none else look t y := by
  by_cases k : y ∈ keys (drop t z)
  · obtain ⟨m, a, b⟩ := look_some k
    have c := List.mem_filter.mp b
    have d : y ≠ z := of_decide_eq_true c.2
    rw [a, if_neg d, look_mem h c.1]
  · rw [look_none k]
    by_cases e : y = z
    · rw [if_pos e]
    · rw [if_neg e, look_none]
      intro m
      apply k
      rw [keys_drop]
      exact List.mem_filter.mpr ⟨m, decide_eq_true e⟩
theorem val_drop {t : Tab} {z y : Str} (h : (keys t).Nodup) : val (drop t z) y = if y = z then 0 else val t y := by
  unfold val
  rw [look_drop h]
  split <;> rfl
theorem len_put (t : Tab) (z : Str) (n : Int) : (put t z n).length ≤ t.length + 1 := by
  unfold put
  split
  · rw [List.length_map]
    omega
  · rw [List.length_append]
    exact Nat.le_refl _
/-! ### what is told of a table: the words ascending whose integer is not 0 -/
/-- ws holds the table's words, ascending -/
def toldBy (t : Tab) (ws : List Str) : Tab := (ws.filter fun z => decide (val t z ≠ 0)).map fun z => (z, val t z)
/-- l is what is told of a table with these values -/
structure Told (f : Str → Int) (l : Tab) : Prop where
  asc : Asc (keys l)
  mem : ∀ z n, (z, n) ∈ l ↔ n = f z ∧ n ≠ 0
theorem Told.keys_iff {f : Str → Int} {l : Tab} (h : Told f l) (z : Str) : z ∈ keys l ↔ f z ≠ 0 := by
  constructor
  · intro m
    obtain ⟨⟨y, n⟩, hm, e⟩ := List.mem_map.mp m
    have e : y = z := e
    subst e
    obtain ⟨a, b⟩ := (h.mem _ _).mp hm
    rw [← a]
    exact b
  · intro q
    exact List.mem_map.mpr ⟨(z, f z), (h.mem _ _).mpr ⟨rfl, q⟩, rfl⟩
theorem Told.form {f : Str → Int} {l : Tab} (h : Told f l) : l = (keys l).map fun z => (z, f z) := by
  unfold keys
  rw [List.map_map]
  conv => lhs; rw [← List.map_id l]
  apply List.map_congr_left
  intro q m
  have := ((h.mem q.1 q.2).mp m).1
  show q = (q.1, f q.1)
  rw [← this]
theorem told_eq {f g : Str → Int} {l m : Tab} (a : Told f l) (b : Told g m) (h : ∀ z, f z = g z) : l = m := by
  have e : f = g := funext h
  subst e
  have k : keys l = keys m := asc_eq a.asc b.asc fun z => by rw [a.keys_iff, b.keys_iff]
  rw [a.form, b.form, k]
theorem told_of {t : Tab} {ws : List Str} (nd : (keys t).Nodup) (ha : Asc ws) (hm : ∀ z, z ∈ ws ↔ z ∈ keys t) : Told (val t) (toldBy t ws) := by
  have ek : keys (toldBy t ws) = ws.filter fun z => decide (val t z ≠ 0) := by
    unfold keys toldBy
    rw [List.map_map]
    exact List.map_id _
  refine ⟨?_, fun z n => ?_⟩
  · rw [ek]
    exact List.Pairwise.filter _ ha
  · unfold toldBy
    rw [List.mem_map]
    constructor
    · rintro ⟨y, m, e⟩
      have e1 : y = z := congrArg Prod.fst e
      have e2 : val t y = n := congrArg Prod.snd e
      subst e1
      subst e2
      exact ⟨rfl, of_decide_eq_true (List.mem_filter.mp m).2⟩
    · rintro ⟨rfl, q⟩
      refine ⟨z, List.mem_filter.mpr ⟨?_, decide_eq_true q⟩, rfl⟩
      rw [hm]
      apply Classical.byContradiction
      intro k
      exact q (by unfold val; rw [look_none k]; rfl)
/-! ### a table as a dict's pairs -/
def tv (t : Tab) : List (Key × V) := t.map fun q => (Sum.inr q.1, V.int q.2)
theorem tv_len (t : Tab) : (tv t).length = t.length := List.length_map _
theorem tv_val (t : Tab) (z : Str) : valV (tv t) (Sum.inr z) = (look t z).map V.int := by
  unfold valV tv look
  induction t with
  | nil => rfl
  | cons q t ih =>
    rw [List.map_cons, List.find?_cons, List.find?_cons]
    by_cases e : q.1 = z
    · rw [decide_eq_true e, decide_eq_true (show (Sum.inr q.1 : Key) = Sum.inr z by rw [e])]
      rfl
    · rw [decide_eq_false e, decide_eq_false (show ¬ (Sum.inr q.1 : Key) = Sum.inr z from fun f => e (Sum.inr.inj f))]
      exact ih
theorem tv_any (t : Tab) (z : Str) : ((tv t).any fun kv => decide (kv.1 = Sum.inr z)) = t.any fun q => decide (q.1 = z) := by
  unfold tv
  rw [List.any_map]
  congr 1
  funext q
  exact key_rr q.1 z
theorem tv_put (t : Tab) (z : Str) (n : Int) : putK (tv t) (Sum.inr z) (V.int n) = tv (put t z n) := by
  unfold putK put
  rw [tv_any]
  split
  · unfold tv
    rw [List.map_map, List.map_map]
    apply List.map_congr_left
    intro q _
    simp only [Function.comp]
    by_cases e : q.1 = z
    · rw [if_pos e, if_pos (show (Sum.inr q.1 : Key) = Sum.inr z by rw [e])]
    · rw [if_neg e, if_neg (show ¬ (Sum.inr q.1 : Key) = Sum.inr z from fun f => e (Sum.inr.inj f))]
  · unfold tv
    rw [List.map_append]
    rfl
theorem tv_drop (t : Tab) (z : Str) : dropK (tv t) (Sum.inr z) = tv (drop t z) := by
  unfold dropK drop tv
  rw [List.filter_map]
  congr 1
  apply List.filter_congr
  intro q _
  simp only [Function.comp]
  by_cases e : q.1 = z
  · simp [e]
  · have : ¬ (Sum.inr q.1 : Key) = Sum.inr z := fun f => e (Sum.inr.inj f)
    simp [e, this]
/-- pairs added up word by word -/
def addUp (ps : List (Str × Int)) : Tab := ps.foldl (fun t q => put t q.1 (val t q.1 + q.2)) []
/-- the integers of a word in pairs -/
def sumOf (ps : List (Str × Int)) (z : Str) : Int := ((ps.filter fun q => decide (q.1 = z)).map (·.2)).sum
theorem addUp_snoc (ps : List (Str × Int)) (q : Str × Int) : addUp (ps ++ [q]) = put (addUp ps) q.1 (val (addUp ps) q.1 + q.2) := by
  unfold addUp
  rw [List.foldl_append]
  rfl
theorem snoc_rec {α : Type} {C : List α → Prop} (h0 : C []) (h1 : ∀ l a, C l → C (l ++ [a])) : ∀ l, C l := by
  intro l
  have : ∀ n (l : List α), l.length = n → C l := by
    intro n
    induction n with
    | zero => intro l hl; rw [List.length_eq_zero_iff.mp hl]; exact h0
    | succ n ih =>
      intro l hl
      have hne : l ≠ [] := by intro e; rw [e] at hl; cases hl
      rw [← List.dropLast_concat_getLast hne]
      exact h1 _ _ (ih _ (by rw [List.length_dropLast, hl]; rfl))
  exact this _ l rfl
theorem addUp_nd : ∀ ps, (keys (addUp ps)).Nodup := snoc_rec List.nodup_nil fun l a h => by
  rw [addUp_snoc]
  exact nd_put h
theorem addUp_val (z : Str) : ∀ ps, val (addUp ps) z = sumOf ps z := snoc_rec rfl fun l a h => by
  rw [addUp_snoc, val_put (addUp_nd l)]
  unfold sumOf at h ⊢
  rw [List.filter_append, List.map_append, List.sum_append]
  by_cases e : a.1 = z
  · rw [if_pos e.symm]
    subst e
    rw [h]
    simp
  · rw [if_neg fun q => e q.symm, h]
    simp [e]
theorem addUp_len : ∀ ps, (addUp ps).length ≤ ps.length := snoc_rec (Nat.le_refl _) fun l a h => by
  rw [addUp_snoc, List.length_append]
  exact Nat.le_trans (len_put _ _ _) (Nat.succ_le_succ h)
/-- without zeros -/
def noZero (t : Tab) : Tab := t.filter fun q => decide (q.2 ≠ 0)
theorem noZero_nd {t : Tab} (h : (keys t).Nodup) : (keys (noZero t)).Nodup := by
  unfold keys noZero
  exact List.Nodup.sublist ((List.filter_sublist).map _) h
theorem noZero_mem {t : Tab} {q : Str × Int} : q ∈ noZero t ↔ q ∈ t ∧ q.2 ≠ 0 := by
  unfold noZero
  rw [List.mem_filter, decide_eq_true_eq]
theorem noZero_val {t : Tab} (h : (keys t).Nodup) (z : Str) : val (noZero t) z = val t z := by
  unfold val
  by_cases k : z ∈ keys (noZero t)
  · obtain ⟨n, a, b⟩ := look_some k
    rw [a, look_mem h (noZero_mem.mp b).1]
  · rw [look_none k]
    by_cases m : z ∈ keys t
    · obtain ⟨n, a, b⟩ := look_some m
      rw [a]
      by_cases e : n = 0
      · rw [e]
        rfl
      · exact absurd (List.mem_map.mpr ⟨(z, n), noZero_mem.mpr ⟨b, e⟩, rfl⟩) k
    · rw [look_none m]
/-- a table as Counts hold it -/
structure Held (t : Tab) : Prop where
  nd : (keys t).Nodup
  nz : ∀ q ∈ t, q.2 ≠ 0
theorem Held.of {t : Tab} (h : (keys t).Nodup) : Held (noZero t) := ⟨noZero_nd h, fun q m => (noZero_mem.mp m).2⟩
theorem Held.keys_iff {t : Tab} (h : Held t) (z : Str) : z ∈ keys t ↔ val t z ≠ 0 := by
  unfold val
  constructor
  · intro m
    obtain ⟨n, a, b⟩ := look_some m
    rw [a]
    exact h.nz _ b
  · intro q
    apply Classical.byContradiction
    intro m
    rw [look_none m] at q
    exact q rfl
/-- the pairs of held counts, by their words ascending -/
theorem Held.told {t : Tab} (h : Held t) {ws : List Str} (ha : Asc ws) (hm : ∀ z, z ∈ ws ↔ z ∈ keys t) : Told (val t) (ws.map fun z => (z, val t z)) := by
  have := told_of h.nd ha hm
  unfold toldBy at this
  rw [List.filter_eq_self.mpr] at this
  · exact this
  · intro z m
    exact decide_eq_true ((h.keys_iff z).mp ((hm z).mp m))
end Cs

set_option Elab.async false
set_option linter.all false
set_option maxRecDepth 100000
set_option maxHeartbeats 4000000
/-! What an own class's special methods do: len(o), o[i], o[i] = v; classes called with a starred list. -/
namespace Cs
open PySem PySem.Spec PyProof.Rows L2
/-- a special method of the class at C -/
structure Spc (K : PySem.W.Frag) (C : Addr) (m : Str) (f : Addr) : Prop where
  at_ : PySem.W.findIn K (.ref C) m = some (some (.ref f))
  fn : PySem.W.isFn K (.ref f) = true
section
variable {X : Cx} {CX : CXT} {k i : Nat} {f C g : Addr} {fd : FuncData} {ps : List Str} {sp : Sp} {dvs : List V} {ds : List Value} {E : XK} {x m : Str} {e o : Expr} {es : List Expr} {te ta : TE} {t : TA} {p sp_ pos apos : Pos}
/-- a def run one level down -/
theorem run_fn1 {pins : List (Addr × Obj)} {σ : L2.St} {H : Hp} {s : Shared} {Q : VK} {us : List Value} {vs : List V} (F : FnOk X.prog X.w X.K X.mg X.base CX k f fd ps sp) (hr : Room (k + 1) X.A) (hb : Binds X.K fd ps []) (hx : Passes CX X E)
    (I : Inv X pins σ H s) (r : Vals vs us) (h : sp vs H Q E) : wpAny (model X.prog X.w) X.A.in1 (call (.ref f) us) (EP X pins σ Q) X.xe s := by
  have hl : us.length = ps.length := by rw [← r.length]; exact F.len _ _ _ _ h
  have hb' := hb s us I.kIn (by rw [List.append_nil]; exact hl)
  rw [List.append_nil] at hb'
  refine wpAny_call (codeAny_mono (F.run X.A.in1 X.stack s H ⟨us, []⟩ us vs Q E hr.in1 I.env0.in1 hb' r h) fun r s' hq => ?_)
  cases r with
  | error e => exact hx pins σ H s e s' I hq
  | ok fl =>
    cases fl with
    | ret u => exact I.after hq
    | next => exact False.elim hq
    | brk => exact False.elim hq
    | cont => exact False.elim hq
theorem ins_inst {pins : List (Addr × Obj)} {σ : L2.St} {H : Hp} {s : Shared} {a dx : Addr} {fs : List (Str × V)} (I : Inv X pins σ H s) (h : H a = some (.ins C dx fs)) : ∃ ox od, PySem.W.InstAt s.heap a ox C od ∧ ox.data = .plain := by
  obtain ⟨mA, O, _⟩ := ins_get I.hok h
  obtain ⟨od, J, _⟩ := O.look
  exact ⟨_, _, J, rfl⟩
/-- len(o) by an own __len__ -/
def rLenO (C : Addr) (sp : Sp) (E : XK) : List V → Hp → VK → Prop := fun xs H Q => ∃ a dx fs, xs = [.ref a] ∧ H a = some (.ins C dx fs) ∧ sp [.ref a] H (fun v H2 => ∃ n : Int, v = .int n ∧ (0 ≤ n ∧ n < 2 ^ 63) ∧ Q (.int n) H2) E
theorem call_lenO (c : Spc X.K C "__len__" f) (F : FnOk X.prog X.w X.K X.mg X.base CX k f fd ps sp) (hr : Room (k + 1) X.A) (hb : Binds X.K fd ps []) (hx : Passes CX X E) : CallR X (.builtin "len") (rLenO C sp E) := by
  intro pins s σ H xs us Q I r h
  obtain ⟨a, dx, fs, rfl, ha, q⟩ := h
  rw [Vals.ref1 r]
  obtain ⟨ox, od, J, _⟩ := ins_inst I ha
  obtain ⟨m, Fr⟩ := I.fr
  refine PySem.W.len_K Fr I.ok.mod.kin J c.at_ c.fn (wpAny_mono (run_fn1 (us := [.ref a]) (vs := [.ref a]) F hr hb hx I (.cons rfl .nil) q) (fun v s' z => ?_) fun _ _ z => z)
  obtain ⟨v0, H2, I2, rv, n, e, hn, q2⟩ := z
  subst e
  obtain ⟨tk, rfl⟩ := rv
  exact ⟨hn, .int n, H2, I2.tok _, ⟨_, rfl⟩, q2⟩
/-- o[i] = v by an own __setitem__ -/
def rSetO (C : Addr) (sp : Sp) (E : XK) : V → V → V → Hp → (Hp → Prop) → Prop := fun o i v H Q => ∃ a dx fs, o = .ref a ∧ H a = some (.ins C dx fs) ∧ sp [.ref a, i, v] H (fun _ H2 => Q H2) E
theorem set_own (c : Spc X.K C "__setitem__" f) (hq : PySem.W.noSeq X.K C = true) (F : FnOk X.prog X.w X.K X.mg X.base CX k f fd ps sp) (hr : Room k X.A) (hb : Binds X.K fd ps []) (hx : Passes CX X E) : PSet X (rSetO C sp E) := by
  intro pins s σ H o i v ov iv u Q I ro ri rv h
  obtain ⟨a, dx, fs, rfl, ha, q⟩ := h
  cases ro
  obtain ⟨ox, od, J, _⟩ := ins_inst I ha
  obtain ⟨m, Fr⟩ := I.fr
  refine PySem.W.ksp_setItem Fr I.ok.mod.kin J hq c.at_ c.fn ?_
  refine wpAny_mono (run_fn (us := [.ref a, iv, u]) (vs := [.ref a, i, v]) (dvs := []) F hr hb .nil hx I (.cons rfl (.cons ri (.cons rv .nil))) q) (fun v s' z => ?_) fun _ _ z => z
  obtain ⟨v0, H2, I2, _, q2⟩ := z
  exact ⟨H2, I2, q2⟩
/-- C(*y), C a class of the module -/
def tMkS (K : PySem.W.Frag) (C : Addr) (sp : Sp) (E : XK) (te : TE) : TE := fun σ H Q => te σ H fun y H1 => ∃ a xs, y = V.ref a ∧ (SqT K H1 a xs ∨ SqL K H1 a xs) ∧ ∀ x dx, H1 x = none → H1 dx = none → dx ≠ x →
  sp (V.ref x :: xs) (upd (upd H1 dx (.own x)) x (.ins C dx [])) (fun v H2 => v = .non ∧ Q (.ref x) H2) E
theorem pe_mkS (M : Mk X.K C f) (F : FnR X.prog X.w X.K X.mg X.base CX k f sp) (hr : Room (k + 1) X.A) (hg : Gl X x) (hm : X.mg x = some (.ref C)) (hx : Passes CX X E) (he : PE X e te) (hd : (x == ("__debug__" : Str)) = false := by decide)
    (hst : starEach [.Starred e sp_] X.env = [(true, eval e X.env)] := by rfl) : PE X (.Call (.Name x p) [.Starred e sp_] [] pos) (tMkS X.K C sp E te) := by
  refine ⟨fun pins s σ H Q I h => ?_⟩
  refine wpAny_Call_Name_kw (ld_glob I hg hm ?_ hd)
  refine PySem.W.callWith_S (h₀ := X.base) I.ok.mod.kin M.kp (thn (he.run pins s σ H _ I h) fun v s1 ⟨y, H1, I1, ry, a, xs, ey, hxs, q⟩ => ?_) hst
  subst ey
  obtain rfl : v = Value.ref a := ry
  exact StX.star_any I1 hxs fun us s2 I2 rv => ⟨I2.kIn, StX.run_makeR M F hr hx I2 rv q⟩
/-- c(*y), c a local name that holds the class -/
theorem pe_mkSL (M : Mk X.K C f) (F : FnR X.prog X.w X.K X.mg X.base CX k f sp) (hr : Room (k + 1) X.A) (hN : X.N[i]? = some x) (hv : Vis X.env.scope x) (hx : Passes CX X E) (he : PE X e te) (hdb : (x == ("__debug__" : Str)) = false := by decide)
    (hcd : (x == ("__classdict__" : Str)) = false := by decide) (hst : starEach [.Starred e sp_] X.env = [(true, eval e X.env)] := by rfl) :
    PE X (.Call (.Name x p) [.Starred e sp_] [] pos) (fun σ H Q => σ[i]? = some (some (.ref C)) ∧ tMkS X.K C sp E te σ H Q) := by
  refine ⟨fun pins s σ H Q I h => ?_⟩
  obtain ⟨hs, h⟩ := h
  refine wpAny_Call_Name_kw (thn ((pe_var (pos := p) hN hv hdb hcd).run pins s σ H (fun v H1 => v = .ref C ∧ H1 = H) I ⟨.ref C, hs, rfl, rfl⟩) fun u s0 ⟨v, H0, I0, r0, q0⟩ => ?_)
  obtain ⟨rfl, rfl⟩ := q0
  cases r0
  refine PySem.W.callWith_S (h₀ := X.base) I.ok.mod.kin M.kp (thn (he.run pins s0 σ _ _ I0 h) fun v s1 ⟨y, H1, I1, ry, a, xs, ey, hxs, q⟩ => ?_) hst
  subst ey
  obtain rfl : v = Value.ref a := ry
  exact StX.star_any I1 hxs fun us s2 I2 rv => ⟨I2.kIn, StX.run_makeR M F hr hx I2 rv q⟩
/-- C(), by a positional promise -/
theorem pe_mkR0 (M : Mk X.K C f) (F : FnR X.prog X.w X.K X.mg X.base CX k f sp) (hr : Room (k + 1) X.A) (hg : Gl X x) (hm : X.mg x = some (.ref C)) (hx : Passes CX X E) (hdb : (x == ("__debug__" : Str)) = false := by decide) :
    PE X (.Call (.Name x p) [] [] pos) (StX.tMakeR C sp E tNil) := by
  refine ⟨fun pins s σ H Q I h => ?_⟩
  refine wpAny_Call_Name_kw (ld_glob I hg hm ?_ hdb)
  exact PySem.W.callWith_K0 I.kIn M.kp (StX.run_makeR (us := []) M F hr hx I .nil h)
/-- o.m() by a positional promise -/
theorem pe_methR0 {pl : Sem Bool} (he : PE X o ta) (c : Cls X.K C) (hm : Meth X.K C m f) (F : FnR X.prog X.w X.K X.mg X.base CX k f sp) (hr : Room k X.A) (hx : Passes CX X E)
    (ht : eval (.Call (.Attribute o m apos) [] [] pos) X.env = (do
      let ov ← eval o X.env
      standAt apos.atName
      let (f, first) ← holding [ov] (getMethod ov m pl)
      callWith pos f first (backTo pos (starEach [] X.env)) (backToKw pos (keywordEach [] X.env))) := by rfl) :
    PE X (.Call (.Attribute o m apos) [] [] pos) (tMethR C m sp E ta tNil) := by
  refine ⟨fun pins s σ H Q I h => ?_⟩
  refine PySem.W.methodCall_KW (pl := pl) (thn (he.run pins s σ H _ I h) fun u s1 ⟨x, H1, I1, rx, a, dx, fs, ex, ea, l, q⟩ => ?_) ht
  subst ex
  obtain rfl : u = Value.ref a := rx
  refine getmeth_ok I1 ea c hm l ?_
  exact PySem.W.callWith_K0 (first := [.ref a]) I1.kIn hm.kp (wpAny_call (run_fnR (us := [.ref a]) (vs := [.ref a]) F hr hx I1 (.cons rfl .nil) q))
end
end Cs

set_option Elab.async false
set_option linter.all false
set_option maxRecDepth 100000
set_option maxHeartbeats 4000000
/-! Operators of an own class: + - * & | ^ and the like, unary minus, abs, comparisons, op=, o[i]. -/
namespace Cs
open PySem PySem.Spec PyProof.Rows L2
/-- no value of the layer is NotImplemented -/
theorem back_of {X : Cx} {pins : List (Addr × Obj)} {σ : L2.St} {Q : VK} {u : Value} {s : Shared} (h : EP X pins σ Q u s) : PySem.W.CmpBack (EP X pins σ Q) u s := by
  obtain ⟨v, H', I, r, q⟩ := id h
  cases u <;> first | exact h | (cases v <;> first | (obtain ⟨_, z⟩ := r; cases z; done) | (exact absurd r (by intro z; cases z)))
section
variable {X : Cx} {CX : CXT} {k i : Nat} {f C g : Addr} {fd : FuncData} {ps : List Str} {sp : Sp} {E : XK} {a b : Expr} {ta tb : TE} {pos : Pos} {op : Operator}
/-- the class comes first in its own order -/
structure OpC (K : PySem.W.Frag) (C : Addr) (m : Str) (f : Addr) : Prop where
  sf : PySem.W.selfFirst K C = true
  at_ : PySem.W.findIn K (.ref C) m = some (some (.ref f))
  fn : PySem.W.isFn K (.ref f) = true
/-- x op y, both of the class -/
def rBinO (C : Addr) (sp : Sp) (E : XK) : R2 := fun x y H Q => ∃ p q dp dq fp fq, x = .ref p ∧ y = .ref q ∧ H p = some (.ins C dp fp) ∧ H q = some (.ins C dq fq) ∧ sp [.ref p, .ref q] H Q E
theorem op_own (c : OpC X.K C (PySem.dunder op.info.2) f) (F : FnOk X.prog X.w X.K X.mg X.base CX k f fd ps sp) (hr : Room k X.A) (hb : Binds X.K fd ps []) (hx : Passes CX X E) : OpR X (binaryOp op) (rBinO C sp E) := by
  intro pins s σ H x y v u Q I rx ry h
  obtain ⟨p, q, dp, dq, fp, fq, rfl, rfl, hp, hq, k⟩ := h
  cases rx
  cases ry
  obtain ⟨ox, od, J, _⟩ := ins_inst I hp
  obtain ⟨oy, oe, J2, _⟩ := ins_inst I hq
  obtain ⟨m, Fr⟩ := I.fr
  refine PySem.W.binop_K Fr I.ok.mod.kin J J2.type c.sf c.at_ c.fn ?_
  exact wpAny_mono (run_fn (us := [.ref p, .ref q]) (vs := [.ref p, .ref q]) (dvs := []) F hr hb .nil hx I (.cons rfl (.cons rfl .nil)) k) (fun v s' z => back_of z) fun _ _ z => z
/-- x op n, x of the class, n an int -/
def rBinI (C : Addr) (sp : Sp) (E : XK) : R2 := fun x y H Q => ∃ p dp fp n, x = .ref p ∧ y = .int n ∧ H p = some (.ins C dp fp) ∧ sp [.ref p, .int n] H Q E
structure OpT (K : PySem.W.Frag) (C : Addr) (nm : String) (f g : Addr) : Prop where
  sf : PySem.W.selfFirst K C = true
  at_ : PySem.W.findIn K (.ref C) (PySem.dunder nm) = some (some (.ref f))
  fn : PySem.W.isFn K (.ref f) = true
  rat : PySem.W.findIn K (.ref C) (dunderR nm) = some (some (.ref g))
  rfn : PySem.W.isFn K (.ref g) = true
  sub : PySem.W.subIn K (.type "int") (.ref C) = some false
  sub2 : PySem.W.subIn K (.ref C) (.type "int") = some false
theorem op_ownI {fo ro : Option Value} (c : OpT X.K C op.info.2 f g) (h1 : PySem.W.findIn X.K (.type "int") (PySem.dunder op.info.2) = some fo) (h2 : PySem.W.findIn X.K (.type "int") (dunderR op.info.2) = some ro)
    (F : FnOk X.prog X.w X.K X.mg X.base CX k f fd ps sp) (hr : Room k X.A) (hb : Binds X.K fd ps []) (hx : Passes CX X E) : OpR X (binaryOp op) (rBinI C sp E) := by
  intro pins s σ H x y v u Q I rx ry h
  obtain ⟨p, dp, fp, n, rfl, rfl, hp, k⟩ := h
  cases rx
  obtain ⟨t, rfl⟩ := ry
  obtain ⟨ox, od, J, _⟩ := ins_inst I hp
  obtain ⟨m, Fr⟩ := I.fr
  refine PySem.W.ksp_binT (T := "int") (b := .int n t) Fr I.ok.mod.kin J rfl c.sf c.at_ c.fn c.rat (.inr ⟨g, rfl⟩) h1 h2 c.sub ?_
  exact wpAny_mono (run_fn (us := [.ref p, .int n t]) (vs := [.ref p, .int n]) (dvs := []) F hr hb .nil hx I (.cons rfl (.cons ⟨t, rfl⟩ .nil)) k) (fun v s' z => back_of z) fun _ _ z => z
/-- int.__mul__ of an object that is no int -/
theorem mul_other {prog : Program} {w : World} {A : Around} {E : Value → Shared → Prop} {s : Shared} {x : Addr} {o : Obj} {n : Int} {t : Tok} {Q : Option Value → Shared → Prop} (ho : s.heap.get? x = some o) (hd : o.data = .plain) (h : Q none s) :
    wpAny (model prog w) A (tryMethod (.int n t) (PySem.dunder "mul") (.ref x)) Q E s := by
  unfold tryMethod
  refine wpAny_bind (PySem.wpAny_callSpecial?_slot (typeIs_int s n t) PySem.F.slot_int_mul (wpAny_call_entry PySem.F.slot_int_mul (typeIs_int s n t) PySem.F.entry_int_mul ?_ (PySem.F.args_int_mul_2 _ _)))
  unfold Builtin.«int.__mul__»
  obtain ⟨hp, gg, d, tk, os⟩ := s
  obtain ⟨cls, dict, data, slots⟩ := o
  subst hd
  have ho1 := ho
  wp_walk using wpAny_load ho1
  exact ⟨_, rfl, wpAny_pure h⟩
/-- n * x, x of the class: by its own __rmul__ -/
theorem mul_right {prog : Program} {w : World} {A : Around} {E : Value → Shared → Prop} {s : Shared} {K : PySem.W.Frag} {x : Addr} {ox : Obj} {od : Option Obj} {n : Int} {t : Tok} {Q : Value → Shared → Prop} {ro : Option Value} (X : K.In s.heap) (I : PySem.W.InstAt s.heap x ox C od) (hd : ox.data = .plain)
    (hx : s.heap.get? x = some ox) (c : OpT K C "mul" f g) (h1 : PySem.W.findIn K (.type "int") (PySem.dunder "mul") = some (some (.builtin "int.__mul__"))) (h2 : PySem.W.findIn K (.type "int") (dunderR "mul") = some ro)
    (h : wpAny (model prog w) A (call (.ref g) [.ref x, .int n t]) (PySem.W.CmpBack Q) E s) : wpAny (model prog w) A (binaryOp .Mult (.int n t) (.ref x)) Q E s := by
  obtain ⟨cd, rest, hcd, hm⟩ := PySem.W.ksp_first c.sf
  have one := PySem.W.ksp_try X I c.rat c.rfn h
  have oth := fun Q' (q : Q' none s) => mul_other (prog := prog) (w := w) (A := A) (E := E) (n := n) (t := t) (Q := Q') hx hd q
  have L1 : PySem.W.Looks (model prog w) s.heap (typeOf (.int n t)) (.type "int") := PySem.W.Looks.of_pure rfl
  have L2 : PySem.W.Looks (model prog w) s.heap (typeOf (.ref x)) (.ref C) := I.type
  have L3 : PySem.W.Looks (model prog w) s.heap (fillsNumberSlot (.type "int") "mul") true := by
    have := PySem.W.ksp_fillsT (M := model prog w) X h1 h2
    exact this
  have L4 : PySem.W.Looks (model prog w) s.heap (fillsNumberSlot (.ref C) "mul") true := PySem.W.fills_K X hcd hm c.at_
  have L5 : PySem.W.Looks (model prog w) s.heap (isSubtype (.ref C) (.type "int")) false := PySem.W.looks_subIn X c.sub2
  have L6 : PySem.W.Looks (model prog w) s.heap (numberSlotInPython (.type "int") "mul") false := PySem.W.Looks.of_pure rfl
  have hne : (Value.type "int" == Value.ref C) = false := Bool.eq_false_iff.mpr fun q => by cases beq_iff_eq.mp q
  have hi : Operator.Mult.info.2 = "mul" := rfl
  simp only [binaryOp]
  refine wpAny_holding (wpAny_bind ?_)
  rw [hi]
  unfold binaryOp1
  refine wpAny_bind (L1.here (wpAny_bind (L2.here (wpAny_bind (L3.here ?_)))))
  simp only [hne, Bool.false_eq_true, if_false]
  refine wpAny_bind (L4.here ?_)
  simp only [Bool.and_self, if_true, Bool.true_and, Bool.not_false]
  refine wpAny_bind (L5.here ?_)
  simp only [Bool.false_eq_true, if_false, Bool.not_false, if_true]
  refine wpAny_bind (L6.here ?_)
  simp only [Bool.false_eq_true, if_false]
  refine wpAny_bind (oth _ ?_)
  dsimp only
  refine wpAny_bind (wpAny_mono one (fun r s' z => ?_) fun _ _ e => e)
  obtain ⟨v, rfl, hq⟩ := z
  exact wpAny_bind (wpAny_rule (wpAny_pure (wpAny_pure hq)))
end
end Cs

set_option Elab.async false
set_option linter.all false
set_option maxRecDepth 100000
set_option maxHeartbeats 4000000
namespace Cs
open PySem PySem.Spec PyProof.Rows L2
section
variable {X : Cx} {CX : CXT} {k i : Nat} {f C g : Addr} {fd : FuncData} {ps : List Str} {sp : Sp} {E : XK} {a b : Expr} {ta tb : TE} {pos : Pos} {op : Operator}
theorem ins_obj {pins : List (Addr × Obj)} {σ : L2.St} {H : Hp} {s : Shared} {p dx : Addr} {fs : List (Str × V)} (I : Inv X pins σ H s) (h : H p = some (.ins C dx fs)) : ∃ ox od, PySem.W.InstAt s.heap p ox C od ∧ ox.data = .plain ∧ s.heap.get? p = some ox := by
  obtain ⟨mA, O, _⟩ := ins_get I.hok h
  obtain ⟨od, J, _⟩ := O.look
  exact ⟨_, _, J, rfl, J.at_⟩
/-- n * x -/
def rMulR (C : Addr) (sp : Sp) (E : XK) : R2 := fun x y H Q => ∃ p dp fp n, x = .int n ∧ y = .ref p ∧ H p = some (.ins C dp fp) ∧ sp [.ref p, .int n] H Q E
theorem op_mulR {ro : Option Value} (c : OpT X.K C "mul" f g) (h1 : PySem.W.findIn X.K (.type "int") (PySem.dunder "mul") = some (some (.builtin "int.__mul__"))) (h2 : PySem.W.findIn X.K (.type "int") (dunderR "mul") = some ro)
    (F : FnOk X.prog X.w X.K X.mg X.base CX k g fd ps sp) (hr : Room k X.A) (hb : Binds X.K fd ps []) (hx : Passes CX X E) : OpR X (binaryOp .Mult) (rMulR C sp E) := by
  intro pins s σ H x y v u Q I rx ry h
  obtain ⟨p, dp, fp, n, rfl, rfl, hp, k⟩ := h
  cases ry
  obtain ⟨t, rfl⟩ := rx
  obtain ⟨ox, od, J, hd, hg⟩ := ins_obj I hp
  refine mul_right I.kIn J hd hg c h1 h2 ?_
  exact wpAny_mono (run_fn (us := [.ref p, .int n t]) (vs := [.ref p, .int n]) (dvs := []) F hr hb .nil hx I (.cons rfl (.cons ⟨t, rfl⟩ .nil)) k) (fun v s' z => back_of z) fun _ _ z => z
/-- -x -/
def rNegO (C : Addr) (sp : Sp) (E : XK) : V → Hp → VK → Prop := fun x H Q => ∃ p dp fp, x = .ref p ∧ H p = some (.ins C dp fp) ∧ sp [.ref p] H Q E
theorem un_negO (c : Spc X.K C "__neg__" f) (F : FnOk X.prog X.w X.K X.mg X.base CX k f fd ps sp) (hr : Room k X.A) (hb : Binds X.K fd ps []) (hx : Passes CX X E) : UnR X (unaryOp .USub) (rNegO C sp E) := by
  intro pins s σ H x v Q I rx h
  obtain ⟨p, dp, fp, rfl, hp, k⟩ := h
  cases rx
  obtain ⟨ox, od, J, _⟩ := ins_inst I hp
  obtain ⟨m, Fr⟩ := I.fr
  exact PySem.W.ksp_neg Fr I.ok.mod.kin J c.at_ c.fn (run_fn (us := [.ref p]) (vs := [.ref p]) (dvs := []) F hr hb .nil hx I (.cons rfl .nil) k)
/-- abs(x) -/
def rAbsO (C : Addr) (sp : Sp) (E : XK) : List V → Hp → VK → Prop := fun xs H Q => ∃ p dp fp, xs = [.ref p] ∧ H p = some (.ins C dp fp) ∧ sp [.ref p] H Q E
theorem call_absO (c : Spc X.K C "__abs__" f) (F : FnOk X.prog X.w X.K X.mg X.base CX k f fd ps sp) (hr : Room (k + 1) X.A) (hb : Binds X.K fd ps []) (hx : Passes CX X E) : CallR X (.builtin "abs") (rAbsO C sp E) := by
  intro pins s σ H xs us Q I r h
  obtain ⟨p, dp, fp, rfl, hp, q⟩ := h
  rw [Vals.ref1 r]
  obtain ⟨ox, od, J, _⟩ := ins_inst I hp
  refine Calls.call_function_entry kind_abs plain_abs entry_abs (args_abs _) ?_
  unfold Builtin.«abs»
  refine wpAny_bind (m := oneArg "abs" _) (wpAny_pure ?_)
  refine wpAny_bind (m := callSpecial? (.ref p) (Str.ofString "__abs__")) (PySem.W.special_fn I.kIn J c.at_ (beq_iff_eq.mp c.fn) (wpAny_mono (run_fn1 (us := [.ref p]) (vs := [.ref p]) F hr hb hx I (.cons rfl .nil) q) (fun v s' z => ?_) fun _ _ z => z))
  exact wpAny_pure ⟨_, rfl, z⟩
/-- x op= y -/
theorem ip_own (c : OpC X.K C (dunderI op.info.2) f) (F : FnOk X.prog X.w X.K X.mg X.base CX k f fd ps sp) (hr : Room k X.A) (hb : Binds X.K fd ps []) (hx : Passes CX X E) : PIp X op (fun x y H Q => ∃ p dp fp, x = .ref p ∧ H p = some (.ins C dp fp) ∧ sp [.ref p, y] H Q E) := by
  intro pins s σ H x y v u Q I rx ry h
  obtain ⟨p, dp, fp, rfl, hp, k⟩ := h
  cases rx
  obtain ⟨ox, od, J, _⟩ := ins_inst I hp
  obtain ⟨m, Fr⟩ := I.fr
  refine PySem.W.ksp_inplace Fr I.ok.mod.kin J c.sf c.at_ c.fn ?_
  exact wpAny_mono (run_fn (us := [.ref p, u]) (vs := [.ref p, y]) (dvs := []) F hr hb .nil hx I (.cons rfl (.cons ry .nil)) k) (fun v s' z => back_of z) fun _ _ z => z
/-- x[y] by an own __getitem__ -/
def rIxO (C : Addr) (sp : Sp) (E : XK) : R2 := fun x y H Q => ∃ p dp fp, x = .ref p ∧ H p = some (.ins C dp fp) ∧ sp [.ref p, y] H Q E
theorem pe_ixO (c : Spc X.K C "__getitem__" f) (hf : PySem.W.fnIn X.K f = true) (F : FnOk X.prog X.w X.K X.mg X.base CX k f fd ps sp) (hr : Room (k + 1) X.A) (hb : Binds X.K fd ps []) (hx : Passes CX X E) (ha : PE X a ta) (hi : PE X b tb)
    (hsl : ∀ o i, subscripted b true (.ref o) i = runValue (.builtin "lifetime.subscript" ⟨[.ref o, i], []⟩) := by intro _ _; rfl) : PE X (.Subscript a b pos) (tOp (rIxO C sp E) ta tb) := by
  refine ⟨fun pins s σ H Q I h => ?_⟩
  refine Subscript_ (binT ha hi I h fun v u s2 x y H2 I2 rx ry q => ?_)
  obtain ⟨p, dp, fp, rfl, hp, q⟩ := q
  cases rx
  obtain ⟨ox, od, J, _⟩ := ins_inst I2 hp
  obtain ⟨m, Fr⟩ := I2.fr
  exact PySem.W.sub_K Fr I2.ok.mod.kin J c.at_ hf c.fn (run_fn1 (us := [.ref p, u]) (vs := [.ref p, y]) F hr hb hx I2 (.cons rfl (.cons ry .nil)) q) (hsl _ _)
end
end Cs

set_option Elab.async false
set_option linter.all false
set_option maxRecDepth 100000
set_option maxHeartbeats 4000000
/-! The law's draws: a source is a list of the script's cells and three numbers. -/
namespace Cs
open PySem L2
/-- the builtins and helper defs that are reached, by what the module's names hold -/
structure Bi (mg : Str → Option Value) : Prop where
  len : mg "len" = none
  int : mg "int" = none
  abs : mg "abs" = none
  list : mg "list" = none
  range : mg "range" = none
  sorted : mg "sorted" = none
  str : mg "str" = none
  isinstance : mg "isinstance" = none
  sum : mg "sum" = none
  tuple : mg "tuple" = none
  dict : mg "dict" = none
  all : mg "all" = none
  bool : mg "bool" = none
  enumerate : mg "enumerate" = none
/-- all but what stands at p is as it was -/
def Kp (p : Addr) (H H' : Hp) : Prop := ∀ b o, H b = some o → b ≠ p → H' b = some o
theorem Kp.refl (p : Addr) (H : Hp) : Kp p H H := fun _ _ h _ => h
theorem Kp.trans {p : Addr} {H H1 H2 : Hp} (a : Kp p H H1) (b : Kp p H1 H2) : Kp p H H2 := fun c o h n => b c o (a c o h n) n
theorem Kp.of {p : Addr} {H H1 : Hp} (a : Same H H1) : Kp p H H1 := fun c o h _ => a c o h
theorem Kp.upd {p : Addr} {H : Hp} {o : HO} : Kp p H (upd H p o) := fun c u h n => by rw [upd_ne n]; exact h
theorem Kp.seq {K : PySem.W.Frag} {p a : Addr} {H H' : Hp} {xs : List V} (k : Kp p H H') (h : SqL K H a xs) (n : a ≠ p) : SqL K H' a xs := by
  rcases h with (h | ⟨o, h⟩) | h
  · exact .inl (.inl (k _ _ h n))
  · exact .inl (.inr ⟨o, k _ _ h n⟩)
  · exact .inr h
theorem Same.new {H : Hp} {p : Addr} {o : HO} (h : H p = none) : Same H (L2.upd H p o) := fun b u e => by
  rw [upd_ne (ne_of_none e h)]
  exact e
/-- a source of draws at p, its cells at c -/
def Src (H : Hp) (p c : Addr) : Prop := ∃ (ns : List Int) (i l n : Int), H p = some (.lst [.ref c, .int i, .int l, .int n]) ∧ H c = some (.lst (ns.map V.int)) ∧ c ≠ p ∧ 0 ≤ i ∧ 0 ≤ l
theorem Src.keep {H H' : Hp} {p c : Addr} (h : Src H p c) (s : ∀ b o, (b = p ∨ b = c) → H b = some o → H' b = some o) : Src H' p c := by
  obtain ⟨ns, i, l, n, a, b, r⟩ := h
  exact ⟨ns, i, l, n, s _ _ (.inl rfl) a, s _ _ (.inr rfl) b, r⟩
theorem Src.same {H H' : Hp} {p c : Addr} (s : Same H H') (h : Src H p c) : Src H' p c := h.keep fun b o _ e => s b o e
theorem Src.at_p {H : Hp} {p c : Addr} (h : Src H p c) : ∃ xs, H p = some (.lst xs) := by
  obtain ⟨ns, i, l, n, a, _⟩ := h
  exact ⟨_, a⟩
theorem Src.at_c {H : Hp} {p c : Addr} (h : Src H p c) : ∃ xs, H c = some (.lst xs) := by
  obtain ⟨ns, i, l, n, a, b, _⟩ := h
  exact ⟨_, b⟩
theorem Src.new_p {H : Hp} {p c q : Addr} (h : Src H p c) (n : H q = none) : q ≠ p := by
  obtain ⟨xs, e⟩ := h.at_p
  exact (ne_of_none e n).symm
theorem Src.new_c {H : Hp} {p c q : Addr} (h : Src H p c) (n : H q = none) : q ≠ c := by
  obtain ⟨xs, e⟩ := h.at_c
  exact (ne_of_none e n).symm
theorem Src.tup_p {H : Hp} {p c t : Addr} {xs : List V} (h : Src H p c) (e : H t = some (.tup xs)) : t ≠ p := by
  obtain ⟨ys, a⟩ := h.at_p
  rintro rfl
  rw [e] at a
  cases a
theorem atI0 {α : Type} {a b c d : α} : atI [a, b, c, d] 0 = some a := rfl
theorem atI1 {α : Type} {a b c d : α} : atI [a, b, c, d] 1 = some b := rfl
theorem atI2 {α : Type} {a b c d : α} : atI [a, b, c, d] 2 = some c := rfl
theorem atI3 {α : Type} {a b c d : α} : atI [a, b, c, d] 3 = some d := rfl

def spMixed : Sp := fun vs H Q _ => ∃ c n : Int, vs = [.int c, .int n] ∧ ∀ v : Int, Q (.int v) H
def spDraw : Sp := fun vs H Q _ => ∃ (p c : Addr) (n : Int), vs = [.ref p, .int n] ∧ Src H p c ∧ 0 < n ∧ n < 1329227995784915872903807060280344576 ∧ ∀ (v : Int) (H' : Hp), 0 ≤ v → v < n → Src H' p c → Kp p H H' → Q (.int v) H'
def spSource (K : PySem.W.Frag) : Sp := fun vs H Q _ => ∃ (a : Addr) (ns : List Int), vs = [.ref a] ∧ SqL K H a (ns.map V.int) ∧ ∀ (p c : Addr) (H' : Hp), H p = none → H c = none → Same H H' → Src H' p c → Q (.ref p) H'

section
variable {P : Program} {w : World} {K : PySem.W.Frag} {mg : Str → Option Value} {base : Heap}
theorem ok_mixed {f : Addr} {fd : FuncData} (F : Fun K "_law_mixed" "_law_mixed" s_l_mixed f fd) (g : Bi mg) : FnOk P w K mg base CX0 1 f fd ["_law_cell", "_law_count"] spMixed := by
  refine F.ok sc_l_mixed (fun vs H Q E h => ?_) (fun cdv A outer s H vs Q E hr h => ?_)
  · obtain ⟨_, _, rfl, _⟩ := h
    rfl
  · obtain ⟨c, n, rfl, k⟩ := h
    refine ⟨_, (pss_cons (ps_if (pt_cmpR op_eq (pv 0) pe_int (nomark _)) (pss_one (ps_ret pe_int)) pss_nil)
      (pss_cons (ps_set (i := 2) sc_l_mixed.nd rfl (Or.inl rfl) (pe_op op_mod (pe_callTy call_int1 (by rfl) g.int (by decide +kernel) (pa_cons (pe_op op_add (pe_op op_mul (pv 0) pe_int) (pe_op op_mul (pv 1) pe_int)) pa_nil)) pe_int))
      (pss_one (ps_ret (pe_op op_fdiv (pe_op op_mod (pe_callTy call_int1 (by rfl) g.int (by decide +kernel) (pa_cons (pe_op op_add (pe_op op_add (pe_op op_mul (pv 2) pe_int) (pe_op op_mul (pe_op op_fdiv (pv 2) pe_int) (pv 1))) pe_int) pa_nil)) pe_int) pe_int))))), ?_⟩
    refine ⟨_, rfl, rfl, _, rfl, ite2 (fun _ => k _) (fun _ => ?_)⟩
    refine ⟨_, rfl, _, _, rfl, rfl, .inr ⟨by decide, by decide⟩, _, rfl, _, _, rfl, rfl, .inr ⟨by decide, by decide⟩, _, _, rfl, rfl, Or.inl ⟨_, rfl, _, _, rfl, rfl, (by show (0 : Int) < 2147483647; decide), ?_⟩⟩
    generalize hf : (c * 48271 + n * 69621) % 2147483647 = a
    have h0 : 0 ≤ a := by rw [← hf]; exact Int.emod_nonneg _ (by decide)
    have h1 : a < 2147483647 := by rw [← hf]; exact Int.emod_lt_of_pos _ (by decide)
    refine ⟨_, rfl, _, _, rfl, rfl, .inr ⟨by decide, by decide⟩, _, rfl, _, _, rfl, rfl, ⟨by decide, by decide⟩, _, rfl, _, _, rfl, rfl, .inl ⟨by omega, by omega⟩, _, _, rfl, rfl, _, _, rfl, rfl, Or.inl ⟨_, rfl, _, _, rfl, rfl, (by show (0 : Int) < 2147483399; decide), _, _, rfl, rfl, ⟨by decide, by decide⟩, k _⟩⟩
theorem ok_source {f : Addr} {fd : FuncData} (F : Fun K "_law_source" "_law_source" s_l_source f fd) (g : Bi mg) : FnOk P w K mg base CX0 1 f fd ["_law_script"] (spSource K) := by
  refine F.ok sc_l_source (fun vs H Q E h => ?_) (fun cdv A outer s H vs Q E hr h => ?_)
  · obtain ⟨_, _, rfl, _⟩ := h
    rfl
  · obtain ⟨a, ns, rfl, hS, k⟩ := h
    refine ⟨_, (pss_one (ps_ret (pe_lst (pa_cons (pe_callTy call_list_of (by rfl) g.list (by decide +kernel) (pa_cons (pe_slice sl_list (pv 0) po_none (po_some pe_int)) pa_nil)) (pa_cons pe_int (pa_cons pe_int (pa_cons pe_int pa_nil))))))), ?_⟩
    refine ⟨_, rfl, _, rfl, a, _, rfl, hS, fun q hq => ⟨q, _, rfl, .inl (SqL.of upd_same), fun c hc => ⟨by show 4 ≤ sizeLine; decide, fun p hp => ?_⟩⟩⟩
    have s1 : Same H (upd H q (.lst (cutV (ns.map V.int) none (some 63)))) := Same.new hq
    have s2 := s1.trans (Same.new (o := .lst (cutV (ns.map V.int) none (some 63))) hc)
    have s3 := s2.trans (Same.new (o := .lst [.ref c, .int 0, .int 0, .int 0]) hp)
    have ncp : c ≠ p := ne_of_none (H := upd _ c _) upd_same hp
    obtain ⟨ms, em⟩ : ∃ ms : List Int, cutV (ns.map V.int) none (some 63) = ms.map V.int := by
      unfold cutV
      rw [← List.map_drop, ← List.map_take]
      exact ⟨_, rfl⟩
    refine k p c _ (s2.free hp) (s1.free hc) s3 ⟨ms, 0, 0, 0, upd_same, ?_, ncp, by decide, by decide⟩
    rw [upd_ne ncp, upd_same, em]
theorem ok_draw {f fM : Addr} {fd fdM : FuncData} (F : Fun K "_law_draw" "_law_draw" s_l_draw f fd) (g : Bi mg) (FM : Fun K "_law_mixed" "_law_mixed" s_l_mixed fM fdM) (mM : mg "_law_mixed" = some (.ref fM)) (bM : Binds K fdM ["_law_cell", "_law_count"] []) :
    FnOk P w K mg base CX0 2 f fd ["_law_source_here", "_law_size"] spDraw := by
  have GM : FnOk P w K mg base CX0 1 fM fdM ["_law_cell", "_law_count"] spMixed := ok_mixed FM g
  refine F.ok sc_l_draw (fun vs H Q E h => ?_) (fun cdv A outer s H vs Q E hr h => ?_)
  · obtain ⟨_, _, _, rfl, _⟩ := h
    rfl
  · obtain ⟨p, c, n, rfl, ⟨ns, i, l, m, hp, hc, ncp, hi, hl⟩, n0, n1, k⟩ := h
    have hrM : Room 1 _ := hr.mono (by decide)
    refine ⟨_, (pss_cons (ps_asg (pe_op op_add (pe_ix ix_list (pv 0) pe_int (fun _ _ => rfl)) pe_int) (pg_sub (pv 0) pe_int set_list))
      (C8.pss_cut (ps_if (PW.pt (pw_and (pt_cmpR op_eq (pe_ix ix_list (pv 0) pe_int (fun _ _ => rfl)) pe_int (nomark _)) (pw_and1 (pt_cmpR op_gt (pe_callB call_len (by rfl) g.len PySem.boot_len (pa_cons (pe_ix ix_list (pv 0) pe_int (fun _ _ => rfl)) pa_nil)) pe_int (nomark _))))) (pss_cons (ps_set (i := 2) sc_l_draw.nd rfl (Or.inl rfl) (pe_ix ix_list (pv 0) pe_int (fun _ _ => rfl)))
      (pss_cons (ps_set (i := 3) sc_l_draw.nd rfl (Or.inl rfl) (pe_ix ix_list (pe_ix ix_list (pv 0) pe_int (fun _ _ => rfl)) (pe_op op_mod (pe_callTy call_int1 (by rfl) g.int (by decide +kernel) (pa_cons (pv 2) pa_nil)) (pe_callB call_len (by rfl) g.len PySem.boot_len (pa_cons (pe_ix ix_list (pv 0) pe_int (fun _ _ => rfl)) pa_nil))) (fun _ _ => rfl)))
      (pss_cons (ps_asg (pe_op op_add (pv 2) pe_int) (pg_sub (pv 0) pe_int set_list))
      (pss_one (ps_if (PW.pt (pw_and (pt_cmpR op_lt (pv 2) (pe_callB call_len (by rfl) g.len PySem.boot_len (pa_cons (pe_ix ix_list (pv 0) pe_int (fun _ _ => rfl)) pa_nil)) (nomark _)) (pw_and1 (pt_cmpR op_ge (pe_callB call_abs (by rfl) g.abs (by decide +kernel) (pa_cons (pv 3) pa_nil)) (pe_op op_pow pe_int pe_int) (nomark _))))) (pss_one (ps_asg (pe_callB call_abs (by rfl) g.abs (by decide +kernel) (pa_cons (pv 3) pa_nil)) (pg_sub (pv 0) pe_int set_list))) (pss_one (ps_ret (pe_op op_mod (pe_callTy call_int1 (by rfl) g.int (by decide +kernel) (pa_cons (pe_call GM hrM rfl mM FM.kp bM .nil pass0 (pa_cons (pv 3) (pa_cons (pe_ix ix_list (pv 0) pe_int (fun _ _ => rfl)) pa_nil))) pa_nil)) (pv 1))))))))) pss_nil)
      (pss_cons (ps_set (i := 4) sc_l_draw.nd rfl (Or.inl rfl) (pe_op op_mod (pe_callTy call_int1 (by rfl) g.int (by decide +kernel) (pa_cons (pe_ix ix_list (pv 0) pe_int (fun _ _ => rfl)) pa_nil)) (pv 1)))
      (pss_cons (ps_asg (pe_op op_fdivW (pe_ix ix_list (pv 0) pe_int (fun _ _ => rfl)) (pv 1)) (pg_sub (pv 0) pe_int set_list))
      (pss_one (ps_ret (pv 4))))))), ?_⟩
    have c1 : ∀ o, (upd H p o) c = some (.lst (ns.map V.int)) := fun o => by rw [upd_ne ncp]; exact hc
    have q1 : ∀ xs, SqL K (upd H p (.lst xs)) p xs := fun xs => SqL.of upd_same
    have q2 : ∀ o, SqL K (upd H p o) c (ns.map V.int) := fun o => SqL.of (c1 o)
    refine ⟨_, rfl, p, _, _, _, rfl, rfl, SqL.of hp, atI3, _, _, rfl, rfl, _, rfl, p, _, _, 3, rfl, rfl, hp, rfl, ?_⟩
    have e1 : ([V.ref c, .int i, .int l, .int m].set 3 (.int (m + 1))) = [V.ref c, .int i, .int l, .int (m + 1)] := rfl
    rw [e1]
    refine ⟨fun σ' H2 => ∃ x2 x3 x4 j l2, σ' = [some (.ref p), some (.int n), x2, x3, x4] ∧ H2 p = some (.lst [.ref c, .int j, .int l2, .int (m + 1)]) ∧ H2 c = some (.lst (ns.map V.int)) ∧ 0 ≤ j ∧ 0 ≤ l2 ∧ Kp p H H2, ?_, ?_⟩
    · refine ⟨_, rfl, p, _, _, _, rfl, rfl, q1 _, atI2, rfl, _, rfl, ?_⟩
      refine ite2 (fun z => ?_) (fun z => ?_)
      · refine ⟨_, rfl, p, _, _, _, rfl, rfl, q1 _, atI0, _, _, rfl, .inl ⟨_, q2 _, rfl⟩, _, _, rfl, rfl, _, rfl, ?_⟩
        rw [List.length_map]
        refine ite2 (fun z2 => ?_) (fun z2 => ?_)
        · have hlen : 0 < ns.length := by simpa using z2
          refine ⟨_, rfl, p, _, _, _, rfl, rfl, q1 _, atI1, ?_⟩
          have hx0 : 0 ≤ i % (ns.length : Int) := Int.emod_nonneg _ (by omega)
          have hx1 : i % (ns.length : Int) < (ns.length : Int) := Int.emod_lt_of_pos _ (by omega)
          obtain ⟨j, ej⟩ : ∃ j : Nat, i % (ns.length : Int) = (j : Int) := ⟨(i % (ns.length : Int)).toNat, by omega⟩
          have hj : j < ns.length := by omega
          have hat : atI (ns.map V.int) (i % ((ns.map V.int).length : Int)) = some (.int ns[j]) := by
            rw [List.length_map, ej]
            exact atI_nat (by rw [List.getElem?_map, List.getElem?_eq_getElem hj]; rfl)
          refine ⟨_, rfl, p, _, _, _, rfl, rfl, q1 _, atI0, _, rfl, Or.inl ⟨_, rfl, _, rfl, p, _, _, _, rfl, rfl, q1 _, atI0, _, _, rfl, .inl ⟨_, q2 _, rfl⟩, _, _, rfl, rfl, (by rw [List.length_map]; omega), c, _, _, _, rfl, rfl, q2 _, hat, ?_⟩⟩
          refine ⟨_, rfl, _, _, rfl, rfl, _, rfl, p, _, _, 1, rfl, rfl, upd_same, rfl, ?_⟩
          have e2 : ([V.ref c, .int i, .int l, .int (m + 1)].set 1 (.int (i + 1))) = [V.ref c, .int (i + 1), .int l, .int (m + 1)] := rfl
          rw [e2]
          have c2 : ∀ o o', (upd (upd H p o) p o') c = some (.lst (ns.map V.int)) := fun o o' => by rw [upd_ne ncp]; exact c1 o
          have kp2 : ∀ o o', Kp p H (upd (upd H p o) p o') := fun o o' => Kp.upd.trans Kp.upd
          have other : ∀ v : Int, Q (.int (v % n)) (upd (upd H p (.lst [.ref c, .int i, .int l, .int (m + 1)])) p (.lst [.ref c, .int (i + 1), .int l, .int (m + 1)])) := fun v =>
            k _ _ (Int.emod_nonneg _ (by omega)) (Int.emod_lt_of_pos _ n0) ⟨ns, i + 1, l, m + 1, upd_same, c2 _ _, ncp, by omega, hl⟩ (kp2 _ _)
          refine ⟨_, rfl, _, rfl, p, _, _, _, rfl, rfl, SqL.of upd_same, atI0, _, _, rfl, .inl ⟨_, SqL.of (c2 _ _), rfl⟩, _, _, rfl, rfl, _, rfl, ?_⟩
          refine ite2 (fun z3 => ?_) (fun z3 => ?_)
          · refine ⟨_, rfl, _, rfl, _, _, rfl, rfl, ⟨by decide, by decide, by decide⟩, _, _, rfl, rfl, _, rfl, ?_⟩
            refine ite2 (fun z4 => ?_) (fun z4 => ?_)
            · refine ⟨_, rfl, _, rfl, _, rfl, p, _, _, 2, rfl, rfl, upd_same, rfl, ?_⟩
              refine ⟨_, _, _, i + 1, _, rfl, upd_same, by rw [upd_ne ncp]; exact c2 _ _, by omega, ?_, (kp2 _ _).trans Kp.upd⟩
              split <;> omega
            · refine ⟨_, rfl, _, rfl, p, _, _, _, rfl, rfl, SqL.of upd_same, atI3, _, _, rfl, fun v => Or.inl ⟨_, rfl, _, rfl, _, _, rfl, rfl, n0, other v⟩⟩
          · refine ⟨_, rfl, _, rfl, p, _, _, _, rfl, rfl, SqL.of upd_same, atI3, _, _, rfl, fun v => Or.inl ⟨_, rfl, _, rfl, _, _, rfl, rfl, n0, other v⟩⟩
        · exact ⟨_, _, _, i, l, rfl, upd_same, c1 _, hi, hl, Kp.upd⟩
      · exact ⟨_, _, _, i, l, rfl, upd_same, c1 _, hi, hl, Kp.upd⟩
    · rintro σ' H2 ⟨x2, x3, x4, j, l2, rfl, hp2, hc2, j0, l0, kp⟩
      refine ⟨_, rfl, p, _, _, _, rfl, rfl, SqL.of hp2, atI2, Or.inl ⟨_, rfl, _, rfl, _, _, rfl, rfl, n0, ?_⟩⟩
      refine ⟨_, rfl, p, _, _, _, rfl, rfl, SqL.of hp2, atI2, _, rfl, _, _, rfl, rfl, wide_div (b := 120) n0 (by omega) (by decide) (by decide), _, rfl, p, _, _, 2, rfl, rfl, hp2, rfl, ?_⟩
      refine ⟨_, rfl, ?_⟩
      exact k _ _ (Int.emod_nonneg _ (by omega)) (Int.emod_lt_of_pos _ n0) ⟨ns, j, l2 / n, m + 1, upd_same, by rw [upd_ne ncp]; exact hc2, ncp, j0, Int.ediv_nonneg l0 (by omega)⟩ (kp.trans Kp.upd)
end
end Cs

set_option Elab.async false
set_option linter.all false
set_option maxRecDepth 100000
set_option maxHeartbeats 4000000
/-! The law's words, numbers and pairs. -/
namespace Cs
open PySem L2
def LET : Str := "abcdefghijklmnopqrstuvwxyz"
/-- one to eight letters -/
def Word (z : Str) : Prop := 1 ≤ z.length ∧ z.length ≤ 8 ∧ ∀ c ∈ z.cps.toList, c ∈ LET.cps.toList
/-- at most thirty digits -/
def Small (n : Int) : Prop := -(10 ^ 30) < n ∧ n < 10 ^ 30
theorem len_add (x y : Str) : (x ++ y).length = x.length + y.length := by
  show (x.cps ++ y.cps).size = x.cps.size + y.cps.size
  exact Array.size_append
theorem cps_add (x y : Str) : (x ++ y).cps.toList = x.cps.toList ++ y.cps.toList := by
  show (x.cps ++ y.cps).toList = _
  exact Array.toList_append
def wordB (z : Str) : Bool := decide (1 ≤ z.length) && decide (z.length ≤ 8) && z.cps.toList.all fun c => decide (c ∈ LET.cps.toList)
theorem word_of {z : Str} (h : wordB z = true) : Word z := by
  unfold wordB at h
  simp only [Bool.and_eq_true, decide_eq_true_eq, List.all_eq_true] at h
  exact ⟨h.1.1, h.1.2, h.2⟩
theorem ats_of {α : Type} {xs : List α} {z : Int} {j : Nat} {v : α} (e : z = (j : Int)) (h : xs[j]? = some v) : atI xs z = some v := by
  rw [e]
  exact atI_nat h
def spWord : Sp := fun vs H Q _ => ∃ p c : Addr, vs = [.ref p] ∧ Src H p c ∧ ∀ (z : Str) (H' : Hp), Word z → Src H' p c → Kp p H H' → Q (.str z) H'
def spNumber : Sp := fun vs H Q _ => ∃ p c : Addr, vs = [.ref p] ∧ Src H p c ∧ ∀ (n : Int) (H' : Hp), Small n → Src H' p c → Kp p H H' → Q (.int n) H'
/-- the items are tuples of a text and a number -/
def PrL (H : Hp) : List V → List (Str × Int) → Prop := Paired fun x q => ∃ t, x = V.ref t ∧ H t = some (.tup [.str q.1, .int q.2])
def GoodPs (ps : List (Str × Int)) : Prop := ∀ q ∈ ps, Word q.1 ∧ Small q.2
def spPairs : Sp := fun vs H Q _ => ∃ (p c : Addr) (m : Int), vs = [.ref p, .int m] ∧ Src H p c ∧ 0 ≤ m ∧ m ≤ 1000 ∧
  ∀ (q : Addr) (H' : Hp) (xs : List V) (ps : List (Str × Int)), H q = none → H' q = some (.lst xs) → PrL H' xs ps → GoodPs ps → (ps.length : Int) ≤ m → Src H' p c → Kp p H H' → Q (.ref q) H'
theorem PrL.mono {H H' : Hp} {xs : List V} {ps : List (Str × Int)} (h : PrL H xs ps) (k : ∀ t a b, H t = some (.tup [.str a, .int b]) → H' t = some (.tup [.str a, .int b])) : PrL H' xs ps :=
  Paired.mapP h fun x q ⟨t, e, r⟩ => ⟨t, e, k t _ _ r⟩
theorem PrL.length {H : Hp} : ∀ {xs : List V} {ps : List (Str × Int)}, PrL H xs ps → xs.length = ps.length
  | _, _, .nil => rfl
  | _, _, .cons _ t => congrArg (· + 1) (PrL.length t)
theorem PrL.at {H : Hp} : ∀ {xs : List V} {ps : List (Str × Int)}, PrL H xs ps → ∀ {i : Nat} {q : Str × Int}, ps[i]? = some q → ∃ t, xs[i]? = some (V.ref t) ∧ H t = some (.tup [.str q.1, .int q.2])
  | _, _, .nil, i, q, h => by simp at h
  | _, _, .cons (a := a) r t, 0, q, h => by
    obtain ⟨u, e, hu⟩ := r
    obtain rfl := Option.some.inj h
    exact ⟨u, by rw [e]; rfl, hu⟩
  | _, _, .cons r t, i + 1, q, h => PrL.at t h
theorem PrL.snoc {H : Hp} : ∀ {xs : List V} {ps : List (Str × Int)} {t : Addr} {a : Str} {b : Int}, PrL H xs ps → H t = some (.tup [.str a, .int b]) → PrL H (xs ++ [.ref t]) (ps ++ [(a, b)])
  | _, _, _, _, _, .nil, h => .cons ⟨_, rfl, h⟩ .nil
  | _, _, _, _, _, .cons r t, h => .cons r (PrL.snoc t h)
section
variable {P : Program} {w : World} {K : PySem.W.Frag} {mg : Str → Option Value} {base : Heap}
/-- a def of the module as its callers have it: its promise, its name, that it stays, how its arguments bind -/
structure Def (P : Program) (w : World) (K : PySem.W.Frag) (mg : Str → Option Value) (base : Heap) (CX : CXT) (k : Nat) (x : Str) (ps : List Str) (sp : Sp) (f : Addr) (fd : FuncData) : Prop where
  ok : FnOk P w K mg base CX k f fd ps sp
  m : mg x = some (.ref f)
  kp : PySem.W.keepIn K (.ref f) = true
  b : Binds K fd ps []
theorem ok_number {f fD : Addr} {fd fdD : FuncData} (F : Fun K "_law_number" "_law_number" s_l_number f fd) (g : Bi mg) (FD : Def P w K mg base CX0 2 "_law_draw" ["_law_source_here", "_law_size"] spDraw fD fdD) : FnOk P w K mg base CX0 3 f fd ["_law_source_here"] spNumber := by
  obtain ⟨GD, mD, _, bD⟩ := id FD
  refine F.ok sc_l_number (fun vs H Q E h => ?_) (fun cdv A outer s H vs Q E hr h => ?_)
  · obtain ⟨_, _, rfl, _⟩ := h
    rfl
  · obtain ⟨p, c, rfl, hS, k⟩ := h
    have hrD : Room 2 _ := hr.mono (by decide)
    refine ⟨_, (pss_cons (ps_set (i := 1) sc_l_number.nd rfl (Or.inl rfl) (pe_call GD hrD rfl mD FD.kp bD .nil pass0 (pa_cons (pv 0) (pa_cons pe_int pa_nil))))
      (pss_cons (ps_if (pt_cmpR op_eq (pv 1) pe_int (nomark _)) (pss_one (ps_ret (pe_op op_sub (pe_call GD hrD rfl mD FD.kp bD .nil pass0 (pa_cons (pv 0) (pa_cons pe_int pa_nil))) pe_int))) pss_nil)
      (pss_cons (ps_if (pt_cmpR op_eq (pv 1) pe_int (nomark _)) (pss_one (ps_ret (pe_op op_sub (pe_call GD hrD rfl mD FD.kp bD .nil pass0 (pa_cons (pv 0) (pa_cons pe_int pa_nil))) pe_int))) pss_nil)
      (pss_cons (ps_set (i := 2) sc_l_number.nd rfl (Or.inl rfl) pe_int)
      (pss_cons (ps_for PassesOwn.never rfl (pi_range1 rfl g.range (pa_cons pe_int pa_nil)) (pg_name (i := 3) sc_l_number.nd rfl (Or.inl rfl)) (pss_one (ps_set (i := 2) sc_l_number.nd rfl (Or.inl rfl) (pe_op op_add (pe_op op_mul (pv 2) (pe_op op_pow pe_int pe_int)) (pe_call GD hrD rfl mD FD.kp bD .nil pass0 (pa_cons (pv 0) (pa_cons (pe_op op_pow pe_int pe_int) pa_nil)))))))
      (pss_cons (ps_set (i := 2) sc_l_number.nd rfl (Or.inl rfl) (pe_op op_mod (pe_callTy call_int1 (by rfl) g.int (by decide +kernel) (pa_cons (pv 2) pa_nil)) (pe_op op_pow pe_int pe_int)))
      (pss_one (ps_ret (pe_ifExp (pt_cmpR op_eq (pv 1) pe_int (nomark _)) (pv 2) (pe_un un_neg (pv 2))))))))))), ?_⟩
    refine ⟨_, rfl, p, c, 4, rfl, hS, by decide, by decide, fun v H1 v0 v1 S1 k1 => ?_⟩
    refine ⟨_, rfl, rfl, _, rfl, ite2 (fun z => ?_) (fun z => ?_)⟩
    · refine ⟨_, rfl, p, c, 7, rfl, S1, by decide, by decide, fun v2 H2 a0 a1 S2 k2 => ⟨_, _, rfl, rfl, k _ _ ⟨by omega, by omega⟩ S2 (k1.trans k2)⟩⟩
    refine ⟨_, rfl, rfl, _, rfl, ite2 (fun z => ?_) (fun z => ?_)⟩
    · refine ⟨_, rfl, p, c, 2001, rfl, S1, by decide, by decide, fun v2 H2 a0 a1 S2 k2 => ⟨_, _, rfl, rfl, k _ _ ⟨by omega, by omega⟩ S2 (k1.trans k2)⟩⟩
    refine ⟨4, rfl, by decide, by decide, ?_⟩
    refine for_range (lo := 0) (n := 4) (fun i σ' H' => ∃ (n : Int) (x3 : Option V), σ' = [some (.ref p), some (.int v), some (.int n), x3] ∧ Src H' p c ∧ Kp p H H') ⟨0, _, rfl, S1, k1⟩ ?_ ?_
    · rintro i σ' H' hi ⟨n, x3, rfl, S', kp'⟩
      refine ⟨_, rfl, _, _, rfl, rfl, ⟨by decide, by decide, by decide⟩, _, _, rfl, rfl, .inr ⟨by decide, by decide⟩, _, rfl, _, _, rfl, rfl, ⟨by decide, by decide, by decide⟩, p, c, _, rfl, S', by decide, by decide, fun v3 H3 b0 b1 S3 k3 => ?_⟩
      exact ⟨_, _, rfl, rfl, _, _, rfl, S3, kp'.trans k3⟩
    · rintro σ' H' ⟨n, x3, rfl, S', kp'⟩
      refine ⟨_, rfl, Or.inl ⟨_, rfl, _, _, rfl, rfl, ⟨by decide, by decide, by decide⟩, _, _, rfl, rfl, (by show (0 : Int) < 10 ^ 30; decide), ?_⟩⟩
      have e : ((10 : Int) ^ (30 : Int).toNat) = 10 ^ 30 := rfl
      rw [e]
      have h0 : 0 ≤ n % 10 ^ 30 := Int.emod_nonneg _ (by decide)
      have h1 : n % 10 ^ 30 < 10 ^ 30 := Int.emod_lt_of_pos _ (by decide)
      refine ⟨_, rfl, rfl, _, rfl, ite2 (fun z => ?_) (fun z => ?_)⟩
      · exact ⟨_, rfl, k _ _ ⟨by omega, h1⟩ S' kp'⟩
      · exact ⟨_, rfl, _, rfl, k _ _ ⟨by omega, by omega⟩ S' kp'⟩
end
end Cs

set_option Elab.async false
set_option linter.all false
set_option maxRecDepth 100000
set_option maxHeartbeats 4000000
namespace Cs
open PySem L2
section
variable {P : Program} {w : World} {K : PySem.W.Frag} {mg : Str → Option Value} {base : Heap}
end
end Cs

set_option Elab.async false
set_option linter.all false
set_option maxRecDepth 100000
set_option maxHeartbeats 4000000
/-! The program's words: is_integer, is_word, is_small, is_pair, distinct. -/
namespace Cs
open PySem L2
/-- a value of a built-in type that is no int -/
def NotInt (K : PySem.W.Frag) (H : Hp) (x : V) : Prop := ∃ ty : String, TyX K H x (.type ty) ∧ (ty = "bool" ∨ kitB ty "int" = some false)
def spIsInteger (K : PySem.W.Frag) : Sp := fun vs H Q _ => (∃ n : Int, vs = [.int n] ∧ Q (.bl true) H) ∨ (∃ x, vs = [x] ∧ NotInt K H x ∧ Q (.bl false) H)
def spIsSmall (K : PySem.W.Frag) : Sp := fun vs H Q _ => (∃ n : Int, vs = [.int n] ∧ Q (.bl (decide (-(10 ^ 30) < n) && decide (n < 10 ^ 30))) H) ∨ (∃ x, vs = [x] ∧ NotInt K H x ∧ Q (.bl false) H)
def spIsWord (K : PySem.W.Frag) : Sp := fun vs H Q _ => (∃ z : Str, vs = [.str z] ∧ z.length ≤ 100000 ∧ ∀ H', Same H H' → Q (.bl (wordB z)) H') ∨ (∃ x ty, vs = [x] ∧ TyX K H x (.type ty) ∧ kitB ty "str" = some false ∧ Q (.bl false) H)
/-- of a good pair -/
def spIsPair (K : PySem.W.Frag) : Sp := fun vs H Q _ => ∃ (t : Addr) (z : Str) (n : Int), vs = [.ref t] ∧ H t = some (.tup [.str z, .int n]) ∧ Word z ∧ Small n ∧ ∀ H', Same H H' → Q (.bl true) H'
def spDistinct (K : PySem.W.Frag) : Sp := fun vs H Q _ => ∃ (a : Addr) (zs : List Str), vs = [.ref a] ∧ SqL K H a (zs.map V.str) ∧ zs.length ≤ 1000 ∧
  ∀ (p : Addr) (H' : Hp) (ws : List Str), H p = none → Same H H' → H' p = some (.lst (ws.map V.str)) → Asc ws → (∀ z, z ∈ ws ↔ z ∈ zs) → ws.length ≤ zs.length → Q (.ref p) H'
theorem wordB_of {z : Str} (h : Word z) : wordB z = true := by
  unfold wordB
  simp only [Bool.and_eq_true, decide_eq_true_eq, List.all_eq_true]
  exact ⟨⟨h.1, h.2.1⟩, h.2.2⟩
theorem kit_int {K : PySem.W.Frag} {H : Hp} {x : V} (h : NotInt K H x) : ∃ ty, TyX K H x (.type ty) ∧ (ty = "bool" ∨ kitB ty "int" = some false) := h
theorem yes_it {σ : L2.St} {H : Hp} {A B : Hp → Prop} (h : A H) : tYes σ H (fun b H3 => if b = true then A H3 else B H3) := iteT (A := A H) (B := B H) h
/-- a set comprehension of texts over a walk -/
theorem scT_it {J : It} {n : Nat} {G : Hp → Prop} {Y : Nat → Hp → V → Hp → Prop} (wk : Walk J n G Y) {w : World} {g : TG} {tt : TT} {te : TE} {vs : List Nat} {σ : L2.St} {H1 : Hp} {D : Addr} {Qd : Hp → Prop} (Pv : Nat → Hp → Prop)
    (h0 : Pv 0 (upd H1 D (TSetO w D []))) (hG : ∀ i H, i ≤ n → Pv i H → G H)
    (hs : ∀ i x H H', i < n → Pv i H → Y i H x H' → g x (wipe σ vs) H' fun σ2 H2 => wipe σ2 vs = wipe σ vs ∧ tt σ2 H2 fun b H3 =>
      if b = true then te σ2 H3 fun y H4 => ∃ (z : Str) (zs : List Str), y = .str z ∧ H4 D = some (TSetO w D zs) ∧ zs.length + 1 < scanBound ∧ Pv (i + 1) (upd H4 D (TSetO w D (addT zs z))) else Pv (i + 1) H3)
    (hd : ∀ H, Pv n H → Qd H) :
    ∃ W : Nat → Nat → Hp → Prop, (∃ m, W 0 m (upd H1 D (TSetO w D []))) ∧ ∀ i m H, W i m H →
      (J.stop i H ∧ Qd H) ∨ (J.go i H ∧ ∃ Nx : Hp → Prop, (∀ H', Nx H' → ∃ m', m' < m ∧ W (i + 1) m' H') ∧ ∀ x H', J.yld i H x H' → g x (wipe σ vs) H' fun σ2 H2 => wipe σ2 vs = wipe σ vs ∧ tt σ2 H2 fun b H3 =>
        if b = true then te σ2 H3 fun y H4 => ∃ (z : Str) (zs : List Str), y = .str z ∧ H4 D = some (TSetO w D zs) ∧ zs.length + 1 < scanBound ∧ Nx (upd H4 D (TSetO w D (addT zs z))) else Nx H3) := by
  refine ⟨fun i m H => m = n - i ∧ i ≤ n ∧ Pv i H, ⟨n, by simp, Nat.zero_le _, h0⟩, ?_⟩
  rintro i m H ⟨rfl, hi, p⟩
  by_cases lt : i < n
  · exact .inr ⟨wk.goes i H lt (hG i H hi p), Pv (i + 1), fun H' r => ⟨n - (i + 1), by omega, rfl, lt, r⟩, fun x H' y => hs i x H H' lt p (wk.yields i H x H' lt (hG i H hi p) y)⟩
  · obtain rfl : i = n := by omega
    exact .inl ⟨wk.stops H (hG i H hi p), hd H p⟩
section
variable {P : Program} {w : World} {K : PySem.W.Frag} {mg : Str → Option Value} {base : Heap}
theorem ok_is_integer {f : Addr} {fd : FuncData} (F : Fun K "is_integer" "is_integer" s_is_integer f fd) (g : Bi mg) : FnOk P w K mg base CX0 1 f fd ["thing"] (spIsInteger K) := by
  refine F.ok sc_is_integer (fun vs H Q E h => ?_) (fun cdv A outer s H vs Q E hr h => ?_)
  · rcases h with ⟨_, rfl, _⟩ | ⟨_, rfl, _⟩ <;> rfl
  · refine ⟨_, (pss_one (ps_ret (pe_and (pe_callB call_isi (by rfl) g.isinstance (by decide +kernel) (pa_cons (pv 0) (pa_cons (pe_bltn (v := .ty "int") (by rfl) g.int (by decide +kernel) rfl) pa_nil))) (pe_one (pe_not (pe_callB call_isi (by rfl) g.isinstance (by decide +kernel) (pa_cons (pv 0) (pa_cons (pe_bltn (v := .ty "bool") (by rfl) g.bool (by decide +kernel) rfl) pa_nil)))))))), ?_⟩
    rcases h with ⟨n, rfl, q⟩ | ⟨x, rfl, ⟨ty, ht, hc⟩, q⟩
    · refine ⟨_, rfl, _, _, _, _, true, rfl, .ty "int", .base (.int n), kit_ty (by decide +kernel), _, rfl, iteT ?_⟩
      exact ⟨_, rfl, _, _, _, _, false, rfl, .ty "bool", .base (.int n), kit_ty (by decide +kernel), _, rfl, q⟩
    · rcases hc with e | e
      · subst e
        refine ⟨_, rfl, _, _, _, _, true, rfl, .ty "int", ht, kit_ty (by decide +kernel), _, rfl, iteT ?_⟩
        exact ⟨_, rfl, _, _, _, _, true, rfl, .ty "bool", ht, kit_ty (by decide +kernel), _, rfl, q⟩
      · exact ⟨_, rfl, _, _, _, _, false, rfl, .ty "int", ht, kit_ty e, _, rfl, iteF q⟩
theorem ok_is_small {f fIi : Addr} {fd fdIi : FuncData} (F : Fun K "is_small" "is_small" s_is_small f fd) (g : Bi mg) (FIi : Def P w K mg base CX0 1 "is_integer" ["thing"] (spIsInteger K) fIi fdIi) : FnOk P w K mg base CX0 2 f fd ["thing"] (spIsSmall K) := by
  obtain ⟨GIi, mIi, _, bIi⟩ := id FIi
  refine F.ok sc_is_small (fun vs H Q E h => ?_) (fun cdv A outer s H vs Q E hr h => ?_)
  · rcases h with ⟨_, rfl, _⟩ | ⟨_, rfl, _⟩ <;> rfl
  · have hrIi : Room 1 _ := hr.mono (by decide)
    refine ⟨_, (pss_one (ps_ret (pe_and (pe_call GIi hrIi rfl mIi FIi.kp bIi .nil pass0 (pa_cons (pv 0) pa_nil)) (pe_one (pe_chain op_lt op_lt (pe_un un_neg (pe_op op_pow pe_int pe_int)) (pv 0) (pe_op op_pow pe_int pe_int)))))), ?_⟩
    rcases h with ⟨n, rfl, q⟩ | ⟨x, rfl, hx, q⟩
    · refine ⟨_, rfl, .inl ⟨n, rfl, _, rfl, iteT ?_⟩⟩
      refine ⟨_, _, rfl, rfl, ⟨by decide, by decide, by decide⟩, _, rfl, _, rfl, _, _, rfl, rfl, _, rfl, ?_⟩
      have e : ((10 : Int) ^ (30 : Int).toNat) = 10 ^ 30 := rfl
      by_cases c : -(10 ^ 30 : Int) < n
      · rw [decide_eq_true (show -((10 : Int) ^ (30 : Int).toNat) < n from c)]
        rw [decide_eq_true c] at q
        exact iteT ⟨_, _, rfl, rfl, ⟨by decide, by decide, by decide⟩, _, _, rfl, rfl, q⟩
      · rw [decide_eq_false (show ¬ -((10 : Int) ^ (30 : Int).toNat) < n from c)]
        rw [decide_eq_false c] at q
        exact iteF q
    · exact ⟨_, rfl, .inr ⟨x, rfl, hx, _, rfl, iteF q⟩⟩
theorem ok_is_word {f : Addr} {fd : FuncData} {tk : Tok} (F : Fun K "is_word" "is_word" s_is_word f fd) (g : Bi mg) (mLET : mg "LETTERS" = some (.str LET tk)) : FnOk P w K mg base CX0 1 f fd ["thing"] (spIsWord K) := by
  refine F.ok sc_is_word (fun vs H Q E h => ?_) (fun cdv A outer s H vs Q E hr h => ?_)
  · rcases h with ⟨_, rfl, _⟩ | ⟨_, _, rfl, _⟩ <;> rfl
  · refine ⟨_, (pss_cons (ps_if (PW.pt (pw_or (pt_not (pt_val (pe_callB call_isi (by rfl) g.isinstance (by decide +kernel) (pa_cons (pv 0) (pa_cons (pe_bltn (v := .ty "str") (by rfl) g.str (by decide +kernel) rfl) pa_nil))))) (pw_or1 (pt_not (pt_chain op_le op_le pe_int (pe_callB call_len (by rfl) g.len PySem.boot_len (pa_cons (pv 0) pa_nil)) pe_int))))) (pss_one (ps_ret pe_bl)) pss_nil)
      (pss_one (ps_ret (pe_callB (cr_all rfl) (by rfl) g.all (by decide +kernel) (pa_cons (pe_lc (own := [("sign", 1)]) (g := gName 1)  (by rfl) sc_is_word.nd (pi_str (pv 0)) (blkOk_by (own := [("sign", 1)]) (N := ["thing", "sign"]) (sc := defScope s_is_word) (by decide +kernel)) (fun _ _ _ _ _ => (pg_name (i := 1) sc_is_word.nd rfl (Or.inl rfl))) (fun _ _ _ _ _ => pts_nil) (fun _ _ _ _ _ => (pe_cmpR op_in_sign (pv 1) (pe_glob (v := .str LET) rfl mLET ⟨_, rfl⟩) (by rfl)))) pa_nil))))), ?_⟩
    rcases h with ⟨z, rfl, hz, q⟩ | ⟨x, ty, rfl, ht, hc, q⟩
    · refine ⟨_, rfl, _, _, _, _, true, rfl, .ty "str", .base (.str z), kit_ty (by decide +kernel), _, rfl, iteF ?_⟩
      have hl : z.length ≤ sizeLine := Nat.le_trans hz (by decide)
      refine ⟨_, rfl, _, _, rfl, ⟨hl, rfl⟩, _, _, rfl, rfl, _, rfl, ?_⟩
      have go : 1 ≤ z.length → z.length ≤ 8 → Q (.bl (wordB z)) H := fun _ _ => q H (Same.refl H)
      by_cases c : (1 : Int) ≤ (z.length : Int)
      · rw [decide_eq_true c]
        refine iteT ⟨_, _, rfl, rfl, _, rfl, ?_⟩
        by_cases d : ((z.length : Nat) : Int) ≤ 8
        · rw [decide_eq_true d]
          refine iteF ?_
          refine ⟨_, rfl, z, rfl, fun D hD => ?_⟩
          refine lc_it walk_str (fun i H' => Same H H' ∧ H' D = some (.lst ((z.cps.toList.take i).map fun c => .bl (decide (c ∈ LET.cps.toList))))) ⟨Same.new hD, upd_same⟩ (fun _ _ _ _ => True.intro) ?_ ?_
          · rintro i x H' H2 hi ⟨s', hD'⟩ ⟨rfl, c, hc, rfl⟩
            have hc' : z.cps.toList[i]? = some c := by rw [Array.getElem?_toList]; exact hc
            refine ⟨rfl, yes_it ?_⟩
            refine ⟨_, rfl, c, LET, rfl, rfl, _, hD', ?_, ?_, ?_⟩
            · rw [List.length_map, List.length_take]
              exact Nat.lt_of_le_of_lt (Nat.min_le_left _ _) (Nat.lt_of_lt_of_le hi hl)
            · exact fun b o e => by rw [upd_ne (ne_of_none e hD)]; exact s' b o e
            · rw [upd_same, List.take_succ, hc', List.map_append]
              rfl
          · rintro H' ⟨s', hD'⟩
            refine ⟨D, (z.cps.toList.map fun c => decide (c ∈ LET.cps.toList)), rfl, SqL.of ?_, ?_⟩
            · rw [hD', List.map_map, List.take_of_length_le (by rw [Array.length_toList]; exact Nat.le_refl _)]
              rfl
            · have e : (z.cps.toList.map fun c => decide (c ∈ LET.cps.toList)).all id = wordB z := by
                unfold wordB
                rw [List.all_map, decide_eq_true (show 1 ≤ z.length by omega), decide_eq_true (show z.length ≤ 8 by omega)]
                rfl
              rw [e]
              exact q H' s'
        · rw [decide_eq_false d]
          refine iteT ?_
          have e : wordB z = false := by
            unfold wordB
            rw [decide_eq_false (show ¬ z.length ≤ 8 by omega)]
            simp
          have := q H (Same.refl H)
          rw [e] at this
          exact this
      · rw [decide_eq_false c]
        refine iteF ⟨_, rfl, iteT ?_⟩
        have e : wordB z = false := by
          unfold wordB
          rw [decide_eq_false (show ¬ 1 ≤ z.length by omega)]
          simp
        have := q H (Same.refl H)
        rw [e] at this
        exact this
    · exact ⟨_, rfl, _, _, _, _, false, rfl, .ty "str", ht, kit_ty hc, _, rfl, iteT q⟩
theorem ok_is_pair {f fIw fIs : Addr} {fd fdIw fdIs : FuncData} (F : Fun K "is_pair" "is_pair" s_is_pair f fd) (g : Bi mg) (FIw : Def P w K mg base CX0 1 "is_word" ["thing"] (spIsWord K) fIw fdIw) (FIs : Def P w K mg base CX0 2 "is_small" ["thing"] (spIsSmall K) fIs fdIs) :
    FnOk P w K mg base CX0 3 f fd ["thing"] (spIsPair K) := by
  obtain ⟨GIw, mIw, _, bIw⟩ := id FIw
  obtain ⟨GIs, mIs, _, bIs⟩ := id FIs
  refine F.ok sc_is_pair (fun vs H Q E h => ?_) (fun cdv A outer s H vs Q E hr h => ?_)
  · obtain ⟨_, _, _, rfl, _⟩ := h
    rfl
  · obtain ⟨t, z, n, rfl, ht, hz, hn, q⟩ := h
    have hrIw : Room 1 _ := hr.mono (by decide)
    have hrIs : Room 2 _ := hr.mono (by decide)
    refine ⟨_, (pss_one (ps_ret (pe_and (pe_callB call_isi (by rfl) g.isinstance (by decide +kernel) (pa_cons (pv 0) (pa_cons (pe_bltn (v := .ty "tuple") (by rfl) g.tuple (by decide +kernel) rfl) pa_nil))) (pe_and (pe_cmpR op_eq (pe_callB call_len (by rfl) g.len PySem.boot_len (pa_cons (pv 0) pa_nil)) pe_int (nomark _)) (pe_and (pe_call GIw hrIw rfl mIw FIw.kp bIw .nil pass0 (pa_cons (pe_ix ix_tup (pv 0) pe_int (fun _ _ => rfl)) pa_nil)) (pe_one (pe_call GIs hrIs rfl mIs FIs.kp bIs .nil pass0 (pa_cons (pe_ix ix_tup (pv 0) pe_int (fun _ _ => rfl)) pa_nil)))))))), ?_⟩
    refine ⟨_, rfl, _, _, _, _, true, rfl, .ty "tuple", .base (.tup ht), kit_ty (by decide +kernel), _, rfl, iteT ?_⟩
    refine ⟨_, rfl, _, _, rfl, .inr ⟨_, SqT.of ht, rfl⟩, rfl, _, rfl, iteT ?_⟩
    refine ⟨_, rfl, t, _, 0, _, rfl, rfl, SqT.of ht, rfl, .inl ⟨z, rfl, Nat.le_trans hz.2.1 (by decide), fun H' s' => ?_⟩⟩
    rw [wordB_of hz]
    refine ⟨_, rfl, iteT ?_⟩
    refine ⟨_, rfl, t, _, 1, _, rfl, rfl, SqT.of (s' _ _ ht), rfl, .inl ⟨n, rfl, ?_⟩⟩
    rw [decide_eq_true hn.1, decide_eq_true hn.2]
    exact q H' s'
theorem ok_distinct {f : Addr} {fd : FuncData} (F : Fun K "distinct" "distinct" s_distinct f fd) (g : Bi mg) : FnOk P w K mg base CX0 1 f fd ["words"] (spDistinct K) := by
  refine F.ok sc_distinct (fun vs H Q E h => ?_) (fun cdv A outer s H vs Q E hr h => ?_)
  · obtain ⟨_, _, rfl, _⟩ := h
    rfl
  · obtain ⟨a, zs, rfl, ha, hl, q⟩ := h
    refine ⟨_, (pss_one (ps_ret (pe_callB (cr_sortT rfl) (by rfl) g.sorted (by decide +kernel) (pa_cons (pe_scT (own := [("word", 1)]) (g := gName 1)  (by rfl) sc_distinct.nd (pi_list (pv 0)) (blkOk_by (own := [("word", 1)]) (N := ["words", "word"]) (sc := defScope s_distinct) (by decide +kernel)) (fun _ _ _ _ _ => (pg_name (i := 1) sc_distinct.nd rfl (Or.inl rfl))) (fun _ _ _ _ _ => pts_nil) (fun _ _ _ _ _ => (pe_callTy SkE.call_str_str (by rfl) g.str (by decide +kernel) (pa_cons (pv 1) pa_nil)))) pa_nil)))), ?_⟩
    refine ⟨_, rfl, a, rfl, ⟨_, ha⟩, fun D hD => ?_⟩
    refine scT_it walk_list (fun i H' => Same H H' ∧ H' D = some (TSetO w D (once (zs.take i)))) ⟨Same.new hD, upd_same⟩ (fun i H' _ h => h.1.seq ha) ?_ ?_
    · rintro i x H' H2 hi ⟨s', hD'⟩ ⟨rfl, hx⟩
      rw [List.length_map] at hi
      have ex : x = V.str zs[i] := by
        rw [List.getElem?_map, List.getElem?_eq_getElem hi] at hx
        exact (Option.some.inj hx).symm
      subst ex
      refine ⟨rfl, yes_it ?_⟩
      refine ⟨_, rfl, _, rfl, zs[i], _, rfl, hD', ?_, ?_, ?_⟩
      · have h1 := once_len (zs.take i)
        rw [List.length_take] at h1
        exact Nat.lt_of_le_of_lt (show (once (zs.take i)).length + 1 ≤ 1001 by omega) (by decide)
      · exact fun b o e => by rw [upd_ne (ne_of_none e hD)]; exact s' b o e
      · rw [upd_same, List.take_succ, List.getElem?_eq_getElem hi]
        show some (TSetO w D (addT (once (zs.take i)) zs[i])) = some (TSetO w D (once (zs.take i ++ [zs[i]])))
        rw [once_snoc]
    · rintro H' ⟨s', hD'⟩
      rw [List.length_map, List.take_length] at hD'
      have h1 := once_len zs
      refine ⟨D, _, rfl, hD', by omega, fun ys p hp hs hn => ?_⟩
      refine q p _ ys (s'.free hn) (s'.trans (Same.new hn)) upd_same (asc_of_sorted hs (hp.nodup_iff.mpr (once_nodup zs))) (fun z => by rw [hp.mem_iff, once_mem]) (by rw [hp.length_eq]; exact h1)
end
end Cs

set_option Elab.async false
set_option linter.all false
set_option maxRecDepth 100000
set_option maxHeartbeats 4000000
/-! Counts.__init__ with pairs and no keywords. -/
namespace Cs
open PySem L2
/-- Counts at p, its dict at d with the table t -/
structure Cnt (C : Addr) (H : Hp) (p d : Addr) (t : Tab) : Prop where
  ob : ∃ dx, H p = some (.ins C dx [("held", .ref d)])
  dc : H d = some (.dK (tv t))
  hd : Held t
  wd : ∀ z ∈ keys t, Word z
theorem put_new {t : Tab} {z : Str} {n : Int} (h : z ∉ keys t) : put t z n = t ++ [(z, n)] := by
  unfold put
  rw [any_keys, if_neg (by simpa using h)]
theorem noZero_take {t : Tab} (nd : (keys t).Nodup) {i : Nat} {q : Str × Int} (h : t[i]? = some q) :
    noZero (t.take (i + 1)) = if q.2 ≠ 0 then put (noZero (t.take i)) q.1 q.2 else noZero (t.take i) := by
  have e : t.take (i + 1) = t.take i ++ [q] := by rw [List.take_succ, h]; rfl
  unfold noZero
  rw [e, List.filter_append]
  by_cases z : q.2 ≠ 0
  · rw [if_pos z, put_new]
    · rw [List.filter_cons, if_pos (decide_eq_true z)]
      rfl
    · intro m
      obtain ⟨r, hr, er⟩ := List.mem_map.mp m
      have h1 : r ∈ t.take i := (List.mem_filter.mp hr).1
      have h2 : (keys (t.take i ++ [q])).Nodup := by
        rw [← e]
        unfold keys
        rw [List.map_take]
        exact nd.sublist (List.take_sublist _ _)
      unfold keys at h2
      rw [List.map_append, List.nodup_append] at h2
      exact h2.2.2 r.1 (List.mem_map.mpr ⟨r, h1, rfl⟩) q.1 (by simp) er
  · rw [if_neg z, List.filter_cons, if_neg (by simpa using z)]
    simp
theorem addUp_keys (z : Str) : ∀ ps, z ∈ keys (addUp ps) → ∃ q ∈ ps, q.1 = z := snoc_rec (fun h => nomatch h) fun l a ih h => by
  rw [addUp_snoc] at h
  rcases mem_keys_put.mp h with m | m
  · obtain ⟨q, hq, e⟩ := ih m
    exact ⟨q, List.mem_append_left _ hq, e⟩
  · exact ⟨a, List.mem_append_right _ (List.mem_singleton.mpr rfl), m.symm⟩
theorem noZero_keys {t : Tab} {z : Str} (h : z ∈ keys (noZero t)) : z ∈ keys t := by
  obtain ⟨q, hq, e⟩ := List.mem_map.mp h
  exact List.mem_map.mpr ⟨q, (noZero_mem.mp hq).1, e⟩
/-- all the words of pairs are words -/
def WdP (ps : List (Str × Int)) : Prop := ∀ q ∈ ps, Word q.1
theorem WdP.held {ps : List (Str × Int)} (h : WdP ps) : ∀ z ∈ keys (noZero (addUp ps)), Word z := fun z m => by
  obtain ⟨q, hq, e⟩ := addUp_keys z ps (noZero_keys m)
  rw [← e]
  exact h q hq
/-- a dict comprehension over a walk -/
theorem dc_it {J : It} {n : Nat} {G : Hp → Prop} {Y : Nat → Hp → V → Hp → Prop} (wk : Walk J n G Y) {g : TG} {tt : TT} {tk tx : TE} {vs : List Nat} {σ : L2.St} {H1 : Hp} {D : Addr} {Qd : Hp → Prop} (Pv : Nat → Hp → Prop)
    (h0 : Pv 0 (upd H1 D (.dK []))) (hG : ∀ i H, i ≤ n → Pv i H → G H)
    (hs : ∀ i x H H', i < n → Pv i H → Y i H x H' → g x (wipe σ vs) H' fun σ2 H2 => wipe σ2 vs = wipe σ vs ∧ tt σ2 H2 fun b H3 =>
      if b = true then tk σ2 H3 fun y H4 => tx σ2 H4 fun z H5 => ∃ kvs k, y = kV k ∧ H5 D = some (.dK kvs) ∧ kvs.length < sizeLine ∧ Pv (i + 1) (upd H5 D (.dK (putK kvs k z))) else Pv (i + 1) H3)
    (hd : ∀ H, Pv n H → Qd H) :
    ∃ W : Nat → Nat → Hp → Prop, (∃ m, W 0 m (upd H1 D (.dK []))) ∧ ∀ i m H, W i m H →
      (J.stop i H ∧ Qd H) ∨ (J.go i H ∧ ∃ Nx : Hp → Prop, (∀ H', Nx H' → ∃ m', m' < m ∧ W (i + 1) m' H') ∧ ∀ x H', J.yld i H x H' → g x (wipe σ vs) H' fun σ2 H2 => wipe σ2 vs = wipe σ vs ∧ tt σ2 H2 fun b H3 =>
        if b = true then tk σ2 H3 fun y H4 => tx σ2 H4 fun z H5 => ∃ kvs k, y = kV k ∧ H5 D = some (.dK kvs) ∧ kvs.length < sizeLine ∧ Nx (upd H5 D (.dK (putK kvs k z))) else Nx H3) := by
  refine ⟨fun i m H => m = n - i ∧ i ≤ n ∧ Pv i H, ⟨n, by simp, Nat.zero_le _, h0⟩, ?_⟩
  rintro i m H ⟨rfl, hi, p⟩
  by_cases lt : i < n
  · exact .inr ⟨wk.goes i H lt (hG i H hi p), Pv (i + 1), fun H' r => ⟨n - (i + 1), by omega, rfl, lt, r⟩, fun x H' y => hs i x H H' lt p (wk.yields i H x H' lt (hG i H hi p) y)⟩
  · obtain rfl : i = n := by omega
    exact .inl ⟨wk.stops H (hG i H hi p), hd H p⟩
theorem val_getD (t : Tab) (z : Str) : ((look t z).map V.int).getD (.int 0) = .int (val t z) := by
  unfold val
  cases look t z <;> rfl
/-- __init__ behind its binding: the pairs a tuple at pt, the keywords an empty dict at dn -/
def spInitB (C : Addr) : Sp := fun vs H Q _ => ∃ (x pt dn dx : Addr) (xs : List V) (ps : List (Str × Int)), vs = [.ref x, .ref pt, .ref dn] ∧ H x = some (.ins C dx []) ∧ H pt = some (.tup xs) ∧ PrL H xs ps ∧ H dn = some (.dK []) ∧ ps.length ≤ 1000 ∧ WdP ps ∧
  ∀ (d : Addr) (H' : Hp), H d = none → Cnt C H' x d (noZero (addUp ps)) → (∀ b o, H b = some o → b ≠ x → H' b = some o) → Q .non H'
section
variable {P : Program} {w : World} {K : PySem.W.Frag} {mg : Str → Option Value} {base : Heap}
theorem init_body {C f : Addr} {cdv : Value} {A : Around} {outer : List Env} {s : Shared} {H : Hp} {vs : List V} {Q : VK} {E : XK} (g : Bi mg) (cl : Cls K C) (nH : NoAttr K C "held")
    (hr : Room 0 (A.deeper (PyProof.Rows.envOfC "Counts.__init__" (defScope s_Counts_init) s.heap.objs.size f cdv))) (h : spInitB C vs H Q E) :
    ∃ t, PSs (cxOf CX0 P w K mg base ["self", "pairs", "numbers", "word", "held", "number"] "Counts.__init__" (defScope s_Counts_init) f cdv A outer s H E).nox (defBody s_Counts_init) t ∧ t { nx := fun _ H' => Q .non H', rt := Q } (L2.start ["self", "pairs", "numbers", "word", "held", "number"] vs) H := by
  obtain ⟨x, pt, dn, dx, xs, ps, rfl, hx, hpt, hP, hdn, hl, hW, k⟩ := h
  have hu := hu_of hr
  refine ⟨_, (pss_cons (ps_lock (ps_for PassesOwn.never rfl (pi_keys (pv 2)) (pg_name (i := 3) sc_Counts_init.nd rfl (Or.inl rfl)) pss_never))
      (pss_cons (ps_set (i := 4) sc_Counts_init.nd rfl (Or.inl rfl) pe_dnewK)
      (pss_cons (ps_for PassesOwn.never rfl (pi_list (pe_op op_cat (pe_callTy call_list_of (by rfl) g.list (by decide +kernel) (pa_cons (pv 1) pa_nil)) (LiI.pe_listItems rfl (pv 2) (by rfl) g.list (by decide +kernel)))) (pg_tup rfl (pgs_cons (pg_name (i := 3) sc_Counts_init.nd rfl (Or.inl rfl)) (pgs_cons (pg_name (i := 5) sc_Counts_init.nd rfl (Or.inl rfl)) pgs_nil))) (pss_one (ps_dput hu (pv 4) (pv 3) (pe_op op_add (pe_dget2 hu (pv 4) (pv 3) pe_int ⟨rfl, rfl, rfl, rfl⟩) (pv 5)) rfl)))
      (pss_one (ps_fld (pv 0) (pe_lock (pe_dc (own := [("word", 3), ("number", 5)]) (g := gTup K 2 (gCons (gName 3) (gCons (gName 5) gNil))) (by rfl) sc_Counts_init.nd (pi_items (pv 4)) (blkOk_by (own := [("word", 3), ("number", 5)]) (N := ["self", "pairs", "numbers", "word", "held", "number"]) (sc := defScope s_Counts_init) (by decide +kernel)) (fun _ _ _ _ _ => (pg_tup rfl (pgs_cons (pg_name (i := 3) sc_Counts_init.nd rfl (Or.inl rfl)) (pgs_cons (pg_name (i := 5) sc_Counts_init.nd rfl (Or.inl rfl)) pgs_nil)))) (fun _ _ _ _ _ => (pts_one (pt_cmpR op_ne (pv 5) pe_int (nomark _)))) (fun _ _ _ _ _ => (pv 3)) (fun _ _ _ _ _ => (pv 5)))) rfl))))), ?_⟩
  have nxd : x ≠ dn := ne_of hx hdn (by intro z; cases z)
  have npd : pt ≠ dn := ne_of hpt hdn (by intro z; cases z)
  have nxp : x ≠ pt := ne_of hx hpt (by intro z; cases z)
  -- for word in numbers: nothing
  refine ⟨dn, _, hdn, trivial, fun od => ?_⟩
  refine ⟨_, rfl, dn, od, rfl, .inl ⟨[], upd_same, ?_⟩⟩
  refine for_it walk_keys (fun i σ' H' => i = 0 ∧ H' = upd H dn (.frz od (.dK [])) ∧ σ' = [some (.ref x), some (.ref pt), some (.ref dn), none, none, none]) ⟨rfl, rfl, rfl⟩ (fun i σ' H' _ h => by rw [h.2.1]; exact upd_same) (fun i x σ' H' H2 hi => absurd hi (Nat.not_lt_zero _)) ?_
  rintro σ' H' ⟨_, rfl, rfl⟩
  refine ⟨upd_same, ?_⟩
  have eH : upd (upd H dn (.frz od (.dK []))) dn (.dK []) = H := by
    funext b
    by_cases e : b = dn
    · rw [e, upd_same, hdn]
    · rw [upd_ne e, upd_ne e]
  rw [eH]
  -- held = {}
  intro e he
  have s1 : Same H (upd H e (.dK [])) := Same.new he
  -- list(pairs) + list(numbers.items())
  refine ⟨_, rfl, pt, _, rfl, .inr (SqT.of (s1 _ _ hpt)), fun l1 hl1 => ?_⟩
  have s2 := s1.trans (Same.new (o := .lst xs) hl1)
  refine ⟨_, rfl, dn, [], rfl, s2 _ _ hdn, fun H3 p3 ts sm hp3 hts hnp hlst hpr => ?_⟩
  cases hpr
  have nel : e ≠ l1 := ne_of_none upd_same hl1
  refine ⟨l1, p3, xs, [], rfl, rfl, sm _ _ upd_same, hlst, ?_, fun l hl4 => ?_⟩
  · rw [hP.length]
    exact Nat.le_trans hl (by decide)
  rw [List.append_nil]
  have s3 : Same H H3 := s2.trans sm
  have s4 : Same H (upd H3 l (.lst xs)) := s3.trans (Same.new hl4)
  have he3 : H3 e = some (.dK []) := sm _ _ (by rw [upd_ne nel]; exact upd_same)
  have nel4 : e ≠ l := ne_of_none he3 hl4
  have hlx : H l = none := s3.free hl4
  refine ⟨l, rfl, ⟨_, SqL.of upd_same⟩, for_list (K := K) (a := l) (xs := xs) (fun i σ' H' => ∃ x3 x5 : Option V, σ' = [some (.ref x), some (.ref pt), some (.ref dn), x3, some (.ref e), x5] ∧ Same H H' ∧ H' l = some (.lst xs) ∧ H' e = some (.dK (tv (addUp (ps.take i)))))
    ⟨_, _, rfl, s4, upd_same, by rw [upd_ne nel4]; exact he3⟩ (fun i σ' H' _ ⟨_, _, _, _, h, _⟩ => SqL.of h) ?_ ?_⟩
  · rintro i y σ' H' hy ⟨x3, x5, rfl, s', hl', he'⟩
    have hi : i < ps.length := by
      have := (List.getElem?_eq_some_iff.mp hy).1
      rw [hP.length] at this
      exact this
    obtain ⟨t, et, ht⟩ := hP.at (List.getElem?_eq_getElem hi)
    rw [et] at hy
    obtain rfl := Option.some.inj hy
    refine ⟨t, _, rfl, SqT.of (s' _ _ ht), rfl, _, _, rfl, _, _, rfl, rfl, ?_⟩
    refine ⟨_, rfl, e, rfl, .inl ⟨_, .inl he'⟩, _, rfl, _, DGet.k (k := Sum.inr ps[i].1) he', _, rfl, val (addUp (ps.take i)) ps[i].1, ps[i].2, (by rw [tv_val]; exact val_getD _ _), rfl, _, rfl, _, rfl, e, _, rfl, DPut.k (k := Sum.inr ps[i].1) he' ?_, ?_⟩
    · rw [tv_len]
      have h1 := addUp_len (ps.take i)
      rw [List.length_take] at h1
      exact Nat.lt_of_le_of_lt (show (addUp (ps.take i)).length ≤ 1000 by omega) (by decide)
    · refine ⟨_, _, rfl, fun b o q => by rw [upd_ne (ne_of_none q he)]; exact s' b o q, by rw [upd_ne (ne_of hl' he' (by intro z; cases z))]; exact hl', ?_⟩
      rw [upd_same, tv_put, List.take_succ, List.getElem?_eq_getElem hi]
      show some (HO.dK (tv (put (addUp (ps.take i)) ps[i].1 (val (addUp (ps.take i)) ps[i].1 + ps[i].2)))) = some (HO.dK (tv (addUp (ps.take i ++ [ps[i]]))))
      rw [addUp_snoc]
  · rintro σ' H5 ⟨x3, x5, rfl, s5, hl5, he5⟩
    rw [hP.length, List.take_length] at he5
    generalize et : addUp ps = t at he5
    have ndt : (keys t).Nodup := by rw [← et]; exact addUp_nd ps
    have lent : t.length ≤ 1000 := by rw [← et]; exact Nat.le_trans (addUp_len ps) hl
    -- self.held = {..}
    refine ⟨e, _, he5, trivial, fun oe => ?_⟩
    refine ⟨_, rfl, e, oe, _, rfl, upd_same, fun D hD => ?_⟩
    have nDe : D ≠ e := (ne_of_none upd_same hD).symm
    have hDH : H5 D = none := by rw [upd_ne nDe] at hD; exact hD
    have xe : x ≠ e := ne_of_none hx he
    refine dc_it walk_items (fun i H' => (∀ b o, H5 b = some o → b ≠ e → H' b = some o) ∧ H' e = some (.frz oe (.dK (tv t))) ∧ H' D = some (.dK (tv (noZero (t.take i))))) ⟨fun b o q n => by rw [upd_ne (ne_of_none q hDH), upd_ne n]; exact q, by rw [upd_ne nDe.symm]; exact upd_same, upd_same⟩
      (fun i H' _ h => h.2.1) ?_ ?_
    · rintro i v H' H2 hi ⟨k1, k2, k3⟩ ⟨T, a, b, rfl, hT, rfl, ha, hb⟩
      rw [tv_len] at hi
      have hi2 : (tv t)[i]? = some (Sum.inr t[i].1, V.int t[i].2) := by
        unfold tv
        rw [List.getElem?_map, List.getElem?_eq_getElem hi]
        rfl
      dsimp only at ha hb
      rw [hi2] at ha hb
      obtain rfl : V.str t[i].1 = a := Option.some.inj ha
      obtain rfl : V.int t[i].2 = b := Option.some.inj hb
      have sT : Same H' (upd H' T (.tup [V.str t[i].1, V.int t[i].2])) := Same.new hT
      refine ⟨T, _, rfl, SqT.of upd_same, rfl, _, _, rfl, _, _, rfl, rfl, rfl, _, rfl, rfl, _, rfl, ?_⟩
      have nz := noZero_take ndt (List.getElem?_eq_getElem hi)
      by_cases z : t[i].2 = 0
      · rw [decide_eq_true (show V.int t[i].2 = V.int 0 by rw [z])]
        rw [if_neg (by simpa using z)] at nz
        refine iteF ?_
        refine ⟨fun c o q n => sT _ _ (k1 c o q n), sT _ _ k2, ?_⟩
        rw [nz]
        exact sT _ _ k3
      · rw [decide_eq_false (show ¬ V.int t[i].2 = V.int 0 from fun q => z (V.int.inj q))]
        rw [if_pos z] at nz
        refine iteT ?_
        refine ⟨_, rfl, _, rfl, _, Sum.inr t[i].1, rfl, sT _ _ k3, ?_, ?_, ?_, ?_⟩
        · rw [tv_len]
          have h1 : (noZero (t.take i)).length ≤ (t.take i).length := List.length_filter_le _ _
          rw [List.length_take] at h1
          exact Nat.lt_of_le_of_lt (show (noZero (t.take i)).length ≤ 1000 by omega) (by decide)
        · intro c o q n
          rw [upd_ne (ne_of_none q hDH)]
          exact sT _ _ (k1 c o q n)
        · rw [upd_ne nDe.symm]
          exact sT _ _ k2
        · rw [upd_same, tv_put, nz]
    · rintro H' ⟨k1, k2, k3⟩
      rw [tv_len, List.take_length] at k3
      refine ⟨k2, _, rfl, x, C, dx, [], rfl, ?_, cl, nH, (by show 0 < 1000; decide), ?_⟩
      · rw [upd_ne xe]
        exact k1 _ _ (s5 _ _ hx) xe
      · have nDx : D ≠ x := (ne_of_none (s5 _ _ hx) hDH).symm
        refine k D _ (s5.free hDH) ⟨⟨dx, upd_same⟩, ?_, Held.of (by rw [et]; exact ndt), hW.held⟩ fun b o q n => ?_
        · rw [upd_ne nDx, upd_ne nDe, et]
          exact k3
        · have be : b ≠ e := ne_of_none q he
          rw [upd_ne n, upd_ne be]
          exact k1 _ _ (s5 _ _ q) be
end
end Cs

set_option Elab.async false
set_option linter.all false
set_option maxRecDepth 100000
set_option maxHeartbeats 4000000
/-! Counts: its methods, by what they hold. -/
namespace Cs
open PySem L2
theorem fnR_of {P : Program} {w : World} {K : PySem.W.Frag} {mg : Str → Option Value} {base : Heap} {CX : CXT} {k : Nat} {f : Addr} {fd : FuncData} {ps : List Str} {sp : Sp} (F : FnOk P w K mg base CX k f fd ps sp) (hb : Binds K fd ps []) : FnR P w K mg base CX k f sp := by
  intro A outer s H us vs Q E hr e0 r h
  have hl : us.length = ps.length := by rw [← r.length]; exact F.len _ _ _ _ h
  have kin : K.In s.heap := e0.mod.kin.keeps fun b o e => (e0.bs b o e).1
  have hb' := hb s us kin (by rw [List.append_nil]; exact hl)
  rw [List.append_nil] at hb'
  exact F.run A outer s H ⟨us, []⟩ us vs Q E hr e0 hb' r h
/-- __init__ called with pairs -/
def spInit (C : Addr) : Sp := fun vs H Q _ => ∃ (x dx : Addr) (xs : List V) (ps : List (Str × Int)), vs = .ref x :: xs ∧ H x = some (.ins C dx []) ∧ PrL H xs ps ∧ ps.length ≤ 1000 ∧ WdP ps ∧
  ∀ (d : Addr) (H' : Hp), H d = none → Cnt C H' x d (noZero (addUp ps)) → (∀ b o, H b = some o → b ≠ x → H' b = some o) → Q .non H'
/-- the class as the top has made it -/
structure CT (P : Program) (w : World) (K : PySem.W.Frag) (mg : Str → Option Value) (base : Heap) (C fI : Addr) : Prop where
  cl : Cls K C
  nH : NoAttr K C "held"
  mgC : mg "Counts" = some (.ref C)
  mke : Mk K C fI
  ini : FnR P w K mg base CX0 1 fI (spInit C)
/-- a method -/
structure MDef (P : Program) (w : World) (K : PySem.W.Frag) (mg : Str → Option Value) (base : Heap) (CX : CXT) (k : Nat) (C : Addr) (m : Str) (ps : List Str) (sp : Sp) (f : Addr) (fd : FuncData) : Prop where
  me : Meth K C m f
  ok : FnOk P w K mg base CX k f fd ps sp
  b : Binds K fd ps []
theorem flds_held (d : Addr) : ([("held", .ref d)] : List (Str × V)).lookup ("held" : Str) = some (.ref d) := by
  rw [List.lookup_cons, beq_self_eq_true]
theorem Cnt.same {C : Addr} {H H' : Hp} {p d : Addr} {t : Tab} (s : Same H H') (h : Cnt C H p d t) : Cnt C H' p d t := by
  obtain ⟨⟨dx, a⟩, b, c, e⟩ := h
  exact ⟨⟨dx, s _ _ a⟩, s _ _ b, c, e⟩
/-- what a method hands out that gives new counts -/
def NewC (C : Addr) (H : Hp) (Q : VK) (F : Str → Int) (n : Nat) : Prop := ∀ (r e : Addr) (H' : Hp) (u : Tab), H r = none → H e = none → Same H H' → Cnt C H' r e u → (∀ z, val u z = F z) → u.length ≤ n → Q (.ref r) H'
def spWords (C : Addr) : Sp := fun vs H Q _ => ∃ (p d : Addr) (t : Tab), vs = [.ref p] ∧ Cnt C H p d t ∧ t.length ≤ 1000 ∧
  ∀ (q : Addr) (H' : Hp) (ws : List Str), H q = none → Same H H' → H' q = some (.lst (ws.map V.str)) → Asc ws → (∀ z, z ∈ ws ↔ z ∈ keys t) → ws.length ≤ t.length → Q (.ref q) H'
def spPairsM (C : Addr) : Sp := fun vs H Q _ => ∃ (p d : Addr) (t : Tab), vs = [.ref p] ∧ Cnt C H p d t ∧ t.length ≤ 1000 ∧
  ∀ (q : Addr) (H' : Hp) (xs : List V) (l : Tab), H q = none → Same H H' → H' q = some (.lst xs) → PrL H' xs l → Told (val t) l → WdP l → l.length ≤ t.length → Q (.ref q) H'
def spCopy (C : Addr) : Sp := fun vs H Q _ => ∃ (p d : Addr) (t : Tab), vs = [.ref p] ∧ Cnt C H p d t ∧ t.length ≤ 1000 ∧ NewC C H Q (val t) t.length
theorem noZero_len (t : Tab) : (noZero t).length ≤ t.length := List.length_filter_le _ _
theorem sumOf_told {f : Str → Int} {l : Tab} (h : Told f l) (z : Str) : sumOf l z = f z := by
  have nd : (keys l).Nodup := h.asc.nodup
  rw [← addUp_val, ]
  have key : ∀ (m : Tab), (keys m).Nodup → ∀ z, sumOf m z = val m z := by
    intro m
    induction m with
    | nil => intro _ z; rfl
    | cons q m ih =>
      intro nd z
      obtain ⟨n1, n2⟩ := List.nodup_cons.mp (show (q.1 :: keys m).Nodup from nd)
      have hz := ih n2 z
      unfold sumOf at hz ⊢
      unfold val look
      rw [List.filter_cons, List.find?_cons]
      by_cases e : q.1 = z
      · rw [if_pos (decide_eq_true e), decide_eq_true e, List.map_cons, List.sum_cons, hz]
        subst e
        unfold val
        rw [look_none n1]
        simp
      · rw [if_neg (by simpa using e), decide_eq_false e, hz]
        rfl
  rw [addUp_val, key l nd]
  unfold val
  by_cases m : z ∈ keys l
  · obtain ⟨n, a, b⟩ := look_some m
    rw [a]
    exact ((h.mem z n).mp b).1
  · rw [look_none m]
    have := mt (h.keys_iff z).mpr m
    have e : f z = 0 := Classical.byContradiction this
    rw [e]
    rfl
section
variable {P : Program} {w : World} {K : PySem.W.Frag} {mg : Str → Option Value} {base : Heap}
theorem ok_init {C f : Addr} {oc od kV doc pm an cdv ct osl} (g : Bi mg) (cl : Cls K C) (nH : NoAttr K C "held")
    (lk : K.lookup f = some ⟨oc, od, .func (PySem.W.fnOf "__init__" "Counts.__init__" (defArgs s_Counts_init) (defBody s_Counts_init) (defScope s_Counts_init) .none kV doc pm an cdv ct), osl⟩) (hcd : PySem.W.codeIn K cdv "Counts.__init__" = true) :
    FnR P w K mg base CX0 1 f (spInit C) := by
  have G := StX.fn_starkw (P := P) (w := w) (mg := mg) (base := base) (CX := CX0) (k := 0) (ps := ["self"]) (pv := "pairs") (pd := "numbers") (sp := spInitB C) lk hcd sc_Counts_init StX.cxUp_none
    (fun us rest hl => match us, rest, hl with | [a], [], _ => rfl | [a], r :: rs, _ => rfl)
    (fun A outer s H vs Q E hr h => by
      obtain ⟨t, a, b⟩ := init_body (P := P) (w := w) (mg := mg) (base := base) (outer := outer) (s := s) g cl nH hr h
      exact ⟨t, a.nox, b⟩)
  refine G.imp fun vs H Q E h => ?_
  obtain ⟨x, dx, xs, ps, rfl, hx, hP, hl, hW, k⟩ := h
  refine ⟨[.ref x], xs, rfl, rfl, by rw [hP.length]; exact Nat.le_trans hl (by decide), fun p d hp hd hne => ?_⟩
  have s1 : Same H (upd H p (.tup xs)) := Same.new hp
  have hd1 : (upd H p (.tup xs)) d = none := by rw [upd_ne hne]; exact hd
  have s2 : Same H (upd (upd H p (.tup xs)) d (.dK [])) := s1.trans (Same.new hd1)
  refine ⟨x, p, d, dx, xs, ps, rfl, s2 _ _ hx, (by rw [upd_ne hne.symm]; exact upd_same), hP.mono (fun t a b e => s2 _ _ e), upd_same, hl, hW, fun e H' he hc kp => ?_⟩
  exact k e H' (s2.free he) hc fun b o q n => kp b o (s2 _ _ q) n
theorem ok_words {C f fDi : Addr} {fd fdDi : FuncData} {fI : Addr} (F : Fun K "words" "Counts.words" s_Counts_words f fd) (g : Bi mg) (T : CT P w K mg base C fI) (FDi : Def P w K mg base CX0 1 "distinct" ["words"] (spDistinct K) fDi fdDi) : FnOk P w K mg base CX0 2 f fd ["self"] (spWords C) := by
  obtain ⟨GDi, mDi, _, bDi⟩ := id FDi
  refine F.ok sc_Counts_words (fun vs H Q E h => ?_) (fun cdv A outer s H vs Q E hr h => ?_)
  · obtain ⟨_, _, _, rfl, _⟩ := h
    rfl
  · obtain ⟨p, d, t, rfl, hc, hl, k⟩ := h
    have hrDi : Room 1 _ := hr.mono (by decide)
    obtain ⟨⟨dx, hp⟩, hd, hh, hw⟩ := id hc
    refine ⟨_, (pss_one (ps_ret (pe_call GDi hrDi rfl mDi FDi.kp bDi .nil pass0 (pa_cons (pe_callTy (call_listD rfl) (by rfl) g.list (by decide +kernel) (pa_cons (pe_fld (pv 0) rfl) pa_nil)) pa_nil)))), ?_⟩
    refine ⟨_, rfl, p, C, dx, _, _, rfl, hp, T.cl, T.nH, flds_held d, d, _, rfl, .inl hd, fun q hq => ?_⟩
    have e : (tv t).map (fun kv => kV kv.1) = (keys t).map V.str := by
      unfold tv keys
      rw [List.map_map, List.map_map]
      rfl
    rw [e]
    have s1 : Same H (upd H q (.lst ((keys t).map V.str))) := Same.new hq
    refine ⟨q, keys t, rfl, SqL.of upd_same, by unfold keys; rw [List.length_map]; exact hl, fun r H' ws hr' s2 h2 ha hm hle => ?_⟩
    exact k r H' ws (s1.free hr') (s1.trans s2) h2 ha hm (by unfold keys at hle; rw [List.length_map] at hle; exact hle)
theorem ok_pairsM {C f fWo : Addr} {fd fdWo : FuncData} {fI : Addr} (F : Fun K "pairs" "Counts.pairs" s_Counts_pairs f fd) (g : Bi mg) (T : CT P w K mg base C fI) (MWo : MDef P w K mg base CX0 2 C "words" ["self"] (spWords C) fWo fdWo) : FnOk P w K mg base CX0 3 f fd ["self"] (spPairsM C) := by
  refine F.ok sc_Counts_pairs (fun vs H Q E h => ?_) (fun cdv A outer s H vs Q E hr h => ?_)
  · obtain ⟨_, _, _, rfl, _⟩ := h
    rfl
  · obtain ⟨p, d, t, rfl, hc, hl, k⟩ := h
    have hrWo : Room 2 _ := hr.mono (by decide)
    have hu := hu_of hr
    obtain ⟨⟨dx, hp⟩, hd, hh, hw⟩ := id hc
    refine ⟨_, (pss_one (ps_ret (pe_lc (own := [("word", 1)]) (g := gName 1) (te := (tTup (tCons _ (tCons (tDGet (tFld K _ "held") _) tNil))))  (by rfl) sc_Counts_pairs.nd (pi_list (pe_meth0 (pv 0) T.cl MWo.me MWo.ok hrWo MWo.b .nil pass0)) (blkOk_by (own := [("word", 1)]) (N := ["self", "word"]) (sc := defScope s_Counts_pairs) (by decide +kernel)) (fun _ _ _ _ _ => (pg_name (i := 1) sc_Counts_pairs.nd rfl (Or.inl rfl))) (fun _ _ _ _ _ => pts_nil) (fun _ _ _ _ _ => (pe_tup (pa_cons (pv 1) (pa_cons (pe_dget hu (pe_fld (pv 0) rfl) (pv 1) (fun _ _ => rfl)) pa_nil))))))), ?_⟩
    refine ⟨_, rfl, p, dx, _, rfl, hp, rfl, p, d, t, rfl, hc, hl, fun q H1 ws hq s1 h1 ha hm hle => ⟨q, rfl, ⟨_, SqL.of h1⟩, fun D hD => ?_⟩⟩
    refine lc_it (walk_list (xs := ws.map V.str)) (fun i H' => Same H1 H' ∧ ∃ xs, H' D = some (.lst xs) ∧ PrL H' xs ((ws.take i).map fun z => (z, val t z))) ⟨Same.new hD, [], upd_same, .nil⟩ (fun i H' _ h => SqL.of (h.1 _ _ h1)) ?_ ?_
    · rintro i x H' H2 hi ⟨s', xs, hD', hP'⟩ ⟨rfl, hx⟩
      rw [List.length_map] at hi
      have ex : x = V.str ws[i] := by
        rw [List.getElem?_map, List.getElem?_eq_getElem hi] at hx
        exact (Option.some.inj hx).symm
      subst ex
      obtain ⟨n, en, _⟩ := look_some ((hm ws[i]).mp (List.getElem_mem hi))
      have ev : val t ws[i] = n := by unfold val; rw [en]; rfl
      have hd' := s' _ _ (s1 _ _ hd)
      have hxl : xs.length = i := by
        rw [hP'.length, List.length_map, List.length_take]
        omega
      refine ⟨rfl, yes_it ?_⟩
      refine ⟨_, rfl, _, rfl, p, C, dx, _, _, rfl, s' _ _ (s1 _ _ hp), T.cl, T.nH, flds_held d, _, rfl, d, .int n, rfl, ?_, by show 2 ≤ sizeLine; decide, fun T2 hT2 => ?_⟩
      · have := DGet.k (k := Sum.inr ws[i]) hd'
        rw [tv_val, en] at this
        exact this
      · have nTD : D ≠ T2 := ne_of_none hD' hT2
        have sT : Same H2 (upd H2 T2 (.tup [.str ws[i], .int n])) := Same.new hT2
        refine ⟨xs, by rw [upd_ne nTD]; exact hD', by rw [hxl]; exact Nat.lt_of_le_of_lt (show i ≤ 1000 by omega) (by decide), fun b o q => ?_, xs ++ [.ref T2], upd_same, ?_⟩
        · rw [upd_ne (ne_of_none q hD)]
          exact sT _ _ (s' _ _ q)
        · rw [List.take_succ, List.getElem?_eq_getElem hi, List.map_append]
          show PrL _ (xs ++ [.ref T2]) (_ ++ [(ws[i], val t ws[i])])
          rw [ev]
          refine PrL.snoc (hP'.mono fun c a b e => ?_) (by rw [upd_ne nTD.symm]; exact upd_same)
          have cD : c ≠ D := by
            rintro rfl
            rw [hD'] at e
            cases e
          rw [upd_ne cD]
          exact sT _ _ e
    · rintro H' ⟨s', xs, hD', hP'⟩
      rw [List.length_map, List.take_length] at hP'
      exact k D H' xs _ (s1.free hD) (s1.trans s') hD' hP' (hh.told ha hm) (fun q m => by
        obtain ⟨z, hz, e⟩ := List.mem_map.mp m
        rw [← e]
        exact hw z ((hm z).mp hz)) (by rw [List.length_map]; exact hle)
end
end Cs

set_option Elab.async false
set_option linter.all false
set_option maxRecDepth 100000
set_option maxHeartbeats 4000000
/-! Counts: of, only, total, len, the store of one word. -/
namespace Cs
open PySem L2
def spOf (K : PySem.W.Frag) (C : Addr) : Sp := fun vs H Q _ => ∃ (a : Addr) (xs : List V) (ps : List (Str × Int)), vs = [.ref C, .ref a] ∧ H a = some (.lst xs) ∧ PrL H xs ps ∧ GoodPs ps ∧ ps.length ≤ 1000 ∧ NewC C H Q (sumOf ps) ps.length
def spTotal (C : Addr) : Sp := fun vs H Q _ => ∃ (p d : Addr) (t : Tab), vs = [.ref p] ∧ Cnt C H p d t ∧ t.length ≤ 1000 ∧ ∀ H', Same H H' → Q (.int (t.map (·.2)).sum) H'
def spLen (C : Addr) : Sp := fun vs H Q _ => ∃ (p d : Addr) (t : Tab), vs = [.ref p] ∧ Cnt C H p d t ∧ Q (.int t.length) H
def spSet (C : Addr) : Sp := fun vs H Q _ => ∃ (p d : Addr) (t : Tab) (z : Str) (n : Int), vs = [.ref p, .str z, .int n] ∧ Word z ∧ Small n ∧ Cnt C H p d t ∧ t.length ≤ 1000 ∧
  ∀ (u : Tab) (H' : Hp), Cnt C H' p d u → (∀ y, val u y = if y = z then n else val t y) → u.length ≤ t.length + 1 → (∀ b o, H b = some o → b ≠ d → H' b = some o) → Q .non H'
def spOnlyB (C : Addr) : Sp := fun vs H Q _ => ∃ (p d wt : Addr) (t : Tab) (zs : List Str), vs = [.ref p, .ref wt] ∧ H wt = some (.tup (zs.map V.str)) ∧ Cnt C H p d t ∧ t.length ≤ 1000 ∧ NewC C H Q (fun z => if z ∈ zs then val t z else 0) t.length
def spOnly (C : Addr) : Sp := fun vs H Q _ => ∃ (p d : Addr) (t : Tab) (zs : List Str), vs = .ref p :: zs.map V.str ∧ zs.length ≤ 1000 ∧ Cnt C H p d t ∧ t.length ≤ 1000 ∧ NewC C H Q (fun z => if z ∈ zs then val t z else 0) t.length
theorem inV_str (z : Str) (zs : List Str) : inV (.str z) (zs.map V.str) = decide (z ∈ zs) := by
  unfold inV
  rw [List.any_map, Bool.eq_iff_iff, List.any_eq_true, decide_eq_true_eq]
  constructor
  · rintro ⟨y, m, e⟩
    have e : (y == z) = true := e
    rw [← eq_of_beq e]
    exact m
  · intro m
    exact ⟨z, m, beq_self_eq_true z⟩
theorem flat_strs (zs : List Str) : (zs.map V.str).all flatV = true := by
  rw [List.all_map, List.all_eq_true]
  intro z _
  rfl
theorem sumOf_filter (l : Tab) (zs : List Str) (z : Str) : sumOf (l.filter fun q => decide (q.1 ∈ zs)) z = if z ∈ zs then sumOf l z else 0 := by
  unfold sumOf
  rw [List.filter_filter]
  by_cases h : z ∈ zs
  · rw [if_pos h]
    congr 2
    apply List.filter_congr
    intro q _
    by_cases e : q.1 = z
    · simp [e, h]
    · simp [e]
  · rw [if_neg h, List.filter_eq_nil_iff.mpr]
    · rfl
    · intro q _ k
      rw [Bool.and_eq_true, decide_eq_true_eq, decide_eq_true_eq] at k
      exact h (k.1 ▸ k.2)
theorem held_put {t : Tab} (h : Held t) {z : Str} {n : Int} (hn : n ≠ 0) : Held (put t z n) := ⟨nd_put h.nd, fun q m => by
  rcases mem_put (y := q.1) (m := q.2) m with ⟨_, e⟩ | ⟨_, e⟩
  · rw [e]
    exact hn
  · exact h.nz _ e⟩
theorem held_drop {t : Tab} (h : Held t) {z : Str} : Held (drop t z) := ⟨nd_drop h.nd, fun q m => h.nz q (List.mem_filter.mp m).1⟩
section
variable {P : Program} {w : World} {K : PySem.W.Frag} {mg : Str → Option Value} {base : Heap}
theorem made {C : Addr} {H : Hp} {x dx : Addr} (hx : H x = none) (hd : H dx = none) : Same H (upd (upd H dx (.own x)) x (.ins C dx [])) := fun b o e => by
  rw [upd_ne (ne_of_none e hx), upd_ne (ne_of_none e hd)]
  exact e
/-- Counts(*pairs) at hand: the pairs stand as a list or tuple -/
theorem mk_pairs {C : Addr} {H1 : Hp} {xs : List V} {l : Tab} {Q : VK} {n : Nat} {G : Str → Int} (hP : PrL H1 xs l) (hw : WdP l) (hl : l.length ≤ 1000) (hn : l.length ≤ n) (hG : ∀ z, sumOf l z = G z) (k : NewC C H1 Q G n) {E : XK} :
    ∀ x dx, H1 x = none → H1 dx = none → dx ≠ x → spInit C (V.ref x :: xs) (upd (upd H1 dx (.own x)) x (.ins C dx [])) (fun v H2 => v = .non ∧ Q (.ref x) H2) E := by
  intro x dx hx hdx ne
  have s2 := made (C := C) hx hdx
  refine ⟨x, dx, xs, l, rfl, upd_same, hP.mono (fun c a b e => s2 _ _ e), hl, hw, fun e H' he hC kp => ⟨rfl, ?_⟩⟩
  have s3 : Same H1 H' := fun b o e => kp b o (s2 _ _ e) (ne_of_none e hx)
  refine k x e H' _ hx (s2.free he) s3 hC (fun z => ?_) (Nat.le_trans (noZero_len _) (Nat.le_trans (addUp_len l) hn))
  rw [noZero_val (addUp_nd l), addUp_val, hG]
theorem NewC.later {C : Addr} {H H1 : Hp} {Q : VK} {G : Str → Int} {n : Nat} (s : Same H H1) (k : NewC C H Q G n) : NewC C H1 Q G n := fun r e H' u hr he s' hc hv hl => k r e H' u (s.free hr) (s.free he) (s.trans s') hc hv hl
theorem ok_of {C f fIp : Addr} {fd fdIp : FuncData} {fI : Addr} (F : Fun K "of" "Counts.of" s_Counts_of f fd) (g : Bi mg) (T : CT P w K mg base C fI) (FIp : Def P w K mg base CX0 3 "is_pair" ["thing"] (spIsPair K) fIp fdIp) : FnOk P w K mg base CX0 4 f fd ["cls", "pairs"] (spOf K C) := by
  obtain ⟨GIp, mIp, _, bIp⟩ := id FIp
  refine F.ok sc_Counts_of (fun vs H Q E h => ?_) (fun cdv A outer s H vs Q E hr h => ?_)
  · obtain ⟨_, _, _, rfl, _⟩ := h
    rfl
  · obtain ⟨a, xs, ps, rfl, ha, hP, hG, hl, k⟩ := h
    have hrIp : Room 3 _ := hr.mono (by decide)
    have hrI : Room 2 _ := hr.mono (by decide)
    refine ⟨_, (pss_cons (ps_if (pt_not (pt_val (pe_callB call_isiT (by rfl) g.isinstance (by decide +kernel) (pa_cons (pv 1) (pa_cons (pe_tup (pa_cons (pe_bltn (v := .ty "list") (by rfl) g.list (by decide +kernel) rfl) (pa_cons (pe_bltn (v := .ty "tuple") (by rfl) g.tuple (by decide +kernel) rfl) pa_nil))) pa_nil))))) (pss_one ps_never) pss_nil)
      (pss_cons (ps_for PassesOwn.never rfl (pi_enum (by rfl) g.enumerate (pa_cons (pv 1) pa_nil)) (pg_tup rfl (pgs_cons (pg_name (i := 2) sc_Counts_of.nd rfl (Or.inl rfl)) (pgs_cons (pg_name (i := 3) sc_Counts_of.nd rfl (Or.inl rfl)) pgs_nil))) (pss_one (ps_if (pt_not (pt_val (pe_call GIp hrIp rfl mIp FIp.kp bIp .nil pass0 (pa_cons (pv 3) pa_nil)))) (pss_one ps_never) pss_nil)))
      (pss_one (ps_ret (pe_mkSL (i := 0) T.mke T.ini hrI rfl (Or.inl rfl) pass0 (pv 1)))))), ?_⟩
    refine ⟨_, rfl, by show 2 ≤ sizeLine; decide, fun tp htp => ?_⟩
    have s1 : Same H (upd H tp (.tup [.ty "list", .ty "tuple"])) := Same.new htp
    refine ⟨_, tp, _, _, _, true, rfl, upd_same, .cons (.ty "list") (.cons (.ty "tuple") .nil), .base (.lst (s1 _ _ ha)), kitAny_cons (b := true) (kit_ty (b := "list") (by decide +kernel)) (fun h => by cases h) (fun _ => rfl), _, rfl, iteF ?_⟩
    refine ⟨_, rfl, a, xs, rfl, SqL.of (s1 _ _ ha), ?_⟩
    refine for_it (walk_enum (xs := xs)) (fun i σ' H' => ∃ x2 x3 : Option V, σ' = [some (.ref C), some (.ref a), x2, x3] ∧ Same H H') ⟨_, _, rfl, s1⟩ (fun i σ' H' _ ⟨_, _, _, h⟩ => SqL.of (h _ _ ha)) ?_ ?_
    · rintro i v σ' H' H2 hi ⟨x2, x3, rfl, s'⟩ ⟨T2, x, y, rfl, hT2, rfl, ex, ey⟩
      obtain rfl : V.int (i : Nat) = x := Option.some.inj ex
      have hi2 : i < ps.length := by rw [← hP.length]; exact hi
      obtain ⟨t, et, ht⟩ := hP.at (List.getElem?_eq_getElem hi2)
      dsimp only at ey
      rw [et] at ey
      obtain rfl := Option.some.inj ey
      have sT : Same H' (upd H' T2 (.tup [.int (i : Nat), .ref t])) := Same.new hT2
      refine ⟨T2, _, rfl, SqT.of upd_same, rfl, _, _, rfl, _, _, rfl, rfl, ?_⟩
      refine ⟨_, rfl, t, _, _, rfl, sT _ _ (s' _ _ ht), (hG _ (List.getElem_mem hi2)).1, (hG _ (List.getElem_mem hi2)).2, fun H3 s3 => ⟨_, rfl, iteF ?_⟩⟩
      exact ⟨_, _, rfl, (s'.trans sT).trans s3⟩
    · rintro σ' H' ⟨x2, x3, rfl, s'⟩
      exact ⟨rfl, _, rfl, a, xs, rfl, .inr (SqL.of (s' _ _ ha)), mk_pairs (hP.mono fun c a b e => s' _ _ e) (fun q m => (hG q m).1) hl (Nat.le_refl _) (fun z => rfl) (k.later s')⟩
theorem ok_total {C f : Addr} {fd : FuncData} {fI : Addr} (F : Fun K "total" "Counts.total" s_Counts_total f fd) (g : Bi mg) (T : CT P w K mg base C fI) : FnOk P w K mg base CX0 1 f fd ["self"] (spTotal C) := by
  refine F.ok sc_Counts_total (fun vs H Q E h => ?_) (fun cdv A outer s H vs Q E hr h => ?_)
  · obtain ⟨_, _, _, rfl, _⟩ := h
    rfl
  · obtain ⟨p, d, t, rfl, hc, hl, k⟩ := h
    obtain ⟨⟨dx, hp⟩, hd, hh, hw⟩ := id hc
    refine ⟨_, (pss_one (ps_ret (pe_callB (cr_sum rfl) (by rfl) g.sum (by decide +kernel) (pa_cons (pe_lock (pe_lc (own := [("number", 1)]) (g := gName 1)  (by rfl) sc_Counts_total.nd (pi_values (pe_fld (pv 0) rfl)) (blkOk_by (own := [("number", 1)]) (N := ["self", "number"]) (sc := defScope s_Counts_total) (by decide +kernel)) (fun _ _ _ _ _ => (pg_name (i := 1) sc_Counts_total.nd rfl (Or.inl rfl))) (fun _ _ _ _ _ => pts_nil) (fun _ _ _ _ _ => (pe_callTy call_int1 (by rfl) g.int (by decide +kernel) (pa_cons (pv 1) pa_nil))))) pa_nil)))), ?_⟩
    have npd : p ≠ d := ne_of hp hd (by intro z; cases z)
    refine ⟨d, _, hd, trivial, fun od => ?_⟩
    refine ⟨_, rfl, p, C, dx, _, _, rfl, (by rw [upd_ne npd]; exact hp), T.cl, T.nH, flds_held d, d, od, _, rfl, upd_same, fun D hD => ?_⟩
    have nDd : D ≠ d := (ne_of_none upd_same hD).symm
    have hDH : H D = none := by rw [upd_ne nDd] at hD; exact hD
    refine lc_it walk_values (fun i H' => (∀ b o, H b = some o → b ≠ d → H' b = some o) ∧ H' d = some (.frz od (.dK (tv t))) ∧ H' D = some (.lst ((t.take i).map fun q => V.int q.2))) ⟨fun b o e n => by rw [upd_ne (ne_of_none e hDH), upd_ne n]; exact e, by rw [upd_ne nDd.symm]; exact upd_same, upd_same⟩ (fun i H' _ h => h.2.1) ?_ ?_
    · rintro i v H' H2 hi ⟨k1, k2, k3⟩ ⟨rfl, kk, hv⟩
      rw [tv_len] at hi
      have hi2 : (tv t)[i]? = some (Sum.inr t[i].1, V.int t[i].2) := by
        unfold tv
        rw [List.getElem?_map, List.getElem?_eq_getElem hi]
        rfl
      rw [hi2] at hv
      obtain rfl : V.int t[i].2 = v := congrArg Prod.snd (Option.some.inj hv)
      refine ⟨rfl, yes_it ?_⟩
      refine ⟨_, rfl, Or.inl ⟨_, rfl, _, k3, ?_, fun b o e n => ?_, ?_, ?_⟩⟩
      · rw [List.length_map, List.length_take]
        exact Nat.lt_of_le_of_lt (show min i t.length ≤ 1000 by omega) (by decide)
      · rw [upd_ne (ne_of_none e hDH)]
        exact k1 b o e n
      · rw [upd_ne nDd.symm]
        exact k2
      · rw [upd_same, List.take_succ, List.getElem?_eq_getElem hi, List.map_append]
        rfl
    · rintro H' ⟨k1, k2, k3⟩
      rw [tv_len, List.take_length] at k3
      refine ⟨k2, D, t.map (·.2), rfl, SqL.of ?_, k _ fun b o e => ?_⟩
      · rw [upd_ne nDd, k3, List.map_map]
        rfl
      · by_cases n : b = d
        · subst n
          rw [upd_same, ← e, hd]
        · rw [upd_ne n]
          exact k1 b o e n
theorem ok_len {C f : Addr} {fd : FuncData} {fI : Addr} (F : Fun K "__len__" "Counts.__len__" s_Counts_len f fd) (g : Bi mg) (T : CT P w K mg base C fI) : FnOk P w K mg base CX0 1 f fd ["self"] (spLen C) := by
  refine F.ok sc_Counts_len (fun vs H Q E h => ?_) (fun cdv A outer s H vs Q E hr h => ?_)
  · obtain ⟨_, _, _, rfl, _⟩ := h
    rfl
  · obtain ⟨p, d, t, rfl, hc, k⟩ := h
    obtain ⟨⟨dx, hp⟩, hd, hh, hw⟩ := id hc
    refine ⟨_, (pss_one (ps_ret (pe_callB call_lenD (by rfl) g.len PySem.boot_len (pa_cons (pe_fld (pv 0) rfl) pa_nil)))), ?_⟩
    refine ⟨_, rfl, p, C, dx, _, _, rfl, hp, T.cl, T.nH, flds_held d, d, _, rfl, hd, ?_⟩
    rw [tv_len]
    exact k
theorem ok_set {C f fIw fIs : Addr} {fd fdIw fdIs : FuncData} {fI : Addr} (F : Fun K "__setitem__" "Counts.__setitem__" s_Counts_setitem f fd) (g : Bi mg) (T : CT P w K mg base C fI) (FIw : Def P w K mg base CX0 1 "is_word" ["thing"] (spIsWord K) fIw fdIw) (FIs : Def P w K mg base CX0 2 "is_small" ["thing"] (spIsSmall K) fIs fdIs) :
    FnOk P w K mg base CX0 3 f fd ["self", "word", "number"] (spSet C) := by
  obtain ⟨GIw, mIw, _, bIw⟩ := id FIw
  obtain ⟨GIs, mIs, _, bIs⟩ := id FIs
  refine F.ok sc_Counts_setitem (fun vs H Q E h => ?_) (fun cdv A outer s H vs Q E hr h => ?_)
  · obtain ⟨_, _, _, _, _, rfl, _⟩ := h
    rfl
  · obtain ⟨p, d, t, z, n, rfl, hz, hn, hc, hl, k⟩ := h
    have hrIw : Room 1 _ := hr.mono (by decide)
    have hrIs : Room 2 _ := hr.mono (by decide)
    have hu := hu_of hr
    refine ⟨_, (pss_cons (ps_if (pt_not (pt_val (pe_call GIw hrIw rfl mIw FIw.kp bIw .nil pass0 (pa_cons (pv 1) pa_nil)))) (pss_one ps_never) pss_nil)
      (pss_cons (ps_if (pt_not (pt_val (pe_call GIs hrIs rfl mIs FIs.kp bIs .nil pass0 (pa_cons (pv 2) pa_nil)))) (pss_one ps_never) pss_nil)
      (pss_one (ps_if (pt_cmpR op_ne (pv 2) pe_int (nomark _)) (pss_one (ps_dput hu (pe_fld (pv 0) rfl) (pv 1) (pv 2) rfl)) (pss_one (ps_if (pt_cmp (pc_din hu (pv 1) (pe_fld (pv 0) rfl))) (pss_one (ps_ddel (pe_fld (pv 0) rfl) (pv 1))) pss_nil)))))), ?_⟩
    refine ⟨_, rfl, .inl ⟨z, rfl, Nat.le_trans hz.2.1 (by decide), fun H1 s1 => ?_⟩⟩
    rw [wordB_of hz]
    refine ⟨_, rfl, iteF ?_⟩
    refine ⟨_, rfl, .inl ⟨n, rfl, ?_⟩⟩
    rw [decide_eq_true hn.1, decide_eq_true hn.2]
    refine ⟨_, rfl, iteF ?_⟩
    obtain ⟨⟨dx, hp⟩, hd, hh, hw⟩ := id (hc.same s1)
    have npd : p ≠ d := ne_of hp hd (by intro z; cases z)
    refine ⟨_, rfl, rfl, _, rfl, ?_⟩
    by_cases e : n = 0
    · rw [decide_eq_true (show V.int n = V.int 0 by rw [e])]
      refine iteF ?_
      refine ⟨_, rfl, _, rfl, p, C, dx, _, _, rfl, hp, T.cl, T.nH, flds_held d, d, _, rfl, DGet.k (k := Sum.inr z) hd, _, rfl, ?_⟩
      rw [tv_val]
      cases q : look t z with
      | none =>
        refine iteF ?_
        refine k t H1 (hc.same s1) (fun y => ?_) (Nat.le_succ _) fun b o e _ => s1 b o e
        by_cases ey : y = z
        · rw [if_pos ey, ey, e]
          unfold val
          rw [q]
          rfl
        · rw [if_neg ey]
      | some v =>
        refine iteT ?_
        refine ⟨_, rfl, p, C, dx, _, _, rfl, hp, T.cl, T.nH, flds_held d, _, rfl, d, _, Sum.inr z, rfl, hd, rfl, (by rw [tv_val, q]; rfl), ?_⟩
        rw [tv_drop]
        refine k (drop t z) _ ⟨⟨dx, by rw [upd_ne npd]; exact hp⟩, upd_same, held_drop hh, fun y m => hw y (by rw [keys_drop] at m; exact (List.mem_filter.mp m).1)⟩ (fun y => by rw [val_drop hh.nd, e]) (Nat.le_trans (List.length_filter_le _ _) (Nat.le_succ _)) fun b o e n => ?_
        rw [upd_ne n]
        exact s1 b o e
    · rw [decide_eq_false (show ¬ V.int n = V.int 0 from fun q => e (V.int.inj q))]
      refine iteT ?_
      refine ⟨_, rfl, _, rfl, p, C, dx, _, _, rfl, hp, T.cl, T.nH, flds_held d, _, rfl, d, _, rfl, DPut.k (k := Sum.inr z) hd (by rw [tv_len]; exact Nat.lt_of_le_of_lt hl (by decide)), ?_⟩
      rw [tv_put]
      refine k (put t z n) _ ⟨⟨dx, by rw [upd_ne npd]; exact hp⟩, upd_same, held_put hh e, fun y m => (mem_keys_put.mp m).elim (hw y) (fun q => q ▸ hz)⟩ (fun y => val_put hh.nd) (len_put _ _ _) fun b o e n => ?_
      rw [upd_ne n]
      exact s1 b o e
end
end Cs

set_option Elab.async false
set_option linter.all false
set_option maxRecDepth 100000
set_option maxHeartbeats 4000000
/-! Counts: reading a word, sums, differences, multiples, smaller and greater integers. -/
namespace Cs
open PySem L2
structure Bj (mg : Str → Option Value) : Prop extends Bi mg where
  min : mg "min" = none
  max : mg "max" = none
/-- what isinstance asks of an instance's class -/
structure CI (K : PySem.W.Frag) (C : Addr) : Prop where
  cl : Cls K C
  ha : PySem.W.findIn K (.ref C) "__class__" = some (some (.builtin "object.__class__"))
  hn : PySem.W.specialIn K (.builtin "object.__class__") "__get__" = some (some (.builtin "getset_descriptor.__get__"))
  htk : PySem.W.takesIn K (.builtin "object.__class__") = some true
  hm : PySem.W.mroIn K C (.type "object") = some true
theorem CI.ty {K : PySem.W.Frag} {C : Addr} {H : Hp} {p dx : Addr} {fs : List (Str × V)} (c : CI K C) (h : H p = some (.ins C dx fs)) : TyX K H (.ref p) (.ref C) := .base (.ins h c.cl c.ha c.hn c.htk c.hm)
theorem kit_self {K : PySem.W.Frag} {C : Addr} : PySem.W.kitOne K (.ref C) (.ref C) = some true := by
  unfold PySem.W.kitOne
  rw [if_pos (beq_self_eq_true _)]
/-- operators as their callers have them -/
structure ODef (P : Program) (w : World) (K : PySem.W.Frag) (mg : Str → Option Value) (base : Heap) (CX : CXT) (k : Nat) (C : Addr) (m : Str) (ps : List Str) (sp : Sp) (f : Addr) (fd : FuncData) : Prop where
  c : OpC K C m f
  ok : FnOk P w K mg base CX k f fd ps sp
  b : Binds K fd ps []
structure GDef (P : Program) (w : World) (K : PySem.W.Frag) (mg : Str → Option Value) (base : Heap) (CX : CXT) (k : Nat) (C : Addr) (m : Str) (ps : List Str) (sp : Sp) (f : Addr) (fd : FuncData) : Prop where
  c : Spc K C m f
  fi : PySem.W.fnIn K f = true
  ok : FnOk P w K mg base CX k f fd ps sp
  b : Binds K fd ps []
def spGet (C : Addr) : Sp := fun vs H Q _ => ∃ (p d : Addr) (t : Tab) (z : Str), vs = [.ref p, .str z] ∧ Word z ∧ Cnt C H p d t ∧ ∀ H', Same H H' → Q (.int (val t z)) H'
def spJoint (C : Addr) : Sp := fun vs H Q _ => ∃ (p d q e : Addr) (t u : Tab), vs = [.ref p, .ref q] ∧ Cnt C H p d t ∧ Cnt C H q e u ∧ t.length ≤ 400 ∧ u.length ≤ 400 ∧
  ∀ (l : Addr) (H' : Hp) (ws : List Str), H l = none → Same H H' → H' l = some (.lst (ws.map V.str)) → Asc ws → (∀ z, z ∈ ws ↔ z ∈ keys t ∨ z ∈ keys u) → ws.length ≤ t.length + u.length → Q (.ref l) H'
/-- a op b word by word -/
def spBin (C : Addr) (G : Int → Int → Int) : Sp := fun vs H Q _ => ∃ (p d q e : Addr) (t u : Tab), vs = [.ref p, .ref q] ∧ Cnt C H p d t ∧ Cnt C H q e u ∧ t.length ≤ 400 ∧ u.length ≤ 400 ∧ NewC C H Q (fun z => G (val t z) (val u z)) (t.length + u.length)
def spUn (C : Addr) (G : Int → Int) : Sp := fun vs H Q _ => ∃ (p d : Addr) (t : Tab), vs = [.ref p] ∧ Cnt C H p d t ∧ t.length ≤ 1000 ∧ NewC C H Q (fun z => G (val t z)) t.length
def spMul (C : Addr) : Sp := fun vs H Q _ => ∃ (p d : Addr) (t : Tab) (n : Int), vs = [.ref p, .int n] ∧ Cnt C H p d t ∧ t.length ≤ 1000 ∧ (∀ z, n.natAbs.log2 + (val t z).natAbs.log2 < 1000000) ∧ NewC C H Q (fun z => n * val t z) t.length
/-- [(word, ..) for word in words] -/
theorem lc_pairs {K : PySem.W.Frag} {a : Addr} {ws : List Str} {j : Nat} {te : TE} {vs : List Nat} {σ : L2.St} {H1 : Hp} {D : Addr} {Qd : Hp → Prop} {G : Str → Int} (ha : H1 a = some (.lst (ws.map V.str))) (hD : H1 D = none) (hl : ws.length ≤ 1000)
    (hw : ∀ x, wipe ((wipe σ vs).set j (some x)) vs = wipe σ vs)
    (he : ∀ z ∈ ws, ∀ H', Same H1 H' → ∀ Qe : VK, (∀ T H'', H' T = none → Same H' H'' → H'' T = some (.tup [.str z, .int (G z)]) → Qe (.ref T) H'') → te ((wipe σ vs).set j (some (.str z))) H' Qe)
    (k : ∀ H' xs, Same H1 H' → H' D = some (.lst xs) → PrL H' xs (ws.map fun z => (z, G z)) → Qd H') :
    ∃ W : Nat → Nat → Hp → Prop, (∃ m, W 0 m (upd H1 D (.lst []))) ∧ ∀ i m H, W i m H →
      ((Itl K a).stop i H ∧ Qd H) ∨ ((Itl K a).go i H ∧ ∃ Nx : Hp → Prop, (∀ H', Nx H' → ∃ m', m' < m ∧ W (i + 1) m' H') ∧ ∀ x H', (Itl K a).yld i H x H' → gName j x (wipe σ vs) H' fun σ2 H2 => wipe σ2 vs = wipe σ vs ∧ tYes σ2 H2 fun b H3 =>
        if b = true then te σ2 H3 fun y H4 => ∃ acc, H4 D = some (.lst acc) ∧ acc.length < sizeLine ∧ Nx (upd H4 D (.lst (acc ++ [y]))) else Nx H3) := by
  refine lc_it (walk_list (xs := ws.map V.str)) (fun i H' => Same H1 H' ∧ ∃ xs, H' D = some (.lst xs) ∧ PrL H' xs ((ws.take i).map fun z => (z, G z))) ⟨Same.new hD, [], upd_same, .nil⟩ (fun i H' _ h => SqL.of (h.1 _ _ ha)) ?_ ?_
  · rintro i x H' H2 hi ⟨s', xs, hD', hP'⟩ ⟨rfl, hx⟩
    rw [List.length_map] at hi
    have ex : x = V.str ws[i] := by
      rw [List.getElem?_map, List.getElem?_eq_getElem hi] at hx
      exact (Option.some.inj hx).symm
    subst ex
    have hxl : xs.length = i := by
      rw [hP'.length, List.length_map, List.length_take]
      omega
    refine ⟨hw _, yes_it ?_⟩
    refine he ws[i] (List.getElem_mem hi) H2 s' _ fun T H3 hT s3 hT3 => ?_
    have nTD : D ≠ T := ne_of_none hD' hT
    refine ⟨xs, s3 _ _ hD', by rw [hxl]; exact Nat.lt_of_le_of_lt (show i ≤ 1000 by omega) (by decide), fun b o q => ?_, xs ++ [.ref T], upd_same, ?_⟩
    · rw [upd_ne (ne_of_none q hD)]
      exact s3 _ _ (s' _ _ q)
    · rw [List.take_succ, List.getElem?_eq_getElem hi, List.map_append]
      refine PrL.snoc (hP'.mono fun c a b e => ?_) (by rw [upd_ne nTD.symm]; exact hT3)
      have cD : c ≠ D := by
        rintro rfl
        rw [hD'] at e
        cases e
      rw [upd_ne cD]
      exact s3 _ _ e
  · rintro H' ⟨s', xs, hD', hP'⟩
    rw [List.length_map, List.take_length] at hP'
    exact k H' xs s' hD' hP'
/-- a table by ascending words -/
theorem sumOf_map {ws : List Str} (h : Asc ws) (G : Str → Int) (z : Str) : sumOf (ws.map fun y => (y, G y)) z = if z ∈ ws then G z else 0 := by
  have nd := h.nodup
  clear h
  unfold sumOf
  induction ws with
  | nil => rfl
  | cons y ws ih =>
    obtain ⟨n1, n2⟩ := List.nodup_cons.mp nd
    rw [List.map_cons, List.filter_cons]
    by_cases e : y = z
    · subst e
      rw [if_pos (by simp), List.map_cons, List.sum_cons, ih n2, if_neg n1, if_pos List.mem_cons_self]
      simp
    · rw [if_neg (by simpa using e), ih n2]
      by_cases m : z ∈ ws
      · rw [if_pos m, if_pos (List.mem_cons_of_mem _ m)]
      · rw [if_neg m, if_neg]
        intro q
        rcases List.mem_cons.mp q with q | q
        · exact e q.symm
        · exact m q
theorem sumOf_append (l m : Tab) (z : Str) : sumOf (l ++ m) z = sumOf l z + sumOf m z := by
  unfold sumOf
  rw [List.filter_append, List.map_append, List.sum_append]
theorem val_out {t : Tab} {z : Str} (h : z ∉ keys t) : val t z = 0 := by
  unfold val
  rw [look_none h]
  rfl
theorem PrL.append {H : Hp} : ∀ {xs ys : List V} {l m : Tab}, PrL H xs l → PrL H ys m → PrL H (xs ++ ys) (l ++ m)
  | _, _, _, _, .nil, h => h
  | _, _, _, _, .cons r t, h => .cons r (PrL.append t h)
theorem wd_map {ws : List Str} (h : ∀ z ∈ ws, Word z) (G : Str → Int) : WdP (ws.map fun z => (z, G z)) := fun q m => by
  obtain ⟨z, hz, e⟩ := List.mem_map.mp m
  rw [← e]
  exact h z hz
section
variable {P : Program} {w : World} {K : PySem.W.Frag} {mg : Str → Option Value} {base : Heap}
theorem ok_get {C f fIw : Addr} {fd fdIw : FuncData} {fI : Addr} (F : Fun K "__getitem__" "Counts.__getitem__" s_Counts_getitem f fd) (g : Bi mg) (T : CT P w K mg base C fI) (FIw : Def P w K mg base CX0 1 "is_word" ["thing"] (spIsWord K) fIw fdIw) :
    FnOk P w K mg base CX0 2 f fd ["self", "word"] (spGet C) := by
  obtain ⟨GIw, mIw, _, bIw⟩ := id FIw
  refine F.ok sc_Counts_getitem (fun vs H Q E h => ?_) (fun cdv A outer s H vs Q E hr h => ?_)
  · obtain ⟨_, _, _, _, rfl, _⟩ := h
    rfl
  · obtain ⟨p, d, t, z, rfl, hz, hc, k⟩ := h
    have hrIw : Room 1 _ := hr.mono (by decide)
    have hu := hu_of hr
    refine ⟨_, (pss_cons (ps_if (pt_not (pt_val (pe_call GIw hrIw rfl mIw FIw.kp bIw .nil pass0 (pa_cons (pv 1) pa_nil)))) (pss_one ps_never) pss_nil)
      (pss_one (ps_ret (pe_dget2 hu (pe_fld (pv 0) rfl) (pv 1) pe_int ⟨rfl, rfl, rfl, rfl⟩)))), ?_⟩
    refine ⟨_, rfl, .inl ⟨z, rfl, Nat.le_trans hz.2.1 (by decide), fun H1 s1 => ?_⟩⟩
    rw [wordB_of hz]
    refine ⟨_, rfl, iteF ?_⟩
    obtain ⟨⟨dx, hp⟩, hd, hh, hw⟩ := id (hc.same s1)
    refine ⟨_, rfl, p, C, dx, _, _, rfl, hp, T.cl, T.nH, flds_held d, d, rfl, .inl ⟨_, .inl hd⟩, _, rfl, _, DGet.k (k := Sum.inr z) hd, ?_⟩
    rw [tv_val, val_getD]
    exact k H1 s1
theorem ok_joint {C f fDi fWo : Addr} {fd fdDi fdWo : FuncData} {fI : Addr} (F : Fun K "joint_words" "joint_words" s_joint_words f fd) (g : Bi mg) (T : CT P w K mg base C fI) (FDi : Def P w K mg base CX0 1 "distinct" ["words"] (spDistinct K) fDi fdDi)
    (MWo : MDef P w K mg base CX0 2 C "words" ["self"] (spWords C) fWo fdWo) : FnOk P w K mg base CX0 3 f fd ["one", "other"] (spJoint C) := by
  obtain ⟨GDi, mDi, _, bDi⟩ := id FDi
  refine F.ok sc_joint_words (fun vs H Q E h => ?_) (fun cdv A outer s H vs Q E hr h => ?_)
  · obtain ⟨_, _, _, _, _, _, rfl, _⟩ := h
    rfl
  · obtain ⟨p, d, q, e, t, u, rfl, hc, hc2, hl, hl2, k⟩ := h
    have hrDi : Room 1 _ := hr.mono (by decide)
    have hrWo : Room 2 _ := hr.mono (by decide)
    refine ⟨_, (pss_one (ps_ret (pe_call GDi hrDi rfl mDi FDi.kp bDi .nil pass0 (pa_cons (pe_op op_cat (pe_meth0 (pv 0) T.cl MWo.me MWo.ok hrWo MWo.b .nil pass0) (pe_meth0 (pv 1) T.cl MWo.me MWo.ok hrWo MWo.b .nil pass0)) pa_nil)))), ?_⟩
    obtain ⟨⟨dx, hp⟩, _⟩ := id hc
    refine ⟨_, rfl, p, dx, _, rfl, hp, rfl, p, d, t, rfl, hc, by omega, fun l1 H1 ws1 hl1 s1 h1 ha1 hm1 hle1 => ?_⟩
    obtain ⟨⟨dx2, hq⟩, _⟩ := id (hc2.same s1)
    refine ⟨_, rfl, q, dx2, _, rfl, hq, rfl, q, e, u, rfl, hc2.same s1, by omega, fun l2 H2 ws2 hl2' s2 h2 ha2 hm2 hle2 => ?_⟩
    refine ⟨l1, l2, _, _, rfl, rfl, s2 _ _ h1, h2, ?_, fun l3 hl3 => ?_⟩
    · rw [List.length_map, List.length_map]
      exact Nat.le_trans (show ws1.length + ws2.length ≤ 1000 by omega) (by decide)
    have s3 : Same H2 (upd H2 l3 (.lst (ws1.map V.str ++ ws2.map V.str))) := Same.new hl3
    refine ⟨l3, ws1 ++ ws2, rfl, SqL.of (by rw [upd_same, List.map_append]), by rw [List.length_append]; omega, fun l4 H4 ws hl4 s4 h4 ha hm hle => ?_⟩
    have s13 := (s1.trans s2).trans s3
    refine k l4 H4 ws (s13.free hl4) (s13.trans s4) h4 ha (fun z => ?_) ?_
    · rw [hm, List.mem_append, hm1, hm2]
    · rw [List.length_append] at hle
      omega
theorem ok_add {C f fPa : Addr} {fd fdPa : FuncData} {fI : Addr} (F : Fun K "__add__" "Counts.__add__" s_Counts_add f fd) (g : Bi mg) (T : CT P w K mg base C fI) (ci : CI K C) (MPa : MDef P w K mg base CX0 3 C "pairs" ["self"] (spPairsM C) fPa fdPa) :
    FnOk P w K mg base CX0 4 f fd ["self", "other"] (spBin C fun a b => a + b) := by
  refine F.ok sc_Counts_add (fun vs H Q E h => ?_) (fun cdv A outer s H vs Q E hr h => ?_)
  · obtain ⟨_, _, _, _, _, _, rfl, _⟩ := h
    rfl
  · obtain ⟨p, d, q, e, t, u, rfl, hc, hc2, hl, hl2, k⟩ := h
    have hrPa : Room 3 _ := hr.mono (by decide)
    have hrI : Room 2 _ := hr.mono (by decide)
    refine ⟨_, (pss_cons (ps_if (pt_not (pt_val (pe_callB call_isi (by rfl) g.isinstance (by decide +kernel) (pa_cons (pv 1) (pa_cons (pe_glob (v := .ref C) rfl T.mgC rfl) pa_nil))))) (pss_one (ps_never)) pss_nil)
      (pss_cons (ps_set (i := 2) sc_Counts_add.nd rfl (Or.inl rfl) (pe_op op_cat (pe_meth0 (pv 0) T.cl MPa.me MPa.ok hrPa MPa.b .nil pass0) (pe_meth0 (pv 1) T.cl MPa.me MPa.ok hrPa MPa.b .nil pass0)))
      (pss_one (ps_ret (pe_mkS T.mke T.ini hrI rfl T.mgC pass0 (pv 2)))))), ?_⟩
    obtain ⟨⟨dx, hp⟩, _⟩ := id hc
    obtain ⟨⟨dx2, hq⟩, _⟩ := id hc2
    refine ⟨_, rfl, _, _, _, _, true, rfl, .own C, ci.ty hq, kit_self, _, rfl, iteF ?_⟩
    refine ⟨_, rfl, p, dx, _, rfl, hp, rfl, p, d, t, rfl, hc, by omega, fun l1 H1 xs1 m1 hl1 s1 h1 hP1 ht1 hw1 hle1 => ?_⟩
    obtain ⟨⟨dx3, hq3⟩, _⟩ := id (hc2.same s1)
    refine ⟨_, rfl, q, dx3, _, rfl, hq3, rfl, q, e, u, rfl, hc2.same s1, by omega, fun l2 H2 xs2 m2 hl2' s2 h2 hP2 ht2 hw2 hle2 => ?_⟩
    have hx1 := hP1.length
    have hx2 := hP2.length
    refine ⟨l1, l2, _, _, rfl, rfl, s2 _ _ h1, h2, Nat.le_trans (show xs1.length + xs2.length ≤ 1000 by omega) (by decide), fun l3 hl3 => ?_⟩
    have s3 : Same H2 (upd H2 l3 (.lst (xs1 ++ xs2))) := Same.new hl3
    refine ⟨_, rfl, l3, _, rfl, .inr (SqL.of upd_same), ?_⟩
    have hP : PrL (upd H2 l3 (.lst (xs1 ++ xs2))) (xs1 ++ xs2) (m1 ++ m2) := PrL.append (hP1.mono fun _ _ _ e => s3 _ _ (s2 _ _ e)) (hP2.mono fun _ _ _ e => s3 _ _ e)
    refine mk_pairs hP (fun r mr => (List.mem_append.mp mr).elim (hw1 r) (hw2 r)) (by rw [List.length_append]; omega) (by rw [List.length_append]; omega) (fun z => ?_) (k.later ((s1.trans s2).trans s3))
    rw [sumOf_append, sumOf_told ht1, sumOf_told ht2]
theorem ok_neg {C f fWo : Addr} {fd fdWo : FuncData} {fI : Addr} (F : Fun K "__neg__" "Counts.__neg__" s_Counts_neg f fd) (g : Bi mg) (T : CT P w K mg base C fI) (MWo : MDef P w K mg base CX0 2 C "words" ["self"] (spWords C) fWo fdWo) :
    FnOk P w K mg base CX0 3 f fd ["self"] (spUn C fun a => -a) := by
  refine F.ok sc_Counts_neg (fun vs H Q E h => ?_) (fun cdv A outer s H vs Q E hr h => ?_)
  · obtain ⟨_, _, _, rfl, _⟩ := h
    rfl
  · obtain ⟨p, d, t, rfl, hc, hl, k⟩ := h
    have hrWo : Room 2 _ := hr.mono (by decide)
    have hrI : Room 2 _ := hr.mono (by decide)
    have hu := hu_of hr
    obtain ⟨⟨dx, hp⟩, hd, hh, hw⟩ := id hc
    refine ⟨_, (pss_cons (ps_setLc (i := 1) (own := [("word", 2)]) (g := gName 2) (te := (tTup (tCons _ (tCons (tUn _ (tDGet (tFld K _ "held") _)) tNil))))  (by rfl) sc_Counts_neg.nd rfl rfl (sw_true rfl rfl rfl (by decide +kernel)) (pi_list (pe_meth0 (pv 0) T.cl MWo.me MWo.ok hrWo MWo.b .nil pass0)) (blkOk_by (own := [("word", 2)]) (N := ["self", "pairs", "word"]) (sc := defScope s_Counts_neg) (by decide +kernel)) (fun _ _ _ _ _ => (pg_name (i := 2) sc_Counts_neg.nd rfl (Or.inl rfl))) (fun _ _ _ _ _ => pts_nil) (fun _ _ _ _ _ => (pe_tup (pa_cons (pv 2) (pa_cons (pe_un un_neg (pe_dget hu (pe_fld (pv 0) rfl) (pv 2) (fun _ _ => rfl))) pa_nil)))))
      (pss_one (ps_ret (pe_mkS T.mke T.ini hrI rfl T.mgC pass0 (pv 1))))), ?_⟩
    refine ⟨_, rfl, p, dx, _, rfl, hp, rfl, p, d, t, rfl, hc, hl, fun q H1 ws hq s1 h1 ha hm hle => ⟨q, rfl, ⟨_, SqL.of h1⟩, fun D hD => ?_⟩⟩
    refine lc_pairs (G := fun z => -val t z) h1 hD (by omega) (fun _ => rfl) (fun z hz H' s' Qe q => ?_) fun H' xs s' hD' hP' => ?_
    · obtain ⟨n, en, _⟩ := look_some ((hm z).mp hz)
      have ev : val t z = n := by unfold val; rw [en]; rfl
      have hg : DGet H' d (V.str z) (some (V.int n)) := by
        have := DGet.k (k := Sum.inr z) (s' _ _ (s1 _ _ hd))
        rw [tv_val, en] at this
        exact this
      refine ⟨_, rfl, _, rfl, p, C, dx, _, _, rfl, s' _ _ (s1 _ _ hp), T.cl, T.nH, flds_held d, _, rfl, d, .int n, rfl, hg, _, rfl, by show 2 ≤ sizeLine; decide, fun T2 hT2 => q T2 _ hT2 (Same.new hT2) ?_⟩
      rw [upd_same, ev]
    · refine ⟨_, rfl, D, xs, rfl, .inr (SqL.of hD'), mk_pairs hP' (wd_map (fun z hz => hw z ((hm z).mp hz)) _) (by rw [List.length_map]; omega) (by rw [List.length_map]; exact hle) (fun z => ?_) (k.later (s1.trans s'))⟩
      rw [sumOf_map ha]
      by_cases c : z ∈ ws
      · rw [if_pos c]
      · rw [if_neg c, val_out (mt (hm z).mpr c)]
        rfl
theorem ok_abs {C f fWo : Addr} {fd fdWo : FuncData} {fI : Addr} (F : Fun K "__abs__" "Counts.__abs__" s_Counts_abs f fd) (g : Bi mg) (T : CT P w K mg base C fI) (MWo : MDef P w K mg base CX0 2 C "words" ["self"] (spWords C) fWo fdWo) :
    FnOk P w K mg base CX0 3 f fd ["self"] (spUn C fun a => if a < 0 then -a else a) := by
  refine F.ok sc_Counts_abs (fun vs H Q E h => ?_) (fun cdv A outer s H vs Q E hr h => ?_)
  · obtain ⟨_, _, _, rfl, _⟩ := h
    rfl
  · obtain ⟨p, d, t, rfl, hc, hl, k⟩ := h
    have hrWo : Room 2 _ := hr.mono (by decide)
    have hrI : Room 2 _ := hr.mono (by decide)
    have hu := hu_of hr
    obtain ⟨⟨dx, hp⟩, hd, hh, hw⟩ := id hc
    refine ⟨_, (pss_cons (ps_setLc (i := 1) (own := [("word", 2)]) (g := gName 2) (te := (tTup (tCons _ (tCons (tCB _ (tCons (tDGet (tFld K _ "held") _) tNil)) tNil))))  (by rfl) sc_Counts_abs.nd rfl rfl (sw_true rfl rfl rfl (by decide +kernel)) (pi_list (pe_meth0 (pv 0) T.cl MWo.me MWo.ok hrWo MWo.b .nil pass0)) (blkOk_by (own := [("word", 2)]) (N := ["self", "pairs", "word"]) (sc := defScope s_Counts_abs) (by decide +kernel)) (fun _ _ _ _ _ => (pg_name (i := 2) sc_Counts_abs.nd rfl (Or.inl rfl))) (fun _ _ _ _ _ => pts_nil) (fun _ _ _ _ _ => (pe_tup (pa_cons (pv 2) (pa_cons (pe_callB call_abs (by rfl) g.abs (by decide +kernel) (pa_cons (pe_dget hu (pe_fld (pv 0) rfl) (pv 2) (fun _ _ => rfl)) pa_nil)) pa_nil)))))
      (pss_one (ps_ret (pe_mkS T.mke T.ini hrI rfl T.mgC pass0 (pv 1))))), ?_⟩
    refine ⟨_, rfl, p, dx, _, rfl, hp, rfl, p, d, t, rfl, hc, hl, fun q H1 ws hq s1 h1 ha hm hle => ⟨q, rfl, ⟨_, SqL.of h1⟩, fun D hD => ?_⟩⟩
    refine lc_pairs (G := fun z => if val t z < 0 then -val t z else val t z) h1 hD (by omega) (fun _ => rfl) (fun z hz H' s' Qe q => ?_) fun H' xs s' hD' hP' => ?_
    · obtain ⟨n, en, _⟩ := look_some ((hm z).mp hz)
      have ev : val t z = n := by unfold val; rw [en]; rfl
      have hg : DGet H' d (V.str z) (some (V.int n)) := by
        have := DGet.k (k := Sum.inr z) (s' _ _ (s1 _ _ hd))
        rw [tv_val, en] at this
        exact this
      refine ⟨_, rfl, _, rfl, p, C, dx, _, _, rfl, s' _ _ (s1 _ _ hp), T.cl, T.nH, flds_held d, _, rfl, d, .int n, rfl, hg, _, rfl, by show 2 ≤ sizeLine; decide, fun T2 hT2 => q T2 _ hT2 (Same.new hT2) ?_⟩
      rw [upd_same, ev]
    · refine ⟨_, rfl, D, xs, rfl, .inr (SqL.of hD'), mk_pairs hP' (wd_map (fun z hz => hw z ((hm z).mp hz)) _) (by rw [List.length_map]; omega) (by rw [List.length_map]; exact hle) (fun z => ?_) (k.later (s1.trans s'))⟩
      rw [sumOf_map ha]
      by_cases c : z ∈ ws
      · rw [if_pos c]
      · rw [if_neg c, val_out (mt (hm z).mpr c)]
        rfl
theorem ok_mul {C f fWo : Addr} {fd fdWo : FuncData} {fI : Addr} (F : Fun K "__mul__" "Counts.__mul__" s_Counts_mul f fd) (g : Bi mg) (T : CT P w K mg base C fI) (MWo : MDef P w K mg base CX0 2 C "words" ["self"] (spWords C) fWo fdWo) :
    FnOk P w K mg base CX0 3 f fd ["self", "times"] (spMul C) := by
  refine F.ok sc_Counts_mul (fun vs H Q E h => ?_) (fun cdv A outer s H vs Q E hr h => ?_)
  · obtain ⟨_, _, _, _, rfl, _⟩ := h
    rfl
  · obtain ⟨p, d, t, m, rfl, hc, hl, hb, k⟩ := h
    have hrWo : Room 2 _ := hr.mono (by decide)
    have hrI : Room 2 _ := hr.mono (by decide)
    have hu := hu_of hr
    obtain ⟨⟨dx, hp⟩, hd, hh, hw⟩ := id hc
    refine ⟨_, (pss_cons (ps_if (pt_not (pt_val (pe_callB call_isi (by rfl) g.isinstance (by decide +kernel) (pa_cons (pv 1) (pa_cons (pe_bltn (v := .ty "int") (by rfl) g.int (by decide +kernel) rfl) pa_nil))))) (pss_one (ps_never)) pss_nil)
      (pss_cons (ps_setLc (i := 2) (own := [("word", 3)]) (g := gName 3) (te := (tTup (tCons _ (tCons (tOp _ _ (tDGet (tFld K _ "held") _)) tNil))))  (by rfl) sc_Counts_mul.nd rfl rfl (sw_true rfl rfl rfl (by decide +kernel)) (pi_list (pe_meth0 (pv 0) T.cl MWo.me MWo.ok hrWo MWo.b .nil pass0)) (blkOk_by (own := [("word", 3)]) (N := ["self", "times", "pairs", "word"]) (sc := defScope s_Counts_mul) (by decide +kernel)) (fun _ _ _ _ _ => (pg_name (i := 3) sc_Counts_mul.nd rfl (Or.inl rfl))) (fun _ _ _ _ _ => pts_nil) (fun _ _ _ _ _ => (pe_tup (pa_cons (pv 3) (pa_cons (pe_op op_mulW (pv 1) (pe_dget hu (pe_fld (pv 0) rfl) (pv 3) (fun _ _ => rfl))) pa_nil)))))
      (pss_one (ps_ret (pe_mkS T.mke T.ini hrI rfl T.mgC pass0 (pv 2)))))), ?_⟩
    refine ⟨_, rfl, _, _, _, _, true, rfl, .ty "int", .base (.int m), kit_ty (by decide +kernel), _, rfl, iteF ?_⟩
    refine ⟨_, rfl, p, dx, _, rfl, hp, rfl, p, d, t, rfl, hc, hl, fun q H1 ws hq s1 h1 ha hm hle => ⟨q, rfl, ⟨_, SqL.of h1⟩, fun D hD => ?_⟩⟩
    refine lc_pairs (G := fun z => m * val t z) h1 hD (by omega) (fun _ => rfl) (fun z hz H' s' Qe q => ?_) fun H' xs s' hD' hP' => ?_
    · obtain ⟨n, en, _⟩ := look_some ((hm z).mp hz)
      have ev : val t z = n := by unfold val; rw [en]; rfl
      have hg : DGet H' d (V.str z) (some (V.int n)) := by
        have := DGet.k (k := Sum.inr z) (s' _ _ (s1 _ _ hd))
        rw [tv_val, en] at this
        exact this
      have hbz := hb z
      rw [ev] at hbz
      refine ⟨_, rfl, _, rfl, _, rfl, p, C, dx, _, _, rfl, s' _ _ (s1 _ _ hp), T.cl, T.nH, flds_held d, _, rfl, d, .int n, rfl, hg, _, _, rfl, rfl, hbz, by show 2 ≤ sizeLine; decide, fun T2 hT2 => q T2 _ hT2 (Same.new hT2) ?_⟩
      rw [upd_same, ev]
    · refine ⟨_, rfl, D, xs, rfl, .inr (SqL.of hD'), mk_pairs hP' (wd_map (fun z hz => hw z ((hm z).mp hz)) _) (by rw [List.length_map]; omega) (by rw [List.length_map]; exact hle) (fun z => ?_) (k.later (s1.trans s'))⟩
      rw [sumOf_map ha]
      by_cases c : z ∈ ws
      · rw [if_pos c]
      · rw [if_neg c, val_out (mt (hm z).mpr c), Int.mul_zero]
end
end Cs

set_option Elab.async false
set_option linter.all false
set_option maxRecDepth 100000
set_option maxHeartbeats 4000000
/-! The laws' common helpers: the model, what is told of it, whether counts are equal to it. -/
namespace Cs
open PySem L2
/-- a model at m: a dict of words and integers -/
structure Mdl (H : Hp) (m : Addr) (u : Tab) : Prop where
  dc : H m = some (.dK (tv u))
  nd : (keys u).Nodup
  wd : ∀ z ∈ keys u, Word z
theorem Mdl.same {H H' : Hp} {m : Addr} {u : Tab} (s : Same H H') (h : Mdl H m u) : Mdl H' m u := ⟨s _ _ h.dc, h.nd, h.wd⟩
def spModel : Sp := fun vs H Q _ => ∃ (a : Addr) (xs : List V) (ps : List (Str × Int)), vs = [.ref a] ∧ H a = some (.lst xs) ∧ PrL H xs ps ∧ WdP ps ∧ ps.length ≤ 1000 ∧
  ∀ (m : Addr) (H' : Hp), H m = none → Same H H' → Mdl H' m (addUp ps) → Q (.ref m) H'
def spTold : Sp := fun vs H Q _ => ∃ (m : Addr) (u : Tab), vs = [.ref m] ∧ Mdl H m u ∧ u.length < 64 ∧
  ∀ (q : Addr) (H' : Hp) (xs : List V) (l : Tab), H q = none → Same H H' → H' q = some (.lst xs) → PrL H' xs l → Told (val u) l → WdP l → l.length ≤ u.length → Q (.ref q) H'
def spEqual (C : Addr) : Sp := fun vs H Q _ => ∃ (p d m : Addr) (t u : Tab), vs = [.ref p, .ref m] ∧ Cnt C H p d t ∧ t.length ≤ 1000 ∧ Mdl H m u ∧ u.length < 64 ∧ (∀ z, val t z = val u z) ∧ ∀ H', Same H H' → Q (.bl true) H'
/-- pairs as data -/
def pd (l : Tab) : PyData := .list (l.map fun q => .tuple [.str q.1, .int q.2])
theorem word_ok {z : Str} (h : Word z) : PyData.strOk z = true := by
  unfold PyData.strOk
  rw [← Array.all_toList, List.all_eq_true]
  intro c hc
  have h1 := h.2.2 c hc
  have h2 : ∀ c ∈ LET.cps.toList, c < 0x110000 := by decide +kernel
  exact decide_eq_true (h2 c h1)
theorem pd_can : ∀ {l : Tab}, WdP l → PyData.canLayAll0 (l.map fun q => .tuple [.str q.1, .int q.2]) = true
  | [], _ => rfl
  | q :: l, h => by
    rw [List.map_cons, PyData.canLayAll0, pd_can fun r m => h r (List.mem_cons_of_mem _ m)]
    have := word_ok (h q List.mem_cons_self)
    simp [PyData.canLay0, PyData.canLayAll0, this]
theorem pd_depth : ∀ l : Tab, PyData.depthAll (l.map fun q => .tuple [.str q.1, .int q.2]) ≤ 1
  | [] => Nat.zero_le _
  | q :: l => by
    rw [List.map_cons, PyData.depthAll]
    have := pd_depth l
    simp only [PyData.depth, PyData.depthAll]
    omega
theorem pd_shaped {l : Tab} (h : WdP l) : SeqAt.shaped (pd l) = true := by
  unfold SeqAt.shaped pd
  rw [Bool.and_eq_true]
  refine ⟨by rw [PyData.canLay0]; exact pd_can h, decide_eq_true ?_⟩
  rw [PyData.depth]
  have := pd_depth l
  omega
theorem pd_refl {l : Tab} (h : WdP l) : PyData.eqv (pd l) (pd l) = true := SeqAt.eqv_refl _ (SeqAt.canLay_of_shaped (pd_shaped h))
theorem PrL.dp {K : PySem.W.Frag} {H : Hp} : ∀ {xs : List V} {l : Tab}, PrL H xs l → DpAll K H xs (l.map fun q => .tuple [.str q.1, .int q.2])
  | _, _, .nil => .nil
  | _, _, .cons ⟨t, e, ht⟩ r => .cons (by rw [e]; exact .tup (SqT.of ht) (.cons (.str _) (.cons (.int _) .nil))) (PrL.dp r)
section
variable {P : Program} {w : World} {K : PySem.W.Frag} {mg : Str → Option Value} {base : Heap}
theorem ok_lint {f : Addr} {fd : FuncData} (F : Fun K "_law_is_integer" "_law_is_integer" s_l_is_integer f fd) (g : Bi mg) : FnOk P w K mg base CX0 1 f fd ["_law_thing"] (spIsInteger K) := by
  refine F.ok sc_l_is_integer (fun vs H Q E h => ?_) (fun cdv A outer s H vs Q E hr h => ?_)
  · rcases h with ⟨_, rfl, _⟩ | ⟨_, rfl, _⟩ <;> rfl
  · refine ⟨_, (pss_one (ps_ret (pe_and (pe_callB call_isi (by rfl) g.isinstance (by decide +kernel) (pa_cons (pv 0) (pa_cons (pe_bltn (v := .ty "int") (by rfl) g.int (by decide +kernel) rfl) pa_nil))) (pe_one (pe_not (pe_callB call_isi (by rfl) g.isinstance (by decide +kernel) (pa_cons (pv 0) (pa_cons (pe_bltn (v := .ty "bool") (by rfl) g.bool (by decide +kernel) rfl) pa_nil)))))))), ?_⟩
    rcases h with ⟨n, rfl, q⟩ | ⟨x, rfl, ⟨ty, ht, hc⟩, q⟩
    · refine ⟨_, rfl, _, _, _, _, true, rfl, .ty "int", .base (.int n), kit_ty (by decide +kernel), _, rfl, iteT ?_⟩
      exact ⟨_, rfl, _, _, _, _, false, rfl, .ty "bool", .base (.int n), kit_ty (by decide +kernel), _, rfl, q⟩
    · rcases hc with e | e
      · subst e
        refine ⟨_, rfl, _, _, _, _, true, rfl, .ty "int", ht, kit_ty (by decide +kernel), _, rfl, iteT ?_⟩
        exact ⟨_, rfl, _, _, _, _, true, rfl, .ty "bool", ht, kit_ty (by decide +kernel), _, rfl, q⟩
      · exact ⟨_, rfl, _, _, _, _, false, rfl, .ty "int", ht, kit_ty e, _, rfl, iteF q⟩
end
end Cs

set_option Elab.async false
set_option linter.all false
set_option maxRecDepth 100000
set_option maxHeartbeats 4000000
/-! Counts: differences, smaller and greater integers, distances, multiples from the left, changes in place. -/
namespace Cs
open PySem L2
structure TDef (P : Program) (w : World) (K : PySem.W.Frag) (mg : Str → Option Value) (base : Heap) (CX : CXT) (k : Nat) (C : Addr) (nm : String) (ps : List Str) (sp : Sp) (f h : Addr) (fd : FuncData) : Prop where
  c : OpT K C nm f h
  i1 : PySem.W.findIn K (.type "int") (PySem.dunder nm) = some (some (.builtin "int.__mul__"))
  i2 : PySem.W.findIn K (.type "int") (dunderR nm) = some (some (.builtin "int.__rmul__"))
  ok : FnOk P w K mg base CX k f fd ps sp
  b : Binds K fd ps []
/-- a op= b: the object itself is changed; its dict is a new one -/
def spIn (C : Addr) (G : Int → Int → Int) : Sp := fun vs H Q _ => ∃ (p d q e : Addr) (t u : Tab), vs = [.ref p, .ref q] ∧ Cnt C H p d t ∧ Cnt C H q e u ∧ t.length ≤ 400 ∧ u.length ≤ 400 ∧
  ∀ (d' : Addr) (H' : Hp) (v : Tab), H d' = none → Cnt C H' p d' v → (∀ z, val v z = G (val t z) (val u z)) → v.length ≤ t.length + u.length → (∀ b o, H b = some o → b ≠ p → H' b = some o) → Q (.ref p) H'
def spImul (C : Addr) : Sp := fun vs H Q _ => ∃ (p d : Addr) (t : Tab) (n : Int), vs = [.ref p, .int n] ∧ Cnt C H p d t ∧ t.length ≤ 1000 ∧ (∀ z, n.natAbs.log2 + (val t z).natAbs.log2 < 1000000) ∧
  ∀ (d' : Addr) (H' : Hp) (v : Tab), H d' = none → Cnt C H' p d' v → (∀ z, val v z = n * val t z) → v.length ≤ t.length → (∀ b o, H b = some o → b ≠ p → H' b = some o) → Q (.ref p) H'
theorem putF_held (d e : Addr) : putF "held" (V.ref e) ([("held", .ref d)] : List (Str × V)) = ([("held", .ref e)] : List (Str × V)) := by
  show (if ("held" : Str) = "held" then ([("held", V.ref e)] : List (Str × V)) else _) = ([("held", V.ref e)] : List (Str × V))
  rw [if_pos rfl]
section
variable {P : Program} {w : World} {K : PySem.W.Frag} {mg : Str → Option Value} {base : Heap}
theorem ok_sub {C f fGe fJw : Addr} {fd fdGe fdJw : FuncData} {fI : Addr} (F : Fun K "__sub__" "Counts.__sub__" s_Counts_sub f fd) (g : Bj mg) (T : CT P w K mg base C fI) (ci : CI K C) (SGe : GDef P w K mg base CX0 2 C "__getitem__" ["self", "word"] (spGet C) fGe fdGe)
    (FJw : Def P w K mg base CX0 3 "joint_words" ["one", "other"] (spJoint C) fJw fdJw) : FnOk P w K mg base CX0 4 f fd ["self", "other"] (spBin C fun a b => a - b) := by
  obtain ⟨GJw, mJw, _, bJw⟩ := id FJw
  refine F.ok sc_Counts_sub (fun vs H Q E h => ?_) (fun cdv A outer s H vs Q E hr h => ?_)
  · obtain ⟨_, _, _, _, _, _, rfl, _⟩ := h
    rfl
  · obtain ⟨p, d, q, e, t, u, rfl, hc, hc2, hl, hl2, k⟩ := h
    have hrJw : Room 3 _ := hr.mono (by decide)
    have hrGe : Room 3 _ := hr.mono (by decide)
    have hrI : Room 2 _ := hr.mono (by decide)
    refine ⟨_, (pss_cons (ps_if (pt_not (pt_val (pe_callB call_isi (by rfl) g.isinstance (by decide +kernel) (pa_cons (pv 1) (pa_cons (pe_glob (v := .ref C) rfl T.mgC rfl) pa_nil))))) (pss_one (ps_never)) pss_nil)
      (pss_cons (ps_setLc (i := 2) (own := [("word", 3)]) (g := gName 3)  (by rfl) sc_Counts_sub.nd rfl rfl (sw_true rfl rfl rfl (by decide +kernel)) (pi_list (pe_call GJw hrJw rfl mJw FJw.kp bJw .nil pass0 (pa_cons (pv 0) (pa_cons (pv 1) pa_nil)))) (blkOk_by (own := [("word", 3)]) (N := ["self", "other", "pairs", "word"]) (sc := defScope s_Counts_sub) (by decide +kernel)) (fun _ _ _ _ _ => (pg_name (i := 3) sc_Counts_sub.nd rfl (Or.inl rfl))) (fun _ _ _ _ _ => pts_nil) (fun _ _ _ _ _ => (pe_tup (pa_cons (pv 3) (pa_cons (pe_op op_sub (pe_ixO SGe.c SGe.fi SGe.ok hrGe SGe.b pass0 (pv 0) (pv 3)) (pe_ixO SGe.c SGe.fi SGe.ok hrGe SGe.b pass0 (pv 1) (pv 3))) pa_nil)))))
      (pss_one (ps_ret (pe_mkS T.mke T.ini hrI rfl T.mgC pass0 (pv 2)))))), ?_⟩
    obtain ⟨⟨dx, hp⟩, _⟩ := id hc
    obtain ⟨⟨dx2, hq⟩, _⟩ := id hc2
    refine ⟨_, rfl, _, _, _, _, true, rfl, .own C, ci.ty hq, kit_self, _, rfl, iteF ?_⟩
    refine ⟨_, rfl, _, rfl, p, d, q, e, t, u, rfl, hc, hc2, hl, hl2, fun l H1 ws hl' s1 h1 ha hm hle => ⟨l, rfl, ⟨_, SqL.of h1⟩, fun D hD => ?_⟩⟩
    have hww : ∀ z ∈ ws, Word z := fun z hz => ((hm z).mp hz).elim (hc.wd z) (hc2.wd z)
    refine lc_pairs (G := fun z => val t z - val u z) h1 hD (by omega) (fun _ => rfl) (fun z hz H' s' Qe qk => ?_) fun H' xs s' hD' hP' => ?_
    · have hcA := (hc.same s1).same s'
      obtain ⟨⟨dxA, hpA⟩, _⟩ := id hcA
      refine ⟨_, rfl, _, rfl, _, rfl, p, dxA, _, rfl, hpA, p, d, t, z, rfl, hww z hz, hcA, fun H2 s2 => ?_⟩
      have hcB := ((hc2.same s1).same s').same s2
      obtain ⟨⟨dxB, hqB⟩, _⟩ := id hcB
      refine ⟨_, rfl, _, rfl, q, dxB, _, rfl, hqB, q, e, u, z, rfl, hww z hz, hcB, fun H3 s3 => ⟨_, _, rfl, rfl, ?_⟩⟩
      
      exact ⟨by show 2 ≤ sizeLine; decide, fun T2 hT2 => qk T2 _ ((s2.trans s3).free hT2) ((s2.trans s3).trans (Same.new hT2)) upd_same⟩
    · refine ⟨_, rfl, D, xs, rfl, .inr (SqL.of hD'), mk_pairs hP' (wd_map hww _) (by rw [List.length_map]; omega) (by rw [List.length_map]; exact hle) (fun z => ?_) (k.later (s1.trans s'))⟩
      rw [sumOf_map ha]
      by_cases c : z ∈ ws
      · rw [if_pos c]
      · have c1 : ¬ (z ∈ keys t ∨ z ∈ keys u) := mt (hm z).mpr c
        rw [if_neg c, val_out (fun m => c1 (.inl m)), val_out (fun m => c1 (.inr m))]
        rfl
theorem ok_and {C f fGe fJw : Addr} {fd fdGe fdJw : FuncData} {fI : Addr} (F : Fun K "__and__" "Counts.__and__" s_Counts_and f fd) (g : Bj mg) (T : CT P w K mg base C fI) (ci : CI K C) (SGe : GDef P w K mg base CX0 2 C "__getitem__" ["self", "word"] (spGet C) fGe fdGe)
    (FJw : Def P w K mg base CX0 3 "joint_words" ["one", "other"] (spJoint C) fJw fdJw) : FnOk P w K mg base CX0 4 f fd ["self", "other"] (spBin C fun a b => if b < a then b else a) := by
  obtain ⟨GJw, mJw, _, bJw⟩ := id FJw
  refine F.ok sc_Counts_and (fun vs H Q E h => ?_) (fun cdv A outer s H vs Q E hr h => ?_)
  · obtain ⟨_, _, _, _, _, _, rfl, _⟩ := h
    rfl
  · obtain ⟨p, d, q, e, t, u, rfl, hc, hc2, hl, hl2, k⟩ := h
    have hrJw : Room 3 _ := hr.mono (by decide)
    have hrGe : Room 3 _ := hr.mono (by decide)
    have hrI : Room 2 _ := hr.mono (by decide)
    refine ⟨_, (pss_cons (ps_if (pt_not (pt_val (pe_callB call_isi (by rfl) g.isinstance (by decide +kernel) (pa_cons (pv 1) (pa_cons (pe_glob (v := .ref C) rfl T.mgC rfl) pa_nil))))) (pss_one (ps_never)) pss_nil)
      (pss_cons (ps_setLc (i := 2) (own := [("word", 3)]) (g := gName 3)  (by rfl) sc_Counts_and.nd rfl rfl (sw_true rfl rfl rfl (by decide +kernel)) (pi_list (pe_call GJw hrJw rfl mJw FJw.kp bJw .nil pass0 (pa_cons (pv 0) (pa_cons (pv 1) pa_nil)))) (blkOk_by (own := [("word", 3)]) (N := ["self", "other", "pairs", "word"]) (sc := defScope s_Counts_and) (by decide +kernel)) (fun _ _ _ _ _ => (pg_name (i := 3) sc_Counts_and.nd rfl (Or.inl rfl))) (fun _ _ _ _ _ => pts_nil) (fun _ _ _ _ _ => (pe_tup (pa_cons (pv 3) (pa_cons (pe_callB (call_min2 rfl) (by rfl) g.min (by decide +kernel) (pa_cons (pe_callTy call_int1 (by rfl) g.int (by decide +kernel) (pa_cons (pe_ixO SGe.c SGe.fi SGe.ok hrGe SGe.b pass0 (pv 0) (pv 3)) pa_nil)) (pa_cons (pe_callTy call_int1 (by rfl) g.int (by decide +kernel) (pa_cons (pe_ixO SGe.c SGe.fi SGe.ok hrGe SGe.b pass0 (pv 1) (pv 3)) pa_nil)) pa_nil))) pa_nil)))))
      (pss_one (ps_ret (pe_mkS T.mke T.ini hrI rfl T.mgC pass0 (pv 2)))))), ?_⟩
    obtain ⟨⟨dx, hp⟩, _⟩ := id hc
    obtain ⟨⟨dx2, hq⟩, _⟩ := id hc2
    refine ⟨_, rfl, _, _, _, _, true, rfl, .own C, ci.ty hq, kit_self, _, rfl, iteF ?_⟩
    refine ⟨_, rfl, _, rfl, p, d, q, e, t, u, rfl, hc, hc2, hl, hl2, fun l H1 ws hl' s1 h1 ha hm hle => ⟨l, rfl, ⟨_, SqL.of h1⟩, fun D hD => ?_⟩⟩
    have hww : ∀ z ∈ ws, Word z := fun z hz => ((hm z).mp hz).elim (hc.wd z) (hc2.wd z)
    refine lc_pairs (G := fun z => if val u z < val t z then val u z else val t z) h1 hD (by omega) (fun _ => rfl) (fun z hz H' s' Qe qk => ?_) fun H' xs s' hD' hP' => ?_
    · have hcA := (hc.same s1).same s'
      obtain ⟨⟨dxA, hpA⟩, _⟩ := id hcA
      refine ⟨_, rfl, _, rfl, _, rfl, p, dxA, _, rfl, hpA, p, d, t, z, rfl, hww z hz, hcA, fun H2 s2 => ?_⟩
      have hcB := ((hc2.same s1).same s').same s2
      obtain ⟨⟨dxB, hqB⟩, _⟩ := id hcB
      refine Or.inl ⟨_, rfl, _, rfl, _, rfl, q, dxB, _, rfl, hqB, q, e, u, z, rfl, hww z hz, hcB, fun H3 s3 => Or.inl ⟨_, rfl, _, _, rfl, ?_⟩⟩
      
      exact ⟨by show 2 ≤ sizeLine; decide, fun T2 hT2 => qk T2 _ ((s2.trans s3).free hT2) ((s2.trans s3).trans (Same.new hT2)) upd_same⟩
    · refine ⟨_, rfl, D, xs, rfl, .inr (SqL.of hD'), mk_pairs hP' (wd_map hww _) (by rw [List.length_map]; omega) (by rw [List.length_map]; exact hle) (fun z => ?_) (k.later (s1.trans s'))⟩
      rw [sumOf_map ha]
      by_cases c : z ∈ ws
      · rw [if_pos c]
      · have c1 : ¬ (z ∈ keys t ∨ z ∈ keys u) := mt (hm z).mpr c
        rw [if_neg c, val_out (fun m => c1 (.inl m)), val_out (fun m => c1 (.inr m))]
        rfl
theorem ok_or {C f fGe fJw : Addr} {fd fdGe fdJw : FuncData} {fI : Addr} (F : Fun K "__or__" "Counts.__or__" s_Counts_or f fd) (g : Bj mg) (T : CT P w K mg base C fI) (ci : CI K C) (SGe : GDef P w K mg base CX0 2 C "__getitem__" ["self", "word"] (spGet C) fGe fdGe)
    (FJw : Def P w K mg base CX0 3 "joint_words" ["one", "other"] (spJoint C) fJw fdJw) : FnOk P w K mg base CX0 4 f fd ["self", "other"] (spBin C fun a b => if b > a then b else a) := by
  obtain ⟨GJw, mJw, _, bJw⟩ := id FJw
  refine F.ok sc_Counts_or (fun vs H Q E h => ?_) (fun cdv A outer s H vs Q E hr h => ?_)
  · obtain ⟨_, _, _, _, _, _, rfl, _⟩ := h
    rfl
  · obtain ⟨p, d, q, e, t, u, rfl, hc, hc2, hl, hl2, k⟩ := h
    have hrJw : Room 3 _ := hr.mono (by decide)
    have hrGe : Room 3 _ := hr.mono (by decide)
    have hrI : Room 2 _ := hr.mono (by decide)
    refine ⟨_, (pss_cons (ps_if (pt_not (pt_val (pe_callB call_isi (by rfl) g.isinstance (by decide +kernel) (pa_cons (pv 1) (pa_cons (pe_glob (v := .ref C) rfl T.mgC rfl) pa_nil))))) (pss_one (ps_never)) pss_nil)
      (pss_cons (ps_setLc (i := 2) (own := [("word", 3)]) (g := gName 3)  (by rfl) sc_Counts_or.nd rfl rfl (sw_true rfl rfl rfl (by decide +kernel)) (pi_list (pe_call GJw hrJw rfl mJw FJw.kp bJw .nil pass0 (pa_cons (pv 0) (pa_cons (pv 1) pa_nil)))) (blkOk_by (own := [("word", 3)]) (N := ["self", "other", "pairs", "word"]) (sc := defScope s_Counts_or) (by decide +kernel)) (fun _ _ _ _ _ => (pg_name (i := 3) sc_Counts_or.nd rfl (Or.inl rfl))) (fun _ _ _ _ _ => pts_nil) (fun _ _ _ _ _ => (pe_tup (pa_cons (pv 3) (pa_cons (pe_callB (call_max2 rfl) (by rfl) g.max (by decide +kernel) (pa_cons (pe_callTy call_int1 (by rfl) g.int (by decide +kernel) (pa_cons (pe_ixO SGe.c SGe.fi SGe.ok hrGe SGe.b pass0 (pv 0) (pv 3)) pa_nil)) (pa_cons (pe_callTy call_int1 (by rfl) g.int (by decide +kernel) (pa_cons (pe_ixO SGe.c SGe.fi SGe.ok hrGe SGe.b pass0 (pv 1) (pv 3)) pa_nil)) pa_nil))) pa_nil)))))
      (pss_one (ps_ret (pe_mkS T.mke T.ini hrI rfl T.mgC pass0 (pv 2)))))), ?_⟩
    obtain ⟨⟨dx, hp⟩, _⟩ := id hc
    obtain ⟨⟨dx2, hq⟩, _⟩ := id hc2
    refine ⟨_, rfl, _, _, _, _, true, rfl, .own C, ci.ty hq, kit_self, _, rfl, iteF ?_⟩
    refine ⟨_, rfl, _, rfl, p, d, q, e, t, u, rfl, hc, hc2, hl, hl2, fun l H1 ws hl' s1 h1 ha hm hle => ⟨l, rfl, ⟨_, SqL.of h1⟩, fun D hD => ?_⟩⟩
    have hww : ∀ z ∈ ws, Word z := fun z hz => ((hm z).mp hz).elim (hc.wd z) (hc2.wd z)
    refine lc_pairs (G := fun z => if val u z > val t z then val u z else val t z) h1 hD (by omega) (fun _ => rfl) (fun z hz H' s' Qe qk => ?_) fun H' xs s' hD' hP' => ?_
    · have hcA := (hc.same s1).same s'
      obtain ⟨⟨dxA, hpA⟩, _⟩ := id hcA
      refine ⟨_, rfl, _, rfl, _, rfl, p, dxA, _, rfl, hpA, p, d, t, z, rfl, hww z hz, hcA, fun H2 s2 => ?_⟩
      have hcB := ((hc2.same s1).same s').same s2
      obtain ⟨⟨dxB, hqB⟩, _⟩ := id hcB
      refine Or.inl ⟨_, rfl, _, rfl, _, rfl, q, dxB, _, rfl, hqB, q, e, u, z, rfl, hww z hz, hcB, fun H3 s3 => Or.inl ⟨_, rfl, _, _, rfl, ?_⟩⟩
      
      exact ⟨by show 2 ≤ sizeLine; decide, fun T2 hT2 => qk T2 _ ((s2.trans s3).free hT2) ((s2.trans s3).trans (Same.new hT2)) upd_same⟩
    · refine ⟨_, rfl, D, xs, rfl, .inr (SqL.of hD'), mk_pairs hP' (wd_map hww _) (by rw [List.length_map]; omega) (by rw [List.length_map]; exact hle) (fun z => ?_) (k.later (s1.trans s'))⟩
      rw [sumOf_map ha]
      by_cases c : z ∈ ws
      · rw [if_pos c]
      · have c1 : ¬ (z ∈ keys t ∨ z ∈ keys u) := mt (hm z).mpr c
        rw [if_neg c, val_out (fun m => c1 (.inl m)), val_out (fun m => c1 (.inr m))]
        rfl
theorem ok_xor {C f fSu fAb : Addr} {fd fdSu fdAb : FuncData} {fI : Addr} (F : Fun K "__xor__" "Counts.__xor__" s_Counts_xor f fd) (g : Bj mg) (T : CT P w K mg base C fI) (ci : CI K C) (OSu : ODef P w K mg base CX0 4 C (PySem.dunder "sub") ["self", "other"] (spBin C fun a b => a - b) fSu fdSu)
    (SAb : GDef P w K mg base CX0 3 C "__abs__" ["self"] (spUn C fun a => if a < 0 then -a else a) fAb fdAb) : FnOk P w K mg base CX0 5 f fd ["self", "other"] (spBin C fun a b => if a - b < 0 then -(a - b) else a - b) := by
  refine F.ok sc_Counts_xor (fun vs H Q E h => ?_) (fun cdv A outer s H vs Q E hr h => ?_)
  · obtain ⟨_, _, _, _, _, _, rfl, _⟩ := h
    rfl
  · obtain ⟨p, d, q, e, t, u, rfl, hc, hc2, hl, hl2, k⟩ := h
    have hrSu : Room 4 _ := hr.mono (by decide)
    have hrAb : Room 4 _ := hr.mono (by decide)
    refine ⟨_, (pss_cons (ps_if (pt_not (pt_val (pe_callB call_isi (by rfl) g.isinstance (by decide +kernel) (pa_cons (pv 1) (pa_cons (pe_glob (v := .ref C) rfl T.mgC rfl) pa_nil))))) (pss_one (ps_never)) pss_nil)
      (pss_one (ps_ret (pe_callB (call_absO SAb.c SAb.ok hrAb SAb.b pass0) (by rfl) g.abs (by decide +kernel) (pa_cons (pe_op (op_own OSu.c OSu.ok hrSu OSu.b pass0) (pv 0) (pv 1)) pa_nil))))), ?_⟩
    obtain ⟨⟨dx, hp⟩, _⟩ := id hc
    obtain ⟨⟨dx2, hq⟩, _⟩ := id hc2
    refine ⟨_, rfl, _, _, _, _, true, rfl, .own C, ci.ty hq, kit_self, _, rfl, iteF ?_⟩
    refine ⟨_, rfl, _, rfl, p, q, dx, dx2, _, _, rfl, rfl, hp, hq, p, d, q, e, t, u, rfl, hc, hc2, hl, hl2, fun r1 e1 H1 t1 hr1 he1 s1 hc1 hv1 hl1 => ?_⟩
    obtain ⟨⟨dx3, hr3⟩, _⟩ := id hc1
    refine ⟨r1, dx3, _, rfl, hr3, r1, e1, t1, rfl, hc1, by omega, fun r2 e2 H2 t2 hr2 he2 s2 hc2' hv2 hl2' => ?_⟩
    refine k r2 e2 H2 t2 (s1.free hr2) (s1.free he2) (s1.trans s2) hc2' (fun z => ?_) (by omega)
    rw [hv2]
    dsimp only
    rw [hv1]
theorem ok_rmul {C f fMu fRm : Addr} {fd fdMu : FuncData} {fI : Addr} (F : Fun K "__rmul__" "Counts.__rmul__" s_Counts_rmul f fd) (g : Bj mg) (T : CT P w K mg base C fI) (OMu : TDef P w K mg base CX0 3 C "mul" ["self", "times"] (spMul C) fMu fRm fdMu) : FnOk P w K mg base CX0 4 f fd ["self", "times"] (spMul C) := by
  refine F.ok sc_Counts_rmul (fun vs H Q E h => ?_) (fun cdv A outer s H vs Q E hr h => ?_)
  · obtain ⟨_, _, _, _, rfl, _⟩ := h
    rfl
  · obtain ⟨p, d, t, n, rfl, hc, hl, hb, k⟩ := h
    have hrMu : Room 3 _ := hr.mono (by decide)
    refine ⟨_, (pss_one (ps_ret (pe_op (op_ownI OMu.c OMu.i1 OMu.i2 OMu.ok hrMu OMu.b pass0) (pv 0) (pv 1)))), ?_⟩
    obtain ⟨⟨dx, hp⟩, _⟩ := id hc
    exact ⟨_, rfl, _, rfl, p, dx, _, n, rfl, rfl, hp, p, d, t, n, rfl, hc, hl, hb, k⟩
theorem ok_iadd {C f fOp : Addr} {fd fdOp : FuncData} {fI : Addr} (F : Fun K "__iadd__" "Counts.__iadd__" s_Counts_iadd f fd) (g : Bj mg) (T : CT P w K mg base C fI) (OAd : ODef P w K mg base CX0 4 C (PySem.dunder "add") ["self", "other"] (spBin C fun a b => a + b) fOp fdOp) : FnOk P w K mg base CX0 5 f fd ["self", "other"] (spIn C fun a b => a + b) := by
  refine F.ok sc_Counts_iadd (fun vs H Q E h => ?_) (fun cdv A outer s H vs Q E hr h => ?_)
  · obtain ⟨_, _, _, _, _, _, rfl, _⟩ := h
    rfl
  · obtain ⟨p, d, q, e, t, u, rfl, hc, hc2, hl, hl2, k⟩ := h
    have hrAd : Room 4 _ := hr.mono (by decide)
    refine ⟨_, (pss_cons (ps_set (i := 2) sc_Counts_iadd.nd rfl (Or.inl rfl) (pe_op (op_own OAd.c OAd.ok hrAd OAd.b pass0) (pv 0) (pv 1)))
      (pss_cons (ps_fld (pv 0) (pe_fld (pv 2) rfl) rfl)
      (pss_one (ps_ret (pv 0))))), ?_⟩
    obtain ⟨⟨dx, hp⟩, _⟩ := id hc
    obtain ⟨⟨dx2, hq⟩, _⟩ := id hc2
    refine ⟨_, rfl, _, rfl, p, q, dx, dx2, _, _, rfl, rfl, hp, hq, p, d, q, e, t, u, rfl, hc, hc2, hl, hl2, fun r1 e1 H1 t1 hr1 he1 s1 hc1 hv1 hl1 => ?_⟩
    obtain ⟨⟨dx3, hr3⟩, hd3, hh3, hw3⟩ := id hc1
    have npr : p ≠ r1 := ne_of_none hp hr1
    refine ⟨_, rfl, r1, C, dx3, _, _, rfl, hr3, T.cl, T.nH, flds_held e1, _, rfl, p, C, dx, _, rfl, s1 _ _ hp, T.cl, T.nH, (by show 1 < 1000; decide), ?_⟩
    rw [putF_held]
    refine ⟨_, rfl, k e1 _ t1 he1 ⟨⟨dx, upd_same⟩, by rw [upd_ne (ne_of hd3 (s1 _ _ hp) (by intro z; cases z))]; exact hd3, hh3, hw3⟩ hv1 hl1 fun b o eb nb => ?_⟩
    rw [upd_ne nb]
    exact s1 _ _ eb
theorem ok_isub {C f fOp : Addr} {fd fdOp : FuncData} {fI : Addr} (F : Fun K "__isub__" "Counts.__isub__" s_Counts_isub f fd) (g : Bj mg) (T : CT P w K mg base C fI) (OSu : ODef P w K mg base CX0 4 C (PySem.dunder "sub") ["self", "other"] (spBin C fun a b => a - b) fOp fdOp) : FnOk P w K mg base CX0 5 f fd ["self", "other"] (spIn C fun a b => a - b) := by
  refine F.ok sc_Counts_isub (fun vs H Q E h => ?_) (fun cdv A outer s H vs Q E hr h => ?_)
  · obtain ⟨_, _, _, _, _, _, rfl, _⟩ := h
    rfl
  · obtain ⟨p, d, q, e, t, u, rfl, hc, hc2, hl, hl2, k⟩ := h
    have hrSu : Room 4 _ := hr.mono (by decide)
    refine ⟨_, (pss_cons (ps_set (i := 2) sc_Counts_isub.nd rfl (Or.inl rfl) (pe_op (op_own OSu.c OSu.ok hrSu OSu.b pass0) (pv 0) (pv 1)))
      (pss_cons (ps_fld (pv 0) (pe_fld (pv 2) rfl) rfl)
      (pss_one (ps_ret (pv 0))))), ?_⟩
    obtain ⟨⟨dx, hp⟩, _⟩ := id hc
    obtain ⟨⟨dx2, hq⟩, _⟩ := id hc2
    refine ⟨_, rfl, _, rfl, p, q, dx, dx2, _, _, rfl, rfl, hp, hq, p, d, q, e, t, u, rfl, hc, hc2, hl, hl2, fun r1 e1 H1 t1 hr1 he1 s1 hc1 hv1 hl1 => ?_⟩
    obtain ⟨⟨dx3, hr3⟩, hd3, hh3, hw3⟩ := id hc1
    have npr : p ≠ r1 := ne_of_none hp hr1
    refine ⟨_, rfl, r1, C, dx3, _, _, rfl, hr3, T.cl, T.nH, flds_held e1, _, rfl, p, C, dx, _, rfl, s1 _ _ hp, T.cl, T.nH, (by show 1 < 1000; decide), ?_⟩
    rw [putF_held]
    refine ⟨_, rfl, k e1 _ t1 he1 ⟨⟨dx, upd_same⟩, by rw [upd_ne (ne_of hd3 (s1 _ _ hp) (by intro z; cases z))]; exact hd3, hh3, hw3⟩ hv1 hl1 fun b o eb nb => ?_⟩
    rw [upd_ne nb]
    exact s1 _ _ eb
theorem ok_iand {C f fOp : Addr} {fd fdOp : FuncData} {fI : Addr} (F : Fun K "__iand__" "Counts.__iand__" s_Counts_iand f fd) (g : Bj mg) (T : CT P w K mg base C fI) (OAn : ODef P w K mg base CX0 4 C (PySem.dunder "and") ["self", "other"] (spBin C fun a b => if b < a then b else a) fOp fdOp) : FnOk P w K mg base CX0 5 f fd ["self", "other"] (spIn C fun a b => if b < a then b else a) := by
  refine F.ok sc_Counts_iand (fun vs H Q E h => ?_) (fun cdv A outer s H vs Q E hr h => ?_)
  · obtain ⟨_, _, _, _, _, _, rfl, _⟩ := h
    rfl
  · obtain ⟨p, d, q, e, t, u, rfl, hc, hc2, hl, hl2, k⟩ := h
    have hrAn : Room 4 _ := hr.mono (by decide)
    refine ⟨_, (pss_cons (ps_set (i := 2) sc_Counts_iand.nd rfl (Or.inl rfl) (pe_op (op_own OAn.c OAn.ok hrAn OAn.b pass0) (pv 0) (pv 1)))
      (pss_cons (ps_fld (pv 0) (pe_fld (pv 2) rfl) rfl)
      (pss_one (ps_ret (pv 0))))), ?_⟩
    obtain ⟨⟨dx, hp⟩, _⟩ := id hc
    obtain ⟨⟨dx2, hq⟩, _⟩ := id hc2
    refine ⟨_, rfl, _, rfl, p, q, dx, dx2, _, _, rfl, rfl, hp, hq, p, d, q, e, t, u, rfl, hc, hc2, hl, hl2, fun r1 e1 H1 t1 hr1 he1 s1 hc1 hv1 hl1 => ?_⟩
    obtain ⟨⟨dx3, hr3⟩, hd3, hh3, hw3⟩ := id hc1
    have npr : p ≠ r1 := ne_of_none hp hr1
    refine ⟨_, rfl, r1, C, dx3, _, _, rfl, hr3, T.cl, T.nH, flds_held e1, _, rfl, p, C, dx, _, rfl, s1 _ _ hp, T.cl, T.nH, (by show 1 < 1000; decide), ?_⟩
    rw [putF_held]
    refine ⟨_, rfl, k e1 _ t1 he1 ⟨⟨dx, upd_same⟩, by rw [upd_ne (ne_of hd3 (s1 _ _ hp) (by intro z; cases z))]; exact hd3, hh3, hw3⟩ hv1 hl1 fun b o eb nb => ?_⟩
    rw [upd_ne nb]
    exact s1 _ _ eb
theorem ok_ior {C f fOp : Addr} {fd fdOp : FuncData} {fI : Addr} (F : Fun K "__ior__" "Counts.__ior__" s_Counts_ior f fd) (g : Bj mg) (T : CT P w K mg base C fI) (OOr : ODef P w K mg base CX0 4 C (PySem.dunder "or") ["self", "other"] (spBin C fun a b => if b > a then b else a) fOp fdOp) : FnOk P w K mg base CX0 5 f fd ["self", "other"] (spIn C fun a b => if b > a then b else a) := by
  refine F.ok sc_Counts_ior (fun vs H Q E h => ?_) (fun cdv A outer s H vs Q E hr h => ?_)
  · obtain ⟨_, _, _, _, _, _, rfl, _⟩ := h
    rfl
  · obtain ⟨p, d, q, e, t, u, rfl, hc, hc2, hl, hl2, k⟩ := h
    have hrOr : Room 4 _ := hr.mono (by decide)
    refine ⟨_, (pss_cons (ps_set (i := 2) sc_Counts_ior.nd rfl (Or.inl rfl) (pe_op (op_own OOr.c OOr.ok hrOr OOr.b pass0) (pv 0) (pv 1)))
      (pss_cons (ps_fld (pv 0) (pe_fld (pv 2) rfl) rfl)
      (pss_one (ps_ret (pv 0))))), ?_⟩
    obtain ⟨⟨dx, hp⟩, _⟩ := id hc
    obtain ⟨⟨dx2, hq⟩, _⟩ := id hc2
    refine ⟨_, rfl, _, rfl, p, q, dx, dx2, _, _, rfl, rfl, hp, hq, p, d, q, e, t, u, rfl, hc, hc2, hl, hl2, fun r1 e1 H1 t1 hr1 he1 s1 hc1 hv1 hl1 => ?_⟩
    obtain ⟨⟨dx3, hr3⟩, hd3, hh3, hw3⟩ := id hc1
    have npr : p ≠ r1 := ne_of_none hp hr1
    refine ⟨_, rfl, r1, C, dx3, _, _, rfl, hr3, T.cl, T.nH, flds_held e1, _, rfl, p, C, dx, _, rfl, s1 _ _ hp, T.cl, T.nH, (by show 1 < 1000; decide), ?_⟩
    rw [putF_held]
    refine ⟨_, rfl, k e1 _ t1 he1 ⟨⟨dx, upd_same⟩, by rw [upd_ne (ne_of hd3 (s1 _ _ hp) (by intro z; cases z))]; exact hd3, hh3, hw3⟩ hv1 hl1 fun b o eb nb => ?_⟩
    rw [upd_ne nb]
    exact s1 _ _ eb
theorem ok_imul {C f fMu fRm : Addr} {fd fdMu : FuncData} {fI : Addr} (F : Fun K "__imul__" "Counts.__imul__" s_Counts_imul f fd) (g : Bj mg) (T : CT P w K mg base C fI) (OMu : TDef P w K mg base CX0 3 C "mul" ["self", "times"] (spMul C) fMu fRm fdMu) : FnOk P w K mg base CX0 4 f fd ["self", "times"] (spImul C) := by
  refine F.ok sc_Counts_imul (fun vs H Q E h => ?_) (fun cdv A outer s H vs Q E hr h => ?_)
  · obtain ⟨_, _, _, _, rfl, _⟩ := h
    rfl
  · obtain ⟨p, d, t, n, rfl, hc, hl, hb, k⟩ := h
    have hrMu : Room 3 _ := hr.mono (by decide)
    refine ⟨_, (pss_cons (ps_set (i := 2) sc_Counts_imul.nd rfl (Or.inl rfl) (pe_op (op_ownI OMu.c OMu.i1 OMu.i2 OMu.ok hrMu OMu.b pass0) (pv 0) (pv 1)))
      (pss_cons (ps_fld (pv 0) (pe_fld (pv 2) rfl) rfl)
      (pss_one (ps_ret (pv 0))))), ?_⟩
    obtain ⟨⟨dx, hp⟩, _⟩ := id hc
    refine ⟨_, rfl, _, rfl, p, dx, _, n, rfl, rfl, hp, p, d, t, n, rfl, hc, hl, hb, fun r1 e1 H1 t1 hr1 he1 s1 hc1 hv1 hl1 => ?_⟩
    obtain ⟨⟨dx3, hr3⟩, hd3, hh3, hw3⟩ := id hc1
    refine ⟨_, rfl, r1, C, dx3, _, _, rfl, hr3, T.cl, T.nH, flds_held e1, _, rfl, p, C, dx, _, rfl, s1 _ _ hp, T.cl, T.nH, (by show 1 < 1000; decide), ?_⟩
    rw [putF_held]
    refine ⟨_, rfl, k e1 _ t1 he1 ⟨⟨dx, upd_same⟩, by rw [upd_ne (ne_of hd3 (s1 _ _ hp) (by intro z; cases z))]; exact hd3, hh3, hw3⟩ hv1 hl1 fun b o eb nb => ?_⟩
    rw [upd_ne nb]
    exact s1 _ _ eb
end
end Cs

set_option Elab.async false
set_option linter.all false
set_option maxRecDepth 100000
set_option maxHeartbeats 4000000
/-! Methods, properties and the like as their callers have them; more plain laws. -/
namespace Cs
open PySem L2
/-- an own special method, a property, a classmethod, a def with a star, as callers have them -/
structure SDef (P : Program) (w : World) (K : PySem.W.Frag) (mg : Str → Option Value) (base : Heap) (CX : CXT) (k : Nat) (C : Addr) (m : Str) (ps : List Str) (sp : Sp) (f : Addr) (fd : FuncData) : Prop where
  c : Spc K C m f
  ns : PySem.W.noSeq K C = true
  ok : FnOk P w K mg base CX k f fd ps sp
  b : Binds K fd ps []
structure PDef (P : Program) (w : World) (K : PySem.W.Frag) (mg : Str → Option Value) (base : Heap) (CX : CXT) (k : Nat) (C : Addr) (m : Str) (sp : Sp) (q f : Addr) (fd : FuncData) : Prop where
  p : PropOf K C m q f
  ok : FnOk P w K mg base CX k f fd ["self"] sp
  b : Binds K fd ["self"] []
structure KDef (P : Program) (w : World) (K : PySem.W.Frag) (mg : Str → Option Value) (base : Heap) (CX : CXT) (k : Nat) (C : Addr) (mc : Value) (m : Str) (sp : Sp) (q f : Addr) : Prop where
  r : ClX.CRead K C mc
  c : ClX.CMet K C mc m q f
  ok : FnR P w K mg base CX k f sp
structure RDef (P : Program) (w : World) (K : PySem.W.Frag) (mg : Str → Option Value) (base : Heap) (CX : CXT) (k : Nat) (C : Addr) (m : Str) (sp : Sp) (f : Addr) : Prop where
  me : Meth K C m f
  ok : FnR P w K mg base CX k f sp
theorem nodup_of_map {α β : Type} {f : α → β} {l : List α} (h : (l.map f).Nodup) : l.Nodup := by
  unfold List.Nodup at h ⊢
  rw [List.pairwise_map] at h
  exact h.imp fun n e => n (by rw [e])
theorem told_perm {t l : Tab} (h : Held t) (k : Told (val t) l) : l.Perm t := by
  have n1 : l.Nodup := by
    have := k.asc.nodup
    unfold keys at this
    exact nodup_of_map this
  have n2 : t.Nodup := by
    have := h.nd
    unfold keys at this
    exact nodup_of_map this
  rw [List.perm_ext_iff_of_nodup n1 n2]
  rintro ⟨z, n⟩
  rw [k.mem]
  constructor
  · rintro ⟨e, q⟩
    have hz : z ∈ keys t := (h.keys_iff z).mpr (e ▸ q)
    obtain ⟨n', a, b⟩ := look_some hz
    have : n = n' := by rw [e]; unfold val; rw [a]; rfl
    rw [this]
    exact b
  · intro m
    refine ⟨?_, h.nz _ m⟩
    unfold val
    rw [look_mem h.nd m]
    rfl
theorem sum_perm {l m : List Int} (h : l.Perm m) : l.sum = m.sum := by
  induction h with
  | nil => rfl
  | cons x _ ih => rw [List.sum_cons, List.sum_cons, ih]
  | swap x y l => rw [List.sum_cons, List.sum_cons, List.sum_cons, List.sum_cons]; omega
  | trans _ _ a b => exact a.trans b
theorem total_told {t l : Tab} (h : Held t) (k : Told (val t) l) : (t.map (·.2)).sum = (l.map (·.2)).sum := (sum_perm ((told_perm h k).map _)).symm
theorem Told.congr {f g : Str → Int} {l : Tab} (h : Told f l) (e : ∀ z, f z = g z) : Told g l := by
  obtain rfl : f = g := funext e
  exact h
theorem cut_last (xs : List V) (x : V) : cutV (xs ++ [x]) none (some (-1)) = xs := by
  unfold cutV
  show ((xs ++ [x]).drop 0).take ((-1 + ((xs ++ [x]).length : Int)).toNat - 0) = xs
  rw [List.length_append, List.drop_zero]
  have : (-1 + ((xs.length + [x].length : Nat) : Int)).toNat - 0 = xs.length := by
    simp only [List.length_singleton]
    omega
  rw [this]
  simp
def pds (zs : List Str) : PyData := .list (zs.map .str)
theorem pds_can : ∀ {zs : List Str}, (∀ z ∈ zs, Word z) → PyData.canLayAll0 (zs.map .str) = true
  | [], _ => rfl
  | z :: zs, h => by
    rw [List.map_cons, PyData.canLayAll0, pds_can fun y m => h y (List.mem_cons_of_mem _ m), PyData.canLay0, word_ok (h z List.mem_cons_self)]
    rfl
theorem pds_depth : ∀ zs : List Str, PyData.depthAll (zs.map .str) = 0
  | [] => rfl
  | z :: zs => by
    rw [List.map_cons, PyData.depthAll, pds_depth zs, PyData.depth]
    rfl
theorem pds_shaped {zs : List Str} (h : ∀ z ∈ zs, Word z) : SeqAt.shaped (pds zs) = true := by
  unfold SeqAt.shaped pds
  rw [Bool.and_eq_true]
  refine ⟨by rw [PyData.canLay0]; exact pds_can h, decide_eq_true ?_⟩
  rw [PyData.depth, pds_depth]
  decide
theorem pds_refl {zs : List Str} (h : ∀ z ∈ zs, Word z) : PyData.eqv (pds zs) (pds zs) = true := SeqAt.eqv_refl _ (SeqAt.canLay_of_shaped (pds_shaped h))
theorem dp_strs {K : PySem.W.Frag} {H : Hp} : ∀ zs : List Str, DpAll K H (zs.map V.str) (zs.map .str)
  | [] => .nil
  | z :: zs => .cons (.str z) (dp_strs zs)
theorem four {α : Type} {l : List α} (h : l.length = 4) : ∃ a b c d, l = [a, b, c, d] := by
  match l, h with
  | [a, b, c, d], _ => exact ⟨a, b, c, d, rfl⟩
def spLaw (K : PySem.W.Frag) : Sp := fun vs H Q _ => ∃ (a : Addr) (ns : List Int), vs = [.ref a] ∧ SqL K H a (ns.map V.int) ∧ ns.length ≤ 63 ∧ ∀ H', Q (.bl true) H'
end Cs

set_option Elab.async false
set_option linter.all false
set_option maxRecDepth 100000
set_option maxHeartbeats 4000000
/-! Plain laws for models made word by word; rows of counts and their models. -/
namespace Cs
open PySem L2
/-- the table of G at the words ws -/
def byT (G : Str → Int) (ws : List Str) : Tab := ws.foldl (fun t z => put t z (G z)) []
theorem byT_snoc (G : Str → Int) (ws : List Str) (z : Str) : byT G (ws ++ [z]) = put (byT G ws) z (G z) := by
  unfold byT
  rw [List.foldl_append]
  rfl
theorem byT_nd (G : Str → Int) : ∀ ws, (keys (byT G ws)).Nodup := snoc_rec List.nodup_nil fun l a h => by
  rw [byT_snoc]
  exact nd_put h
theorem byT_keys (G : Str → Int) (z : Str) : ∀ ws, z ∈ keys (byT G ws) ↔ z ∈ ws := snoc_rec ⟨(fun h => nomatch h), fun h => nomatch h⟩ fun l a h => by
  rw [byT_snoc, mem_keys_put, h, List.mem_append, List.mem_singleton]
theorem byT_val (G : Str → Int) (z : Str) : ∀ ws, val (byT G ws) z = if z ∈ ws then G z else 0 := snoc_rec rfl fun l a h => by
  rw [byT_snoc, val_put (byT_nd G l), h]
  by_cases e : z = a
  · subst e
    rw [if_pos rfl, if_pos (by simp)]
  · rw [if_neg e]
    by_cases m : z ∈ l
    · rw [if_pos m, if_pos (by simp [m])]
    · rw [if_neg m, if_neg (by simp [m, e])]
theorem byT_len (G : Str → Int) : ∀ ws, (byT G ws).length ≤ ws.length := snoc_rec (Nat.le_refl _) fun l a h => by
  rw [byT_snoc, List.length_append]
  have := len_put (byT G l) a (G a)
  simp only [List.length_singleton]
  omega
theorem val_outK {t : Tab} {z : Str} (h : z ∉ keys t) : val t z = 0 := by
  unfold val
  rw [look_none h]
  rfl
theorem keys_len (t : Tab) : (keys t).length = t.length := List.length_map _
theorem keys_at {t : Tab} {i : Nat} (h : i < t.length) : (keys t)[i]? = some t[i].1 := by
  unfold keys
  rw [List.getElem?_map, List.getElem?_eq_getElem h]
  rfl
/-- keys as values -/
theorem tv_keys (t : Tab) : (tv t).map (fun q => kV q.1) = (keys t).map V.str := by
  unfold tv keys
  rw [List.map_map, List.map_map]
  rfl
/-! sizes -/
def Bd (n : Int) : Prop := n.natAbs < 2 ^ 1000
theorem log_of {n : Int} (h : Bd n) : n.natAbs.log2 ≤ 1000 := by
  by_cases e : n.natAbs = 0
  · rw [e]
    decide
  · exact Nat.le_of_lt ((Nat.log2_lt e).mpr h)
theorem logs_of {n m : Int} (h : Bd n) (k : Bd m) : n.natAbs.log2 + m.natAbs.log2 < 1000000 := by
  have := log_of h
  have := log_of k
  omega
theorem Small.bd {n : Int} (h : Small n) : Bd n := by
  have h1 := h.1
  have h2 := h.2
  have h3 : n.natAbs < 10 ^ 30 := by omega
  exact Nat.lt_trans h3 (by decide +kernel)
theorem sumOf_small (z : Str) : ∀ {ps : List (Str × Int)}, GoodPs ps → -(10 ^ 30 * (ps.length : Int)) ≤ sumOf ps z ∧ sumOf ps z ≤ 10 ^ 30 * (ps.length : Int)
  | [], _ => ⟨Int.le_refl _, Int.le_refl _⟩
  | q :: ps, h => by
    obtain ⟨a, b⟩ := sumOf_small z (ps := ps) fun r m => h r (List.mem_cons_of_mem _ m)
    obtain ⟨c, d⟩ := (h q List.mem_cons_self).2
    have e : sumOf (q :: ps) z = (if q.1 = z then q.2 else 0) + sumOf ps z := by
      unfold sumOf
      rw [List.filter_cons]
      by_cases e : q.1 = z
      · rw [if_pos (decide_eq_true e), if_pos e, List.map_cons, List.sum_cons]
      · rw [if_neg (by simpa using e), if_neg e, Int.zero_add]
    rw [e, List.length_cons]
    by_cases e : q.1 = z
    · rw [if_pos e]
      omega
    · rw [if_neg e]
      omega
theorem sumOf_bd {ps : List (Str × Int)} (h : GoodPs ps) (hl : ps.length ≤ 1000) (z : Str) : Bd (sumOf ps z) := by
  obtain ⟨a, b⟩ := sumOf_small z h
  have : (sumOf ps z).natAbs ≤ 10 ^ 30 * 1000 := by omega
  exact Nat.lt_of_le_of_lt this (by decide +kernel)
/-! rows -/
def RowOk (C : Addr) (H : Hp) (x : V) (a : Addr × Addr) : Prop := ∃ (T r : Addr) (t u : Tab), x = .ref T ∧ H T = some (.tup [.ref r, .ref a.2]) ∧ Cnt C H r a.1 t ∧ t.length ≤ 50 ∧ Mdl H a.2 u ∧ u.length ≤ 50 ∧ ∀ z, val t z = val u z
theorem RowOk.same {C : Addr} {H H' : Hp} {x : V} {a : Addr × Addr} (s : Same H H') (h : RowOk C H x a) : RowOk C H' x a := by
  obtain ⟨T, r, t, u, e, hT, hc, hl, hm, hlu, hv⟩ := h
  exact ⟨T, r, t, u, e, s _ _ hT, hc.same s, hl, hm.same s, hlu, hv⟩
theorem pair_snoc {α β : Type} {R : α → β → Prop} : ∀ {xs : List α} {ys : List β} {x : α} {y : β}, Paired R xs ys → R x y → Paired R (xs ++ [x]) (ys ++ [y])
  | _, _, _, _, .nil, h => .cons h .nil
  | _, _, _, _, .cons r t, h => .cons r (pair_snoc t h)
theorem pair_len {α β : Type} {R : α → β → Prop} : ∀ {xs : List α} {ys : List β}, Paired R xs ys → xs.length = ys.length
  | _, _, .nil => rfl
  | _, _, .cons _ t => congrArg (· + 1) (pair_len t)
/-- rows whose results' dicts are apart from each other, from all models of rows and from S -/
structure RWs (C : Addr) (S : List Addr) (H : Hp) (xs : List V) (as : List (Addr × Addr)) : Prop where
  ok : Paired (RowOk C H) xs as
  pw : as.Pairwise fun a b => a.1 ≠ b.1
  mx : ∀ a ∈ as, ∀ b ∈ as, a.1 ≠ b.2
  own : ∀ a ∈ as, a.1 ∉ S
  ex : ∀ s ∈ S, ∃ o, H s = some o
theorem rows_at {C : Addr} {H : Hp} : ∀ {xs : List V} {as : List (Addr × Addr)}, Paired (RowOk C H) xs as → ∀ a ∈ as, (∃ o, H a.1 = some o) ∧ ∃ o, H a.2 = some o
  | _, _, .nil, a, h => nomatch h
  | _, _, .cons r t, a, h => by
    rcases List.mem_cons.mp h with e | e
    · subst e
      obtain ⟨T, r, t, u, _, _, hc, _, hm, _⟩ := r
      exact ⟨⟨_, hc.dc⟩, ⟨_, hm.dc⟩⟩
    · exact rows_at t a e
theorem RWs.same {C : Addr} {S : List Addr} {H H' : Hp} {xs : List V} {as : List (Addr × Addr)} (s : Same H H') (h : RWs C S H xs as) : RWs C S H' xs as := ⟨L2.Paired.mapP h.ok fun _ _ r => r.same s, h.pw, h.mx, h.own, fun b m => by
  obtain ⟨o, e⟩ := h.ex b m
  exact ⟨o, s _ _ e⟩⟩
theorem RWs.snoc {C : Addr} {S : List Addr} {H H' : Hp} {xs : List V} {as : List (Addr × Addr)} {x : V} {e m : Addr} (h : RWs C S H xs as) (s : Same H H') (f1 : H e = none) (f2 : H m = none ∨ m ∈ S) (ne : e ≠ m) (r : RowOk C H' x (e, m)) : RWs C S H' (xs ++ [x]) (as ++ [(e, m)]) := by
  have hS := h.same s
  refine ⟨pair_snoc hS.ok r, ?_, ?_, ?_, hS.ex⟩
  · rw [List.pairwise_append]
    refine ⟨h.pw, List.pairwise_singleton _ _, fun a ha b hb => ?_⟩
    rw [List.mem_singleton.mp hb]
    obtain ⟨⟨_, h1⟩, _⟩ := rows_at h.ok a ha
    exact ne_of_none h1 f1
  · intro a ha b hb
    rcases List.mem_append.mp ha with qa | qa <;> rcases List.mem_append.mp hb with qb | qb
    · exact h.mx a qa b qb
    · rw [List.mem_singleton.mp qb]
      obtain ⟨⟨_, h1⟩, _⟩ := rows_at h.ok a qa
      rcases f2 with f2 | f2
      · exact ne_of_none h1 f2
      · exact fun q => h.own a qa (by rw [q]; exact f2)
    · rw [List.mem_singleton.mp qa]
      obtain ⟨_, ⟨_, h2⟩⟩ := rows_at h.ok b qb
      exact (ne_of_none h2 f1).symm
    · rw [List.mem_singleton.mp qa, List.mem_singleton.mp qb]
      exact ne
  · intro a ha
    rcases List.mem_append.mp ha with qa | qa
    · exact h.own a qa
    · rw [List.mem_singleton.mp qa]
      intro q
      obtain ⟨o, e'⟩ := h.ex _ q
      exact ne_of_none e' f1 rfl
theorem RWs.nil {C : Addr} {S : List Addr} {H : Hp} (h : ∀ s ∈ S, ∃ o, H s = some o) : RWs C S H [] [] := ⟨.nil, .nil, (fun _ h => nomatch h), (fun _ h => nomatch h), h⟩
/-- what stays of rows when the dict at aa.1 is changed -/
theorem rows_step {C : Addr} {H H3 : Hp} {e : Addr} {t0 : List (Key × V)} (he : H e = some (.dK t0)) (kk : ∀ b o, H b = some o → b ≠ e → H3 b = some o) : ∀ {ys : List V} {bs : List (Addr × Addr)}, Paired (RowOk C H) ys bs → (∀ b ∈ bs, e ≠ b.1 ∧ e ≠ b.2) → Paired (RowOk C H3) ys bs
  | _, _, .nil, _ => .nil
  | _, _, .cons hr tl, hd => by
    refine .cons ?_ (rows_step he kk tl fun b hb => hd b (List.mem_cons_of_mem _ hb))
    obtain ⟨Tb, rb, tb, ub, eb, hTb, ⟨⟨dx, h1⟩, h2, h3, h4⟩, hlb, hmb, hlub, hvb⟩ := hr
    obtain ⟨q1, q2⟩ := hd _ List.mem_cons_self
    have dif : ∀ {b : Addr} {o : HO}, H b = some o → (∀ kvs, o ≠ .dK kvs) → H3 b = some o := fun {b o} e1 nn => kk b o e1 (by rintro rfl; rw [he] at e1; exact nn _ (Option.some.inj e1).symm)
    exact ⟨Tb, rb, tb, ub, eb, dif hTb (fun _ q => by cases q), ⟨⟨dx, dif h1 (fun _ q => by cases q)⟩, kk _ _ h2 q1.symm, h3, h4⟩, hlb, ⟨kk _ _ hmb.dc q2.symm, hmb.nd, hmb.wd⟩, hlub, hvb⟩
theorem Cnt.keep {C : Addr} {H H3 : Hp} {e : Addr} {t0 : List (Key × V)} {r d : Addr} {t : Tab} (he : H e = some (.dK t0)) (kk : ∀ b o, H b = some o → b ≠ e → H3 b = some o) (h : Cnt C H r d t) (n : d ≠ e) : Cnt C H3 r d t := by
  obtain ⟨⟨dx, h1⟩, h2, h3, h4⟩ := h
  exact ⟨⟨dx, kk _ _ h1 (by rintro rfl; rw [he] at h1; cases h1)⟩, kk _ _ h2 n, h3, h4⟩
theorem Mdl.keep {H H3 : Hp} {e : Addr} {m : Addr} {u : Tab} (kk : ∀ b o, H b = some o → b ≠ e → H3 b = some o) (h : Mdl H m u) (n : m ≠ e) : Mdl H3 m u := ⟨kk _ _ h.dc n, h.nd, h.wd⟩
end Cs

set_option Elab.async false
set_option linter.all false
set_option maxRecDepth 100000
set_option maxHeartbeats 4000000
/-! Boxes that change: what stays when the source draws, sizes that grow, lengths by a set of words. -/
namespace Cs
open PySem L2
theorem Cnt.kp {C : Addr} {H H' : Hp} {p c r d : Addr} {t : Tab} (S : Src H p c) (k : Kp p H H') (h : Cnt C H r d t) : Cnt C H' r d t := by
  obtain ⟨⟨dx, h1⟩, h2, h3, h4⟩ := h
  obtain ⟨_, _, _, _, e, _⟩ := id S
  exact ⟨⟨dx, k _ _ h1 (by rintro rfl; rw [e] at h1; cases h1)⟩, k _ _ h2 (by rintro rfl; rw [e] at h2; cases h2), h3, h4⟩
theorem Mdl.kp {H H' : Hp} {p c m : Addr} {u : Tab} (S : Src H p c) (k : Kp p H H') (h : Mdl H m u) : Mdl H' m u := by
  obtain ⟨_, _, _, _, e, _⟩ := id S
  exact ⟨k _ _ h.dc (by rintro rfl; have := h.dc; rw [e] at this; cases this), h.nd, h.wd⟩
def BN (k : Nat) (n : Int) : Prop := n.natAbs < 2 ^ k
theorem BN.log {k : Nat} {n : Int} (h : BN k n) : n.natAbs.log2 ≤ k := by
  by_cases e : n.natAbs = 0
  · rw [e]
    exact Nat.zero_le _
  · exact Nat.le_of_lt ((Nat.log2_lt e).mpr h)
theorem BN.logs {j k : Nat} {n m : Int} (h : BN j n) (h2 : BN k m) (l : j + k < 1000000) : n.natAbs.log2 + m.natAbs.log2 < 1000000 := by
  have := h.log
  have := h2.log
  omega
theorem BN.up {j k : Nat} {n : Int} (h : BN j n) (l : j ≤ k) : BN k n := Nat.lt_of_lt_of_le h (Nat.pow_le_pow_right (by decide) l)
theorem BN.add {k : Nat} {n m : Int} (h : BN k n) (h2 : BN k m) : BN (k + 1) (n + m) := by
  unfold BN at *
  rw [Nat.pow_succ]
  omega
theorem BN.neg {k : Nat} {n : Int} (h : BN k n) : BN k (-n) := by
  unfold BN at *
  rw [Int.natAbs_neg]
  exact h
theorem BN.sub {k : Nat} {n m : Int} (h : BN k n) (h2 : BN k m) : BN (k + 1) (n - m) := by
  rw [Int.sub_eq_add_neg]
  exact h.add h2.neg
theorem BN.mul {j k : Nat} {n m : Int} (h : BN j n) (h2 : BN k m) : BN (j + k) (n * m) := by
  unfold BN at *
  rw [Int.natAbs_mul, Nat.pow_add]
  exact Nat.mul_lt_mul'' h h2
theorem Small.bn {n : Int} (h : Small n) : BN 100 n := by
  have h1 := h.1
  have h2 := h.2
  have h3 : n.natAbs < 10 ^ 30 := by omega
  exact Nat.lt_trans h3 (by decide +kernel)
theorem sumOf_bn {ps : List (Str × Int)} (h : GoodPs ps) (hl : ps.length ≤ 1000) (z : Str) : BN 110 (sumOf ps z) := by
  obtain ⟨a, b⟩ := sumOf_small z h
  have : (sumOf ps z).natAbs ≤ 10 ^ 30 * 1000 := by omega
  exact Nat.lt_of_le_of_lt this (by decide +kernel)
theorem nodup_len : ∀ {zs W : List Str}, zs.Nodup → (∀ z ∈ zs, z ∈ W) → zs.length ≤ W.length
  | [], _, _, _ => Nat.zero_le _
  | z :: zs, W, nd, hs => by
    obtain ⟨n1, n2⟩ := List.nodup_cons.mp nd
    have hz := hs z List.mem_cons_self
    have ih := nodup_len (zs := zs) (W := W.erase z) n2 fun y hy => (List.mem_erase_of_ne (by rintro rfl; exact n1 hy)).mpr (hs y (List.mem_cons_of_mem _ hy))
    rw [List.length_erase_of_mem hz] at ih
    have : 0 < W.length := List.length_pos_of_mem hz
    rw [List.length_cons]
    omega
theorem tab_len {W : List Str} {u : Tab} (nd : (keys u).Nodup) (h : ∀ z ∈ keys u, z ∈ W) : u.length ≤ W.length := by
  rw [← keys_len]
  exact nodup_len nd h
/-- the words of counts are among those of their model -/
theorem held_in {t u : Tab} (h : Held t) (e : ∀ z, val t z = val u z) : ∀ z ∈ keys t, z ∈ keys u := fun z m => by
  have := (h.keys_iff z).mp m
  rw [e] at this
  exact Classical.byContradiction fun q => this (val_outK q)
/-- the five changes -/
def opM (mode n a b : Int) : Int := if mode = 0 then a + b else if mode = 1 then a - b else if mode = 2 then (if b < a then b else a) else if mode = 3 then (if b > a then b else a) else n * a
theorem opM_bn {k : Nat} {mode n a b : Int} (hn : BN 100 n) (ha : BN k a) (hb : BN k b) : BN (k + 100) (opM mode n a b) := by
  unfold opM
  split
  · exact (ha.add hb).up (by omega)
  split
  · exact (ha.sub hb).up (by omega)
  split
  · split
    · exact hb.up (by omega)
    · exact ha.up (by omega)
  split
  · split
    · exact hb.up (by omega)
    · exact ha.up (by omega)
  · rw [Nat.add_comm]
    exact hn.mul ha
theorem opM_zero (mode n : Int) : opM mode n 0 0 = 0 := by
  unfold opM
  split
  · rfl
  split
  · rfl
  split
  · rfl
  split
  · rfl
  · exact Int.mul_zero n
end Cs

set_option Elab.async false
set_option linter.all false
set_option maxRecDepth 100000
set_option maxHeartbeats 4000000
/-! Comparisons of an own class: == by its own __eq__, != by object.__ne__; dicts of words and integers compared. -/
namespace Cs
open PySem PySem.Spec PyProof.Rows L2
section
variable {M : Model} {prog : Program} {w : World} {A : Around} {E : Value → Shared → Prop} {s : Shared} {K : PySem.W.Frag} {x C f : Addr} {ox : Obj} {od : Option Obj}
theorem ifBound_objNe {args : List Value} {Q : Option Value → Shared → Prop} (X : K.In s.heap) (I : PySem.W.InstAt s.heap x ox C od) (hs : PySem.W.findIn K (.ref C) "__ne__" = some (some (.builtin "object.__ne__")))
    (h : wpAny M A (call (.builtin "object.__ne__") (.ref x :: args)) (fun v => Q (some v)) E s) : wpAny M A (callSpecialIfBound? (.ref x) "__ne__" args) Q E s := by
  simp only [callSpecialIfBound?, bindSpecialIfBound?]
  refine wpAny_holding (wpAny_bind (wpAny_bind (wpAny_bind (I.type.here ((PySem.W.looks_findIn X hs).here ?_)))))
  refine wpAny_bind (wpAny_askSetting (wpAny_ite ?_))
  have fin : wpAny M A (call (.builtin "object.__ne__") ([.ref x] ++ args) >>= fun v => pure (some v)) Q E s := wpAny_bind (wpAny_mono h (fun v s' h' => wpAny_pure h') fun _ _ h' => h')
  split
  · exact wpAny_bind (wpAny_of_eq (F.cmp_object.ne.bind _) (wpAny_pure (by exact fin)))
  · exact wpAny_tryCatch (wpAny_bind (wpAny_of_eq (F.cmp_object.ne.bind _) (wpAny_pure (by exact fin))))
theorem objNe_own {b : Value} {Q : Fin → Shared → Prop} (hu : A.units < cLine) (X : K.In s.heap) (I : PySem.W.InstAt s.heap x ox C od) (hs : PySem.W.findIn K (.ref C) "__eq__" = some (some (.ref f))) (hf : PySem.W.isFn K (.ref f) = true)
    (h : wpAny (model prog w) A (call (.ref f) [.ref x, b]) (fun v s' => ∃ k, v = .bool k ∧ Q (.done (.ret (.bool (!k)))) s') E s) : wpAny (model prog w) A (Builtin.«object.__ne__» ⟨[.ref x, b], []⟩) Q E s := by
  unfold Builtin.«object.__ne__»
  repeat (first
    | with_reducible refine wpAny_cRoomFor hu ?_
    | (refine wpAny_bind (m := callSpecialIfBound? (.ref x) (Str.ofString "__eq__") [b])
        (PySem.W.ifBound_K X I hs hf (wpAny_mono h (fun r s' hr => by
          obtain ⟨b, rfl, hq⟩ := hr
          repeat (first | exact hq | exact wpAny_pure hq | exact wpAny_truthy_bool hq | (refine wpAny_bind (m := truthy (.bool _)) (wpAny_truthy_bool ?_)) | wp_step)) fun _ _ e => e)))
    | wp_step)
theorem call_objNe {b : Value} {Q : Value → Shared → Prop} (hu : A.units + 1 < cLine) (X : K.In s.heap) (I : PySem.W.InstAt s.heap x ox C od) (hm : PySem.W.mroIn K C (.type "object") = some true) (hs : PySem.W.findIn K (.ref C) "__eq__" = some (some (.ref f))) (hf : PySem.W.isFn K (.ref f) = true)
    (h : wpAny (model prog w) A.in1 (call (.ref f) [.ref x, b]) (fun v s' => ∃ k, v = .bool k ∧ Q (.bool (!k)) s') E s) : wpAny (model prog w) A (call (.builtin "object.__ne__") [.ref x, b]) Q E s :=
  wpAny_call (codeAny_call_builtin F.cmp_object.ne.plain F.cmpEntry_ne (PySem.W.check_slot F.cmpKind_ne F.cmpSplit_ne (I.type.andThen (PySem.W.looks_mroIn X hm)) (F.cmpArgs_ne _ _) (objNe_own (A := A.in1) hu X I hs hf (wpAny_mono h (fun v s' z => by
    obtain ⟨k, rfl, q⟩ := z
    exact ⟨k, rfl, q⟩) fun _ _ e => e))))
theorem ne_own {b tb : Value} {Q : Value → Shared → Prop} (hu : A.units + 1 < cLine) (X : K.In s.heap) (I : PySem.W.InstAt s.heap x ox C od) (hb : PySem.W.Looks (model prog w) s.heap (typeOf b) tb) (hn : PySem.W.notFirst K C tb = true)
    (hm : PySem.W.mroIn K C (.type "object") = some true) (hne : PySem.W.findIn K (.ref C) "__ne__" = some (some (.builtin "object.__ne__"))) (hs : PySem.W.findIn K (.ref C) "__eq__" = some (some (.ref f))) (hf : PySem.W.isFn K (.ref f) = true)
    (h : wpAny (model prog w) A.in1 (call (.ref f) [.ref x, b]) (fun v s' => ∃ k, v = .bool k ∧ Q (.bool (!k)) s') E s) : wpAny (model prog w) A (compareOp .NotEq (.ref x) b) Q E s := by
  have one : wpAny (model prog w) A (tryCompare (.ref x) "__ne__" b) (fun r s' => ∃ v, r = some v ∧ Q v s') E s := by
    unfold tryCompare
    refine wpAny_bind (ifBound_objNe X I hne (call_objNe hu X I hm hs hf (wpAny_mono h (fun v s' z => ?_) fun _ _ e => e)))
    obtain ⟨k, rfl, q⟩ := z
    exact ⟨k, rfl, wpAny_pure ⟨_, rfl, q⟩⟩
  show wpAny (model prog w) A (richCompare .NotEq (.ref x) b) Q E s
  unfold richCompare
  simp only [oneThing_ref]
  refine wpAny_holding (wpAny_bind (wpAny_cRoomFor (Nat.lt_of_succ_lt hu) ?_))
  refine wpAny_bind (I.type.here (wpAny_bind (hb.here ?_)))
  split
  · rename_i q
    have e : PySem.W.subIn K tb (.ref C) = some false := by
      rcases Bool.or_eq_true_iff.mp hn with e | e
      · rw [beq_iff_eq.mp e] at q; simp at q
      · exact beq_iff_eq.mp e
    refine wpAny_bind ((PySem.W.looks_subIn X e).here ?_)
    simp only [Bool.false_eq_true, if_false]
    refine wpAny_bind (wpAny_mono one (fun r s' z => ?_) fun _ _ e => e)
    obtain ⟨v, rfl, hq⟩ := z
    exact wpAny_pure hq
  · refine wpAny_bind (wpAny_pure ?_)
    simp only [Bool.false_eq_true, if_false]
    refine wpAny_bind (wpAny_mono one (fun r s' z => ?_) fun _ _ e => e)
    obtain ⟨v, rfl, hq⟩ := z
    exact wpAny_pure hq
end
section
variable {X : Cx} {CX : CXT} {k : Nat} {f C : Addr} {fd : FuncData} {ps : List Str} {sp : Sp} {E : XK}
/-- what == and != ask of the class -/
structure EqC (K : PySem.W.Frag) (C f : Addr) : Prop where
  at_ : PySem.W.findIn K (.ref C) "__eq__" = some (some (.ref f))
  fn : PySem.W.isFn K (.ref f) = true
  ne : PySem.W.findIn K (.ref C) "__ne__" = some (some (.builtin "object.__ne__"))
  hm : PySem.W.mroIn K C (.type "object") = some true
theorem first_self {K : PySem.W.Frag} : PySem.W.notFirst K C (.ref C) = true := by simp [PySem.W.notFirst]
def rEqO (C : Addr) (sp : Sp) (E : XK) : R2 := fun x y H Q => ∃ p q dp dq fp fq, x = .ref p ∧ y = .ref q ∧ H p = some (.ins C dp fp) ∧ H q = some (.ins C dq fq) ∧ sp [.ref p, .ref q] H Q E
def rNeO (C : Addr) (sp : Sp) (E : XK) : R2 := fun x y H Q => ∃ p q dp dq fp fq, x = .ref p ∧ y = .ref q ∧ H p = some (.ins C dp fp) ∧ H q = some (.ins C dq fq) ∧ sp [.ref p, .ref q] H (fun v H' => ∃ b, v = .bl b ∧ Q (.bl (!b)) H') E
theorem op_eqO (c : EqC X.K C f) (F : FnOk X.prog X.w X.K X.mg X.base CX k f fd ps sp) (hr : Room k X.A) (hb : Binds X.K fd ps []) (hx : Passes CX X E) : OpR X (compareOp .Eq) (rEqO C sp E) := by
  intro pins s σ H x y v u Q I rx ry h
  obtain ⟨p, q, dp, dq, fp, fq, rfl, rfl, hp, hq, k⟩ := h
  cases rx
  cases ry
  obtain ⟨ox, od, J, _⟩ := ins_inst I hp
  obtain ⟨oy, oe, J2, _⟩ := ins_inst I hq
  obtain ⟨m, Fr⟩ := I.fr
  show wpAny _ _ (richCompare .Eq (.ref p) (.ref q)) _ _ _
  refine PySem.W.cmp_K (op := .Eq) (tb := .ref C) hr.units0 Fr I.ok.mod.kin J J2.type first_self c.at_ c.fn ?_
  exact wpAny_mono (run_fn (us := [.ref p, .ref q]) (vs := [.ref p, .ref q]) (dvs := []) F hr hb .nil hx I (.cons rfl (.cons rfl .nil)) k) (fun v s' z => back_of z) fun _ _ z => z
theorem op_neO (c : EqC X.K C f) (F : FnOk X.prog X.w X.K X.mg X.base CX k f fd ps sp) (hr : Room (k + 1) X.A) (hb : Binds X.K fd ps []) (hx : Passes CX X E) : OpR X (compareOp .NotEq) (rNeO C sp E) := by
  intro pins s σ H x y v u Q I rx ry h
  obtain ⟨p, q, dp, dq, fp, fq, rfl, rfl, hp, hq, k⟩ := h
  cases rx
  cases ry
  obtain ⟨ox, od, J, _⟩ := ins_inst I hp
  obtain ⟨oy, oe, J2, _⟩ := ins_inst I hq
  refine ne_own (hu_of hr) I.kIn J J2.type first_self c.hm c.ne c.at_ c.fn ?_
  refine wpAny_mono (run_fn1 (us := [.ref p, .ref q]) (vs := [.ref p, .ref q]) F hr hb hx I (.cons rfl (.cons rfl .nil)) k) (fun v s' z => ?_) fun _ _ z => z
  obtain ⟨v', H', I', rv, b, rfl, qq⟩ := z
  cases rv
  exact ⟨b, rfl, .bl (!b), H', I', rfl, qq⟩
end
/-! ### dicts of words and integers -/
def allIn (t u : Tab) : Bool := t.all fun q => decide (look u q.1 = some q.2)
theorem hits_tab {A : Around} {s : Shared} {u : Tab} {vb : List (Key × Value)} (rb : KV (tv u) vb) : ∀ {t : Tab} {va : List (Key × Value)}, KV (tv t) va → PySem.W.KeqHits A s vb va (allIn t u)
  | [], _, .nil => .nil
  | q :: t, (k, v) :: va, .cons ⟨h1, h2⟩ r => by
    have h1' : (Sum.inr q.1 : Key) = k := h1
    obtain ⟨tk, rfl⟩ : ∃ tk, v = Value.int q.2 tk := h2
    subst h1'
    have rr : RelO (valV (tv u) (Sum.inr q.1)) (valueAt vb (Sum.inr q.1)) := rb.val _
    rw [tv_val] at rr
    have e : allIn (q :: t) u = (decide (look u q.1 = some q.2) && allIn t u) := rfl
    rw [e]
    cases hl : look u q.1 with
    | none =>
      rw [hl] at rr
      rw [show decide ((none : Option Int) = some q.2) = false from rfl, Bool.false_and]
      exact .miss (by cases hv : valueAt vb (Sum.inr q.1 : Key) with
        | none => rfl
        | some y => rw [hv] at rr; exact absurd rr (by intro z; cases z))
    | some n =>
      rw [hl] at rr
      obtain ⟨y, hy, ry⟩ := RelO.some_of rr
      obtain ⟨tk2, rfl⟩ : ∃ tk, y = Value.int n tk := ry
      have e2 : decide (some n = some q.2) = (q.2 == n) := by
        by_cases c : q.2 = n
        · rw [c]
          simp
        · rw [decide_eq_false (fun z => c (Option.some.inj z).symm)]
          exact (beq_eq_false_iff_ne.mpr c).symm
      rw [e2]
      exact .hit hy (SeqAt.EqAt.int_int _ _ _ _) (hits_tab rb r)
section
variable {X : Cx}
def rEqT : R2 := fun x y H Q => ∃ a b t u, x = .ref a ∧ y = .ref b ∧ H a = some (.dK (tv t)) ∧ H b = some (.dK (tv u)) ∧ Q (.bl (t.length == u.length && allIn t u)) H
def rNeT : R2 := fun x y H Q => ∃ a b t u, x = .ref a ∧ y = .ref b ∧ H a = some (.dK (tv t)) ∧ H b = some (.dK (tv u)) ∧ Q (.bl (!(t.length == u.length && allIn t u))) H
theorem op_eqT (hu : X.A.units < cLine) : OpR X (compareOp .Eq) rEqT := by
  intro pins s σ H x y v u Q I rx ry h
  obtain ⟨a, b, t, u', rfl, rfl, ea, eb, q⟩ := h
  obtain rfl : v = Value.ref a := rx
  obtain rfl : u = Value.ref b := ry
  obtain ⟨_, ya, va, ra, da⟩ := (show ObjOk X.prog X.w H s.heap a (.dK (tv t)) from I.hok a _ ea)
  obtain ⟨_, yb, vb, rb, db⟩ := (show ObjOk X.prog X.w H s.heap b (.dK (tv u')) from I.hok b _ eb)
  have h1 : va.length = t.length := by rw [← ra.length]; exact tv_len t
  have h2 : vb.length = u'.length := by rw [← rb.length]; exact tv_len u'
  exact PySem.W.keq_eq (knd := mixKind X.prog X.w) (r := allIn t u') ya yb da db hu (fun _ => hits_tab rb ra) (fin_bl I q (by rw [h1, h2]))
theorem op_neT (hu : X.A.units < cLine) : OpR X (compareOp .NotEq) rNeT := by
  intro pins s σ H x y v u Q I rx ry h
  obtain ⟨a, b, t, u', rfl, rfl, ea, eb, q⟩ := h
  obtain rfl : v = Value.ref a := rx
  obtain rfl : u = Value.ref b := ry
  obtain ⟨_, ya, va, ra, da⟩ := (show ObjOk X.prog X.w H s.heap a (.dK (tv t)) from I.hok a _ ea)
  obtain ⟨_, yb, vb, rb, db⟩ := (show ObjOk X.prog X.w H s.heap b (.dK (tv u')) from I.hok b _ eb)
  have h1 : va.length = t.length := by rw [← ra.length]; exact tv_len t
  have h2 : vb.length = u'.length := by rw [← rb.length]; exact tv_len u'
  exact PySem.W.keq_ne (knd := mixKind X.prog X.w) (r := allIn t u') ya yb da db hu (fun _ => hits_tab rb ra) (fin_bl I q (by rw [h1, h2]))
end
end Cs

set_option Elab.async false
set_option linter.all false
set_option maxRecDepth 100000
set_option maxHeartbeats 4000000
/-! Counts compared. -/
namespace Cs
open PySem L2
theorem same_tab {t u : Tab} (ht : Held t) (hu : Held u) : ((t.length == u.length && allIn t u) = true) ↔ ∀ z, val t z = val u z := by
  rw [Bool.and_eq_true, beq_iff_eq]
  unfold allIn
  rw [List.all_eq_true]
  constructor
  · rintro ⟨hl, ha⟩ z
    have sub : ∀ z ∈ keys t, z ∈ keys u := fun z hz => by
      obtain ⟨n, _, hm⟩ := look_some hz
      have := of_decide_eq_true (ha _ hm)
      exact Classical.byContradiction fun q => by rw [look_none q] at this; cases this
    by_cases c : z ∈ keys t
    · obtain ⟨n, hn, hm⟩ := look_some c
      have := of_decide_eq_true (ha _ hm)
      unfold val
      rw [hn, this]
    · have c2 : z ∉ keys u := fun q => by
        have := nodup_len (zs := z :: keys t) (W := keys u) (List.nodup_cons.mpr ⟨c, ht.nd⟩) fun y hy => (List.mem_cons.mp hy).elim (fun e => e ▸ q) (sub y)
        rw [List.length_cons, keys_len, keys_len] at this
        omega
      rw [val_outK c, val_outK c2]
  · intro h
    refine ⟨?_, fun q hq => decide_eq_true ?_⟩
    · have h1 := nodup_len (zs := keys t) (W := keys u) ht.nd fun z hz => (hu.keys_iff z).mpr (h z ▸ (ht.keys_iff z).mp hz)
      have h2 := nodup_len (zs := keys u) (W := keys t) hu.nd fun z hz => (ht.keys_iff z).mpr ((h z).symm ▸ (hu.keys_iff z).mp hz)
      rw [keys_len, keys_len] at h1 h2
      omega
    · have hz : q.1 ∈ keys u := by
        rw [hu.keys_iff, ← h]
        exact (ht.keys_iff _).mp (List.mem_map.mpr ⟨q, hq, rfl⟩)
      obtain ⟨n, hn, _⟩ := look_some hz
      have h1 := look_mem ht.nd (show (q.1, q.2) ∈ t from hq)
      have h2 := h q.1
      unfold val at h2
      rw [h1, hn] at h2
      rw [hn]
      exact congrArg some (show n = q.2 from h2.symm)
structure EDef (P : Program) (w : World) (K : PySem.W.Frag) (mg : Str → Option Value) (base : Heap) (CX : CXT) (k : Nat) (C : Addr) (ps : List Str) (sp : Sp) (f : Addr) (fd : FuncData) : Prop where
  c : EqC K C f
  ok : FnOk P w K mg base CX k f fd ps sp
  b : Binds K fd ps []
def spEq (C : Addr) : Sp := fun vs H Q _ => ∃ (p d q e : Addr) (t u : Tab), vs = [.ref p, .ref q] ∧ Cnt C H p d t ∧ Cnt C H q e u ∧ ∀ b : Bool, (b = true ↔ ∀ z, val t z = val u z) → Q (.bl b) H
section
variable {P : Program} {w : World} {K : PySem.W.Frag} {mg : Str → Option Value} {base : Heap}
theorem ok_eq {C f : Addr} {fd : FuncData} {fI : Addr} (F : Fun K "__eq__" "Counts.__eq__" s_Counts_eq f fd) (g : Bi mg) (T : CT P w K mg base C fI) (ci : CI K C) : FnOk P w K mg base CX0 1 f fd ["self", "other"] (spEq C) := by
  refine F.ok sc_Counts_eq (fun vs H Q E h => ?_) (fun cdv A outer s H vs Q E hr h => ?_)
  · obtain ⟨_, _, _, _, _, _, rfl, _⟩ := h
    rfl
  · obtain ⟨p, d, q, e, t, u, rfl, hc, hc2, k⟩ := h
    have hu := hu_of hr
    have hu0 := Nat.lt_of_succ_lt hu
    refine ⟨_, (pss_one (ps_ret (pe_and (pe_callB call_isi (by rfl) g.isinstance (by decide +kernel) (pa_cons (pv 1) (pa_cons (pe_glob (v := .ref C) rfl T.mgC rfl) pa_nil))) (pe_one (pe_cmpR (op_eqT hu0) (pe_fld (pv 0) rfl) (pe_fld (pv 1) rfl) (nomark _)))))), ?_⟩
    obtain ⟨⟨dx, hp⟩, hd, hh, _⟩ := id hc
    obtain ⟨⟨dx2, hq⟩, hd2, hh2, _⟩ := id hc2
    refine ⟨_, rfl, _, _, _, _, true, rfl, .own C, ci.ty hq, kit_self, _, rfl, iteT ?_⟩
    refine ⟨_, rfl, p, C, dx, _, _, rfl, hp, T.cl, T.nH, flds_held d, _, rfl, q, C, dx2, _, _, rfl, hq, T.cl, T.nH, flds_held e, ?_⟩
    exact ⟨d, e, t, u, rfl, rfl, hd, hd2, k _ (same_tab hh hh2)⟩
end
end Cs

set_option Elab.async false
set_option linter.all false
set_option maxRecDepth 100000
set_option maxHeartbeats 4000000
/-! Counts and models by their values alone; the operators at that level; rows of counts. -/
namespace Cs
open PySem L2
/-- counts at r with their dict at e: values F, at most n words -/
def Cv (n : Nat) (C : Addr) (H : Hp) (r e : Addr) (F : Str → Int) : Prop := ∃ t, Cnt C H r e t ∧ t.length ≤ n ∧ ∀ z, val t z = F z
def Mv (n : Nat) (H : Hp) (m : Addr) (F : Str → Int) : Prop := ∃ u, Mdl H m u ∧ u.length ≤ n ∧ ∀ z, val u z = F z
section
variable {n m : Nat} {C : Addr} {H H' : Hp} {p q d e r x : Addr} {F F1 F2 : Str → Int} {E : XK} {Q : VK} {G : Int → Int → Int} {G1 : Int → Int}
theorem Cv.same (s : Same H H') (h : Cv n C H r e F) : Cv n C H' r e F := by
  obtain ⟨t, a, b, c⟩ := h
  exact ⟨t, a.same s, b, c⟩
theorem Mv.same (s : Same H H') (h : Mv n H x F) : Mv n H' x F := by
  obtain ⟨t, a, b, c⟩ := h
  exact ⟨t, a.same s, b, c⟩
theorem Cv.up (h : Cv n C H r e F) (l : n ≤ m) : Cv m C H r e F := by
  obtain ⟨t, a, b, c⟩ := h
  exact ⟨t, a, Nat.le_trans b l, c⟩
theorem Cv.congr (h : Cv n C H r e F1) (k : ∀ z, F1 z = F2 z) : Cv n C H r e F2 := by
  obtain ⟨t, a, b, c⟩ := h
  exact ⟨t, a, b, fun z => (c z).trans (k z)⟩
theorem Mv.congr (h : Mv n H x F1) (k : ∀ z, F1 z = F2 z) : Mv n H x F2 := by
  obtain ⟨t, a, b, c⟩ := h
  exact ⟨t, a, b, fun z => (c z).trans (k z)⟩
theorem Cv.kp {c : Addr} (S : Src H p c) (k : Kp p H H') (h : Cv n C H r e F) : Cv n C H' r e F := by
  obtain ⟨t, a, b, c⟩ := h
  exact ⟨t, a.kp S k, b, c⟩
theorem Mv.kp {c : Addr} (S : Src H p c) (k : Kp p H H') (h : Mv n H x F) : Mv n H' x F := by
  obtain ⟨t, a, b, c⟩ := h
  exact ⟨t, a.kp S k, b, c⟩
theorem Cv.at (h : Cv n C H r e F) : ∃ o, H e = some (.dK o) := by
  obtain ⟨t, a, _⟩ := h
  exact ⟨_, a.dc⟩
theorem Cv.ob (h : Cv n C H r e F) : ∃ dx fs, H r = some (.ins C dx fs) := by
  obtain ⟨t, ⟨⟨dx, a⟩, _⟩, _⟩ := h
  exact ⟨dx, _, a⟩
theorem Mv.at (h : Mv n H x F) : ∃ o, H x = some (.dK o) := by
  obtain ⟨t, a, _⟩ := h
  exact ⟨_, a.dc⟩
/-- what stays when the dict at e is changed -/
theorem Cv.keep {o : List (Key × V)} (he : H e = some (.dK o)) (kk : ∀ b o, H b = some o → b ≠ e → H' b = some o) (h : Cv n C H r d F) (n1 : d ≠ e) : Cv n C H' r d F := by
  obtain ⟨t, a, b, c⟩ := h
  exact ⟨t, Cnt.keep he kk a n1, b, c⟩
theorem Mv.keep (kk : ∀ b o, H b = some o → b ≠ e → H' b = some o) (h : Mv n H x F) (n1 : x ≠ e) : Mv n H' x F := by
  obtain ⟨t, a, b, c⟩ := h
  exact ⟨t, Mdl.keep kk a n1, b, c⟩
def NewV (n : Nat) (C : Addr) (H : Hp) (Q : VK) (F : Str → Int) : Prop := ∀ (r e : Addr) (H' : Hp), H r = none → H e = none → Same H H' → Cv n C H' r e F → Q (.ref r) H'
theorem NewV.of (k : NewV n C H Q F) : NewC C H Q F n := fun r e H' u hr he s hc hv hl => k r e H' hr he s ⟨u, hc, hl, hv⟩
theorem cv_bin (h1 : Cv n C H p d F1) (h2 : Cv m C H q e F2) (hn : n ≤ 400) (hm : m ≤ 400) (k : NewV (n + m) C H Q (fun z => G (F1 z) (F2 z))) : rBinO C (spBin C G) E (.ref p) (.ref q) H Q := by
  obtain ⟨t, a, b, c⟩ := h1
  obtain ⟨t2, a2, b2, c2⟩ := h2
  obtain ⟨⟨dx, hp⟩, _⟩ := id a
  obtain ⟨⟨dx2, hq⟩, _⟩ := id a2
  refine ⟨p, q, _, _, _, _, rfl, rfl, hp, hq, p, d, q, e, t, t2, rfl, a, a2, by omega, by omega, fun r e' H' u hr he s hc hv hl => k r e' H' hr he s ⟨u, hc, by omega, fun z => ?_⟩⟩
  rw [hv]
  dsimp only
  rw [c, c2]
theorem cv_neg (h1 : Cv n C H p d F1) (hn : n ≤ 1000) (k : NewV n C H Q (fun z => G1 (F1 z))) : rNegO C (spUn C G1) E (.ref p) H Q := by
  obtain ⟨t, a, b, c⟩ := h1
  obtain ⟨⟨dx, hp⟩, _⟩ := id a
  refine ⟨p, _, _, rfl, hp, p, d, t, rfl, a, by omega, fun r e' H' u hr he s hc hv hl => k r e' H' hr he s ⟨u, hc, by omega, fun z => ?_⟩⟩
  rw [hv]
  dsimp only
  rw [c]
theorem cv_abs (h1 : Cv n C H p d F1) (hn : n ≤ 1000) (k : NewV n C H Q (fun z => G1 (F1 z))) : rAbsO C (spUn C G1) E [.ref p] H Q := by
  obtain ⟨t, a, b, c⟩ := h1
  obtain ⟨⟨dx, hp⟩, _⟩ := id a
  refine ⟨p, _, _, rfl, hp, p, d, t, rfl, a, by omega, fun r e' H' u hr he s hc hv hl => k r e' H' hr he s ⟨u, hc, by omega, fun z => ?_⟩⟩
  rw [hv]
  dsimp only
  rw [c]
theorem cv_mul {i : Int} (h1 : Cv n C H p d F1) (hn : n ≤ 1000) (hb : ∀ z, i.natAbs.log2 + (F1 z).natAbs.log2 < 1000000) (k : NewV n C H Q (fun z => i * F1 z)) : rBinI C (spMul C) E (.ref p) (.int i) H Q := by
  obtain ⟨t, a, b, c⟩ := h1
  obtain ⟨⟨dx, hp⟩, _⟩ := id a
  refine ⟨p, _, _, i, rfl, rfl, hp, p, d, t, i, rfl, a, by omega, fun z => by rw [c]; exact hb z, fun r e' H' u hr he s hc hv hl => k r e' H' hr he s ⟨u, hc, by omega, fun z => ?_⟩⟩
  rw [hv]
  dsimp only
  rw [c]
theorem cv_mulR {i : Int} (h1 : Cv n C H p d F1) (hn : n ≤ 1000) (hb : ∀ z, i.natAbs.log2 + (F1 z).natAbs.log2 < 1000000) (k : NewV n C H Q (fun z => i * F1 z)) : rMulR C (spMul C) E (.int i) (.ref p) H Q := by
  obtain ⟨t, a, b, c⟩ := h1
  obtain ⟨⟨dx, hp⟩, _⟩ := id a
  refine ⟨p, _, _, i, rfl, rfl, hp, p, d, t, i, rfl, a, by omega, fun z => by rw [c]; exact hb z, fun r e' H' u hr he s hc hv hl => k r e' H' hr he s ⟨u, hc, by omega, fun z => ?_⟩⟩
  rw [hv]
  dsimp only
  rw [c]
theorem cv_equal (h1 : Cv n C H p d F1) (h2 : Mv m H x F2) (hn : n ≤ 1000) (hm : m ≤ 63) (hF : ∀ z, F1 z = F2 z) (k : ∀ H', Same H H' → Q (.bl true) H') : spEqual C [.ref p, .ref x] H Q E := by
  obtain ⟨t, a, b, c⟩ := h1
  obtain ⟨u, a2, b2, c2⟩ := h2
  exact ⟨p, d, x, t, u, rfl, a, by omega, a2, by omega, fun z => by rw [c, c2, hF], k⟩
theorem cv_ne (h1 : Cv n C H p d F1) (h2 : Cv m C H q e F2) (hF : ∀ z, F1 z = F2 z) (k : Q (.bl false) H) : rNeO C (spEq C) E (.ref p) (.ref q) H Q := by
  obtain ⟨t, a, b, c⟩ := h1
  obtain ⟨u, a2, b2, c2⟩ := h2
  obtain ⟨⟨dx, hp⟩, _⟩ := id a
  obtain ⟨⟨dx2, hq⟩, _⟩ := id a2
  refine ⟨p, q, _, _, _, _, rfl, rfl, hp, hq, p, d, q, e, t, u, rfl, a, a2, fun b hb => ⟨b, rfl, ?_⟩⟩
  rw [hb.mpr fun z => by rw [c, c2, hF]]
  exact k
theorem cv_eq (h1 : Cv n C H p d F1) (h2 : Cv m C H q e F2) (k : ∀ b : Bool, (b = true ↔ ∀ z, F1 z = F2 z) → Q (.bl b) H) : rEqO C (spEq C) E (.ref p) (.ref q) H Q := by
  obtain ⟨t, a, b, c⟩ := h1
  obtain ⟨u, a2, b2, c2⟩ := h2
  obtain ⟨⟨dx, hp⟩, _⟩ := id a
  obtain ⟨⟨dx2, hq⟩, _⟩ := id a2
  refine ⟨p, q, _, _, _, _, rfl, rfl, hp, hq, p, d, q, e, t, u, rfl, a, a2, fun b hb => k b ?_⟩
  rw [hb]
  exact ⟨fun h z => by rw [← c, ← c2, h], fun h z => by rw [c, c2, h]⟩
/-- C() -/
theorem cv_empty (x dx : Addr) (hx : H x = none) (hdx : H dx = none) (k : ∀ e H', H e = none → Same H H' → Cv 0 C H' x e (fun _ => 0) → Q .non H') : spInit C [.ref x] (upd (upd H dx (.own x)) x (.ins C dx [])) Q E := by
  have sMk := made (C := C) hx hdx
  refine ⟨x, dx, [], [], rfl, upd_same, .nil, by show 0 ≤ 1000; decide, (fun _ h => nomatch h), fun e H' he hc kp => ?_⟩
  exact k e H' (sMk.free he) (fun b o e1 => kp b o (sMk _ _ e1) (ne_of_none e1 hx)) ⟨_, hc, Nat.zero_le _, fun _ => rfl⟩
end
theorem tNil_it {σ : L2.St} {H : Hp} {k : List V → Hp → Prop} (h : k [] H) : tNil σ H k := h
/-! rows of counts -/
def RcOk (n : Nat) (C : Addr) (H : Hp) (x : V) (e : Addr) : Prop := ∃ r F, x = .ref r ∧ Cv n C H r e F
structure RCs (n : Nat) (C : Addr) (S : List Addr) (H : Hp) (xs : List V) (es : List Addr) : Prop where
  ok : Paired (RcOk n C H) xs es
  pw : es.Pairwise (· ≠ ·)
  own : ∀ e ∈ es, e ∉ S
  ex : ∀ s ∈ S, ∃ o, H s = some o
section
variable {n : Nat} {C : Addr} {S : List Addr} {H H' : Hp} {xs : List V} {es : List Addr}
theorem RcOk.same {x : V} {e : Addr} (s : Same H H') (h : RcOk n C H x e) : RcOk n C H' x e := by
  obtain ⟨r, F, a, b⟩ := h
  exact ⟨r, F, a, b.same s⟩
theorem RCs.same (s : Same H H') (h : RCs n C S H xs es) : RCs n C S H' xs es := ⟨L2.Paired.mapP h.ok fun _ _ r => r.same s, h.pw, h.own, fun b m => by
  obtain ⟨o, e⟩ := h.ex b m
  exact ⟨o, s _ _ e⟩⟩
theorem rcs_at : ∀ {xs : List V} {es : List Addr}, Paired (RcOk n C H) xs es → ∀ e ∈ es, ∃ o, H e = some o
  | _, _, .nil, _, h => nomatch h
  | _, _, .cons r t, e, h => by
    rcases List.mem_cons.mp h with q | q
    · subst q
      obtain ⟨r, F, _, c⟩ := r
      obtain ⟨o, a⟩ := c.at
      exact ⟨_, a⟩
    · exact rcs_at t e q
theorem RCs.nil (h : ∀ s ∈ S, ∃ o, H s = some o) : RCs n C S H [] [] := ⟨.nil, .nil, (fun _ h => nomatch h), h⟩
theorem RCs.snoc {r e : Addr} {F : Str → Int} (h : RCs n C S H xs es) (s : Same H H') (f1 : H e = none) (c : Cv n C H' r e F) : RCs n C S H' (xs ++ [.ref r]) (es ++ [e]) := by
  have hS := h.same s
  refine ⟨pair_snoc hS.ok ⟨r, F, rfl, c⟩, ?_, ?_, hS.ex⟩
  · rw [List.pairwise_append]
    refine ⟨h.pw, List.pairwise_singleton _ _, fun a ha b hb => ?_⟩
    rw [List.mem_singleton.mp hb]
    obtain ⟨_, h1⟩ := rcs_at h.ok a ha
    exact ne_of_none h1 f1
  · intro a ha
    rcases List.mem_append.mp ha with qa | qa
    · exact h.own a qa
    · rw [List.mem_singleton.mp qa]
      intro q
      obtain ⟨o, e'⟩ := h.ex _ q
      exact ne_of_none e' f1 rfl
theorem rcs_step {e : Addr} {o : List (Key × V)} (he : H e = some (.dK o)) (kk : ∀ b o, H b = some o → b ≠ e → H' b = some o) : ∀ {xs : List V} {es : List Addr}, Paired (RcOk n C H) xs es → (∀ b ∈ es, e ≠ b) → Paired (RcOk n C H') xs es
  | _, _, .nil, _ => .nil
  | _, _, .cons hr tl, hd => by
    refine .cons ?_ (rcs_step he kk tl fun b hb => hd b (List.mem_cons_of_mem _ hb))
    obtain ⟨r, F, a, c⟩ := hr
    exact ⟨r, F, a, c.keep he kk (hd _ List.mem_cons_self).symm⟩
end
end Cs

set_option Elab.async false
set_option linter.all false
set_option maxRecDepth 100000
set_option maxHeartbeats 4000000
/-! [e for x in xs] by the values of e. -/
namespace Cs
open PySem L2
theorem same_new {H : Hp} {a : Addr} {o : HO} (h : H a = none) : Same H (upd H a o) := fun b u e => by rw [upd_ne (ne_of_none e h)]; exact e
theorem yes_of {σ : L2.St} {H : Hp} {A B : Hp → Prop} (h : A H) : tYes σ H (fun b H3 => if b = true then A H3 else B H3) := iteT (A := A H) (B := B H) h
section
variable {K : PySem.W.Frag} {a : Addr} {xs ys : List V} {j : Nat} {te : TE} {vs : List Nat} {σ : L2.St} {H1 : Hp} {D : Addr} {Qd : Hp → Prop}
theorem lc_vals (hy : ys.length = xs.length) (ha : H1 a = some (.lst xs)) (hD : H1 D = none) (hl : xs.length ≤ 1000) (hw : ∀ x, wipe ((wipe σ vs).set j (some x)) vs = wipe σ vs)
    (he : ∀ (i : Nat) (x y : V), xs[i]? = some x → ys[i]? = some y → ∀ H', Same H1 H' → ∀ Qe : VK, (∀ H'', Same H' H'' → Qe y H'') → te ((wipe σ vs).set j (some x)) H' Qe)
    (k : ∀ H', Same H1 H' → H' D = some (.lst ys) → Qd H') :
    ∃ W : Nat → Nat → Hp → Prop, (∃ m, W 0 m (upd H1 D (.lst []))) ∧ ∀ i m H, W i m H →
      ((Itl K a).stop i H ∧ Qd H) ∨ ((Itl K a).go i H ∧ ∃ Nx : Hp → Prop, (∀ H', Nx H' → ∃ m', m' < m ∧ W (i + 1) m' H') ∧ ∀ x H', (Itl K a).yld i H x H' → gName j x (wipe σ vs) H' fun σ2 H2 => wipe σ2 vs = wipe σ vs ∧ tYes σ2 H2 fun b H3 =>
        if b = true then te σ2 H3 fun y H4 => ∃ acc, H4 D = some (.lst acc) ∧ acc.length < sizeLine ∧ Nx (upd H4 D (.lst (acc ++ [y]))) else Nx H3) := by
  refine lc_it (walk_list (xs := xs)) (fun i H' => Same H1 H' ∧ H' D = some (.lst (ys.take i))) ⟨same_new hD, upd_same⟩ (fun i H' _ h => SqL.of (h.1 _ _ ha)) ?_ ?_
  · rintro i x H' H2 hi ⟨s', hD'⟩ ⟨rfl, hx⟩
    have hi2 : i < ys.length := by omega
    refine ⟨hw _, yes_of ?_⟩
    refine he i x ys[i] hx (List.getElem?_eq_getElem hi2) H2 s' _ fun H3 s3 => ?_
    refine ⟨_, s3 _ _ hD', ?_, fun b o q => ?_, ?_⟩
    · rw [List.length_take]
      exact Nat.lt_of_le_of_lt (show min i ys.length ≤ 1000 by omega) (by decide)
    · rw [upd_ne (ne_of_none q hD)]
      exact s3 _ _ (s' _ _ q)
    · rw [upd_same, List.take_succ, List.getElem?_eq_getElem hi2]
      rfl
  · rintro H' ⟨s', hD'⟩
    rw [← hy, List.take_length] at hD'
    exact k H' s' hD'
/-- the same over a tuple -/
theorem lc_valsT (hy : ys.length = xs.length) (ha : H1 a = some (.tup xs)) (hD : H1 D = none) (hl : xs.length ≤ 1000) (hw : ∀ x, wipe ((wipe σ vs).set j (some x)) vs = wipe σ vs)
    (he : ∀ (i : Nat) (x y : V), xs[i]? = some x → ys[i]? = some y → ∀ H', Same H1 H' → ∀ Qe : VK, (∀ H'', Same H' H'' → Qe y H'') → te ((wipe σ vs).set j (some x)) H' Qe)
    (k : ∀ H', Same H1 H' → H' D = some (.lst ys) → Qd H') :
    ∃ W : Nat → Nat → Hp → Prop, (∃ m, W 0 m (upd H1 D (.lst []))) ∧ ∀ i m H, W i m H →
      ((Itt K a).stop i H ∧ Qd H) ∨ ((Itt K a).go i H ∧ ∃ Nx : Hp → Prop, (∀ H', Nx H' → ∃ m', m' < m ∧ W (i + 1) m' H') ∧ ∀ x H', (Itt K a).yld i H x H' → gName j x (wipe σ vs) H' fun σ2 H2 => wipe σ2 vs = wipe σ vs ∧ tYes σ2 H2 fun b H3 =>
        if b = true then te σ2 H3 fun y H4 => ∃ acc, H4 D = some (.lst acc) ∧ acc.length < sizeLine ∧ Nx (upd H4 D (.lst (acc ++ [y]))) else Nx H3) := by
  refine lc_it (walk_tup (xs := xs)) (fun i H' => Same H1 H' ∧ H' D = some (.lst (ys.take i))) ⟨same_new hD, upd_same⟩ (fun i H' _ h => SqT.of (h.1 _ _ ha)) ?_ ?_
  · rintro i x H' H2 hi ⟨s', hD'⟩ ⟨rfl, hx⟩
    have hi2 : i < ys.length := by omega
    refine ⟨hw _, yes_of ?_⟩
    refine he i x ys[i] hx (List.getElem?_eq_getElem hi2) H2 s' _ fun H3 s3 => ?_
    refine ⟨_, s3 _ _ hD', ?_, fun b o q => ?_, ?_⟩
    · rw [List.length_take]
      exact Nat.lt_of_le_of_lt (show min i ys.length ≤ 1000 by omega) (by decide)
    · rw [upd_ne (ne_of_none q hD)]
      exact s3 _ _ (s' _ _ q)
    · rw [upd_same, List.take_succ, List.getElem?_eq_getElem hi2]
      rfl
  · rintro H' ⟨s', hD'⟩
    rw [← hy, List.take_length] at hD'
    exact k H' s' hD'
end
end Cs

set_option Elab.async false
set_option linter.all false
set_option maxRecDepth 100000
set_option maxHeartbeats 4000000
/-! Defs of an own class that say super().m(..): judged where the def's own code runs. -/
namespace Cs
open PySem PySem.W PySem.Spec L2 NdefX
/-! ### judgements at the def's own code -/
section
variable (X : Cx) (b : List Stmt)
structure PEA (e : Expr) (t : TE) : Prop where
  run : ∀ (pins : List (Addr × Obj)) (s : Shared) (σ : L2.St) (H : Hp) (Q : VK), Inv X pins σ H s → t σ H Q → PySem.wpAt (model X.prog X.w) X.A (.func b X.env) (eval e X.env) (EP X pins σ Q) X.xe s
structure PSA (st : Stmt) (t : TS) : Prop where
  run : ∀ (pins : List (Addr × Obj)) (s : Shared) (σ : L2.St) (H : Hp) (D : Ends), Inv X pins σ H s → t D σ H → PySem.wpAt (model X.prog X.w) X.A (.func b X.env) (exec st X.env) (SP X pins D) X.xe s
structure PSsA (sts : List Stmt) (t : TS) : Prop where
  run : ∀ (pins : List (Addr × Obj)) (s : Shared) (σ : L2.St) (H : Hp) (D : Ends), Inv X pins σ H s → t D σ H → PySem.wpAt (model X.prog X.w) X.A (.func b X.env) (execs sts X.env) (SP X pins D) X.xe s
end
section
variable {X : Cx} {b : List Stmt} {e e2 : Expr} {te te2 : TE} {st : Stmt} {sts : List Stmt} {t u : TS} {pos : Pos}
theorem PEA.of (h : PE X e te) : PEA X b e te := ⟨fun pins s σ H Q I q => wpAt_of_wpAny (h.run pins s σ H Q I q)⟩
theorem PSA.of (h : PS X st t) : PSA X b st t := ⟨fun pins s σ H D I q => wpAt_of_wpAny (h.run pins s σ H D I q)⟩
theorem PSsA.of (h : PSs X sts t) : PSsA X b sts t := ⟨fun pins s σ H D I q => wpAt_of_wpAny (h.run pins s σ H D I q)⟩
theorem pssa_cons (h1 : PSA X b st t) (h2 : PSsA X b sts u) : PSsA X b (st :: sts) (tSeq t u) := by
  refine ⟨fun pins s σ H D I h => ks_wpAt_execs_cons (ks_wpAt_mono (h1.run pins s σ H { D with nx := u D } I h) (fun f s1 q => ?_) fun _ _ z => z)⟩
  cases f with
  | next =>
    obtain ⟨σ', H', I', q⟩ := q
    exact h2.run pins s1 σ' H' D I' q
  | ret v => exact q
  | brk => exact q
  | cont => exact q
theorem pssa_one (h1 : PSA X b st t) : PSsA X b [st] t := by
  refine ⟨fun pins s σ H D I h => ks_wpAt_execs_cons (ks_wpAt_mono (h1.run pins s σ H D I h) (fun f s1 q => ?_) fun _ _ z => z)⟩
  cases f with
  | next => exact wpAt_of_wpAny (wpAny_execs_nil q)
  | ret v => exact q
  | brk => exact q
  | cont => exact q
theorem psa_expr (he : PEA X b e te) (hs : swapsWith e none pos.line X.env = pure false := by rfl) : PSA X b (.Expr e pos) (tDrop te) :=
  ⟨fun pins s σ H D I h => ks_wpAt_Expr_any (ks_wpAt_mono (he.run pins s σ H _ I h) (fun v s1 ⟨x, H1, I1, r1, q1⟩ => ⟨σ, H1, I1, q1⟩) fun _ _ z => z) I.quiet hs⟩
theorem psa_ret (he : PEA X b e te) : PSA X b (.Return (some e) pos) (tRet te) :=
  ⟨fun pins s σ H D I h => ks_wpAt_Return_some (ks_wpAt_mono (he.run pins s σ H _ I h) (fun v s1 ⟨x, H1, I1, r1, q1⟩ => ⟨x, σ, H1, I1, r1, q1⟩) fun _ _ z => z)⟩
theorem psa_if {c : Expr} {a o : List Stmt} {tc : TT} (hc : PT X c tc) (ha : PSsA X b a t) (hb : PSsA X b o u) : PSA X b (.If c a o pos) (tIfS tc t u) := by
  refine ⟨fun pins s σ H D I h => ks_wpAt_If (ks_wpAt_mono (wpAt_of_wpAny (hc.run pins s σ H _ I h)) (fun d s1 ⟨H1, I1, q1⟩ => ?_) fun _ _ z => z)⟩
  cases d with
  | true => exact ha.run pins s1 σ H1 D I1 q1
  | false => exact hb.run pins s1 σ H1 D I1 q1
theorem pea_op {op : Operator} {r : R2} (ho : OpR X (binaryOp op) r) (ha : PEA X b e te) (hb : PE X e2 te2) : PEA X b (.BinOp e op e2 pos) (tOp r te te2) := by
  refine ⟨fun pins s σ H Q I h => ks_wpAt_BinOp (ks_wpAt_mono (ha.run pins s σ H _ I h) (fun v s1 ⟨x, H1, I1, r1, q1⟩ => ?_) fun _ _ z => z)⟩
  exact thn (hb.run pins s1 σ H1 _ I1 q1) fun u s2 ⟨y, H2, I2, r2, q2⟩ => ho pins s2 σ H2 x y v u Q I2 r1 r2 q2
end
/-! ### super().m(..) -/
/-- what the text tells of a def that says super(): its class, its cell, its code -/
structure SupT (X : Cx) (f cda cc D : Addr) (ar : Str) : Prop where
  ks : X.env.kindOf "super" = some .globalImplicit
  kc : X.env.kindOf "__class__" = some .free
  fu : X.env.func = some f
  co : X.env.code = .ref cda
  cl : X.env.cells.lookup ("__class__" : Str) = some cc
  fn : ∃ oc od fd osl, X.K.lookup f = some ⟨oc, od, .func fd, osl⟩ ∧ ∃ a, (fd.params.posonlyargs ++ fd.params.args).head? = some a ∧ a.arg = ar
  code : ∃ ccl cdd vs ccs file tf, X.K.lookup cda = some ⟨ccl, cdd, .fields vs, ccs⟩ ∧ vs[2]? = some (.str file tf) ∧ ((X.prog.main.file : Str) == file) = true
  cell : ∃ cl cld csl, X.K.lookup cc = some ⟨cl, cld, .cell (some (.ref D)), csl⟩
  isD : PySem.W.isClsIn X.K D = true
  top : (X.prog.main.scope.names.lookup ("super" : Str)).isSome = false
  mg : X.mg "super" = none
  opq : PySem.W.nsIn X.K cStatics "thirdparty.any" = some none
  karg : X.env.kindOf ar = some .local
/-- from an object of the class at C, above D, the def found is f2 -/
structure Sup (K : PySem.W.Frag) (C D : Addr) (m : Str) (f2 : Addr) : Prop where
  sub : PySem.W.mroIn K C (.ref D) = some true
  at_ : PySem.W.ks_superIn K C D m = some (some (.ref f2))
  ty : PySem.W.typeIn K (.ref f2) = some (.type "function")
  fi : PySem.W.fnIn K f2 = true
theorem boot_super : bootBuiltins "super" = some (.type "super") := by decide +kernel
section
variable {X : Cx} {b : List Stmt} {CX : CXT} {k i : Nat} {f cda cc D : Addr} {ar m : Str} {E : XK} {p0 p1 sp_ apos pos : Pos} {e : Expr} {es : List Expr} {te : TE} {t : TA} {pl : Sem Bool}
/-- the object, the def found above, its promise -/
def SupAt (X : Cx) (CX : CXT) (k i : Nat) (D : Addr) (m : Str) (σ : L2.St) (H : Hp) (a : Addr) (sp : Sp) : Prop := ∃ C dx fs f2, σ[i]? = some (some (.ref a)) ∧ H a = some (.ins C dx fs) ∧ Sup X.K C D m f2 ∧ FnR X.prog X.w X.K X.mg X.base CX k f2 sp
/-- super() and the method behind it -/
theorem sup_meth {pins : List (Addr × Obj)} {s : Shared} {σ : L2.St} {H : Hp} {a : Addr} {sp : Sp} {whole : Sem Value} {Q : Value × List Value → Shared → Prop} (T : SupT X f cda cc D ar) (hN : X.N[i]? = some ar) (hm : (m == ("__class__" : Str)) = false) (I : Inv X pins σ H s) (h : SupAt X CX k i D m σ H a sp)
    (hq : ∀ q f2 s', X.base.get? q = none → PySem.W.fnIn X.K f2 = true → FnR X.prog X.w X.K X.mg X.base CX k f2 sp → Inv X ((q, PySem.W.methodObj (.ref f2) (.ref a)) :: pins) σ H s' → Q (.ref q, []) s') :
    PySem.wpAt (model X.prog X.w) X.A (.func b X.env) (attributeBase (.Call (.Name "super" p0) [] [] p1) m X.env whole) (fun ov s1 => wpAny (model X.prog X.w) X.A (getMethod ov m pl) Q X.xe s1) X.xe s := by
  obtain ⟨C, dx, fs, f2, hs, ha, S, F⟩ := h
  obtain ⟨oc, od, fd, osl, lf, ar', hp, ea⟩ := T.fn
  obtain ⟨ccl, cdd, vs, ccs, file, tf, lc, hvs, hfile⟩ := T.code
  obtain ⟨cl, cld, csl, lcell⟩ := T.cell
  obtain ⟨cdD, hD⟩ := Option.isSome_iff_exists.mp (show (PySem.W.clsIn X.K D).isSome = true from T.isD)
  obtain ⟨mA, O, _⟩ := ins_get I.hok ha
  obtain ⟨oi, J, _⟩ := O.look
  obtain ⟨mL, hloc, hlk⟩ := I.loc
  obtain ⟨u, ru, lk⟩ := hlk i ar (.ref a) hN hs (.inl T.karg)
  obtain rfl : u = Value.ref a := ru
  have hma : mL ar = some (.ref a) := by
    rcases lk with ⟨_, q⟩ | ⟨q, _⟩
    · exact q
    · rcases q with q | q <;> (rw [T.karg] at q; cases q)
  subst ea
  obtain ⟨oD, hD1, hD2⟩ : ∃ oD, s.heap.get? D = some oD ∧ oD.data = .cls cdD := by
    unfold PySem.W.clsIn at hD
    split at hD
    · rename_i c d cd' sl ho
      cases hD
      exact ⟨_, I.kIn _ _ ho, rfl⟩
    · cases hD
  refine ks_wpAt_super_base T.ks T.kc hm T.fu (I.kIn _ _ lf) rfl hp T.co (I.kIn _ _ lc) rfl hvs hfile T.top ?_
  obtain ⟨mb, hb1, hb2⟩ := I.mod.blt
  refine PySem.W.ks_loadName_global I.ok.kind T.ks (Calls.loadGlobal_builtin (by rw [I.ok.glob]; exact I.mod.glob.keeps I.bk) T.mg (by rw [I.ok.blt]; exact hb1.keeps I.bk) ((hb2 _ (by decide)).trans boot_super) ⟨rfl, ?_⟩)
  refine wpAny_loadName_free I.ok.kind T.kc T.cl ⟨_, I.kIn _ _ lcell, rfl⟩ ?_
  refine wpAny_loadName_local I.ok.kind T.karg hloc hma ?_
  obtain ⟨hh, g, dr, tk, os⟩ := s
  refine ks_wpAny_isType_cls hD1 hD2 ⟨rfl, ?_⟩
  refine ks_wpAny_call_super hD1 hD2 J.at_ J.cls (fun c e => ?_) (PySem.W.looks_mroIn I.kIn S.sub) (fun h' eso kp => ?_)
  · have := J.no
    unfold PySem.W.notCls at this
    rw [e] at this
    exact Bool.noConfusion this
  · have I2 : Inv X pins σ H { (⟨hh, g, dr, tk, os⟩ : Shared) with heap := h' } := I.kept (t' := tk) kp
    have hz : hh.objs.size < h'.objs.size := Heap.lt_size eso
    cases hc : PySem.W.clsIn X.K C with
    | none =>
      have := S.at_
      unfold PySem.W.ks_superIn at this
      rw [hc] at this
      cases this
    | some cd =>
      have hs2 := S.at_
      unfold PySem.W.ks_superIn at hs2
      rw [hc] at hs2
      obtain ⟨of, hof, hofc⟩ : ∃ of, h'.get? f2 = some of ∧ of.cls = .type "function" := by
        have ht' : (X.K.lookup f2).map (·.cls) = some (.type "function") := S.ty
        cases z : X.K.lookup f2 with
        | none => rw [z] at ht'; cases ht'
        | some of => rw [z] at ht'; exact ⟨of, I2.kIn _ _ z, Option.some.inj ht'⟩
      have J2 : PySem.W.InstAt h' a (instObj C dx) C (some oi) := ⟨kp _ _ J.at_, J.cls, J.no, kp _ _ J.dict⟩
      refine ks_wpAny_getMethod_super eso (PySem.W.looks_opaque I2.kIn T.opq) (l₀ := cd.mro) (fun A Q E s k q => wpAny_bind ((PySem.W.looks_clsIn I2.kIn hc) A _ E s k (wpAny_pure q))) rfl I2.kIn hs2 hof hofc (PySem.W.ks_ne I2.kIn J2 hc) hm ?_
      exact hq _ f2 _ (ClX.base_none I2 (Nat.le_refl _)) S.fi F (ClX.met_new I2)
end
/-- o.m of a super object, read as an attribute -/
theorem getAttr_super {prog : Program} {w : World} {A : Around} {E : Value → Shared → Prop} {h : Heap} {g : Array GenState} {d : Drawn} {t : Nat} {os : OsState} {so D x C f : Addr} {of : Obj} {l₀ l : List Value} {K : Frag} {name : Str} {Q : Value → Shared → Prop}
    (hso : h.get? so = some { cls := .type "super", dict := none, data := .fields #[.ref D, .ref x, .ref C], slots := #[] }) (hno : Looks (model prog w) h (opaqueClassAbove (.ref C)) none)
    (hC : Looks (model prog w) h (mroOf (.ref C)) l₀) (hl : (l₀.dropWhile (· != .ref D)).drop 1 = l) (X : K.In h)
    (hf : alongIn K name l = some (some (.ref f))) (hfo : h.get? f = some of) (hfc : of.cls = .type "function") (hxC : x ≠ C) (hn : (name == ("__class__" : Str)) = false)
    (hq : Q (.ref h.objs.size) ⟨h.push { cls := .type "method", data := .fields #[.ref f, .ref x] }, g, d, t + 1, os⟩) : wpAny (model prog w) A (getAttr (.ref so) name true) Q E ⟨h, g, d, t, os⟩ := by
  have hlk := F.ks_slot_super_ga.lookup
  have tyS : ∀ t', (⟨h, g, d, t', os⟩ : Shared).TypeIs (.ref so) "super" := fun _ => ⟨_, hso, rfl⟩
  unfold getAttr getAttrBy
  refine wpAny_bind (wpAny_mkText (wpAny_holding (wpAny_bind (wpAny_typeOf (tyS _) (wpAny_bind (wpAny_of_eq hlk ?_))))))
  show wpAny _ _ (getAttrByItsOwn (.ref so) (.str name t) (.type "super") (.builtin "super.__getattribute__") _ _) _ _ _
  unfold getAttrByItsOwn hookBefore callGetattribute boundAndCalled
  refine wpAny_bind (wpAny_of_eq (show (if onTheHeap (.type "super") then typeLookup (.type "super") "__getattr__" else pure none) = pure none from rfl) ?_)
  refine wpAny_bind (wpAny_attempt (wpAny_holding ?_))
  show wpAny _ _ (bindSpecial (.builtin "super.__getattribute__") (.ref so) >>= _) _ _ _
  refine wpAny_bind (wpAny_of_eq (F.ks_slot_super_ga.bind _) ?_)
  refine wpAny_mono (Q := fun v s' => v = .ref h.objs.size ∧ s' = ⟨h.push { cls := .type "method", data := .fields #[.ref f, .ref x] }, g, d, t + 1, os⟩) (E := fun _ _ => False)
    (wpAny_call_entry F.ks_slot_super_ga (tyS _) F.ks_entry_super_ga (ks_wpAny_super_ga hso hno hC hl X hf hfo hfc hxC hn ⟨_, rfl, rfl, rfl⟩) (F.ks_gaArgs_super _ _)) (fun v s' hv => ?_) fun _ _ z => z.elim
  obtain ⟨rfl, rfl⟩ := hv
  exact wpAny_pure hq
/-- o.m(.., *y) where the def's own code runs -/
theorem at_starcall {M : Model} {A : Around} {c : Code} {E : Value → Shared → Prop} {s : Shared} {env : Env} {o : Expr} {name : Str} {apos pos : Pos} {args : List Expr} {Q : Value → Shared → Prop} (hform : methodCallForm (args.length + ([] : List Keyword).length) (backTo pos (starEach args env)) (backToKw pos (keywordEach [] env)) = false)
    (h : PySem.wpAt M A c (attributeBase o name env (eval o env)) (fun ov s₁ => wpAny M A (getAttr ov name true) (fun f s₂ => wpAny M A (callWith pos f [] (backTo pos (starEach args env)) []) Q E s₂) E s₁) E s) : PySem.wpAt M A c (eval (.Call (.Attribute o name apos) args [] pos) env) Q E s := by
  rw [arm_eval_Call]
  refine PySem.wpAt_bind (PySem.wpAt_mono h (fun ov s₁ h₁ => wpAt_of_wpAny (wpAny_bind (wpAny_standAt ?_))) fun _ _ x => x)
  unfold methodCall
  rw [hform]
  refine wpAny_bind (wpAny_holding (wpAny_bind (wpAny_mono h₁ (fun f s₂ h₂ => wpAny_pure ?_) fun _ _ x => x)))
  exact wpAny_bind (wpAny_pure h₂)
section
variable {X : Cx} {b : List Stmt} {CX : CXT} {k i : Nat} {f cda cc D : Addr} {ar m : Str} {E : XK} {p0 p1 sp_ apos pos : Pos} {e : Expr} {es : List Expr} {te : TE} {t : TA} {pl : Sem Bool}
/-- super() and the method behind it, read as an attribute -/
theorem sup_attr {pins : List (Addr × Obj)} {s : Shared} {σ : L2.St} {H : Hp} {a : Addr} {sp : Sp} {whole : Sem Value} {Q : Value → Shared → Prop} (T : SupT X f cda cc D ar) (hN : X.N[i]? = some ar) (hm : (m == ("__class__" : Str)) = false) (I : Inv X pins σ H s) (h : SupAt X CX k i D m σ H a sp)
    (hq : ∀ q f2 s', X.base.get? q = none → PySem.W.fnIn X.K f2 = true → FnR X.prog X.w X.K X.mg X.base CX k f2 sp → Inv X ((q, PySem.W.methodObj (.ref f2) (.ref a)) :: pins) σ H s' → Q (.ref q) s') :
    PySem.wpAt (model X.prog X.w) X.A (.func b X.env) (attributeBase (.Call (.Name "super" p0) [] [] p1) m X.env whole) (fun ov s1 => wpAny (model X.prog X.w) X.A (getAttr ov m true) Q X.xe s1) X.xe s := by
  obtain ⟨C, dx, fs, f2, hs, ha, S, F⟩ := h
  obtain ⟨oc, od, fd, osl, lf, ar', hp, ea⟩ := T.fn
  obtain ⟨ccl, cdd, vs, ccs, file, tf, lc, hvs, hfile⟩ := T.code
  obtain ⟨cl, cld, csl, lcell⟩ := T.cell
  obtain ⟨cdD, hD⟩ := Option.isSome_iff_exists.mp (show (PySem.W.clsIn X.K D).isSome = true from T.isD)
  obtain ⟨mA, O, _⟩ := ins_get I.hok ha
  obtain ⟨oi, J, _⟩ := O.look
  obtain ⟨mL, hloc, hlk⟩ := I.loc
  obtain ⟨u, ru, lk⟩ := hlk i ar (.ref a) hN hs (.inl T.karg)
  obtain rfl : u = Value.ref a := ru
  have hma : mL ar = some (.ref a) := by
    rcases lk with ⟨_, q⟩ | ⟨q, _⟩
    · exact q
    · rcases q with q | q <;> (rw [T.karg] at q; cases q)
  subst ea
  obtain ⟨oD, hD1, hD2⟩ : ∃ oD, s.heap.get? D = some oD ∧ oD.data = .cls cdD := by
    unfold PySem.W.clsIn at hD
    split at hD
    · rename_i c d cd' sl ho
      cases hD
      exact ⟨_, I.kIn _ _ ho, rfl⟩
    · cases hD
  refine ks_wpAt_super_base T.ks T.kc hm T.fu (I.kIn _ _ lf) rfl hp T.co (I.kIn _ _ lc) rfl hvs hfile T.top ?_
  obtain ⟨mb, hb1, hb2⟩ := I.mod.blt
  refine PySem.W.ks_loadName_global I.ok.kind T.ks (Calls.loadGlobal_builtin (by rw [I.ok.glob]; exact I.mod.glob.keeps I.bk) T.mg (by rw [I.ok.blt]; exact hb1.keeps I.bk) ((hb2 _ (by decide)).trans boot_super) ⟨rfl, ?_⟩)
  refine wpAny_loadName_free I.ok.kind T.kc T.cl ⟨_, I.kIn _ _ lcell, rfl⟩ ?_
  refine wpAny_loadName_local I.ok.kind T.karg hloc hma ?_
  obtain ⟨hh, g, dr, tk, os⟩ := s
  refine ks_wpAny_isType_cls hD1 hD2 ⟨rfl, ?_⟩
  refine ks_wpAny_call_super hD1 hD2 J.at_ J.cls (fun c e => ?_) (PySem.W.looks_mroIn I.kIn S.sub) (fun h' eso kp => ?_)
  · have := J.no
    unfold PySem.W.notCls at this
    rw [e] at this
    exact Bool.noConfusion this
  · have I2 : Inv X pins σ H { (⟨hh, g, dr, tk, os⟩ : Shared) with heap := h' } := I.kept (t' := tk) kp
    have hz : hh.objs.size < h'.objs.size := Heap.lt_size eso
    cases hc : PySem.W.clsIn X.K C with
    | none =>
      have := S.at_
      unfold PySem.W.ks_superIn at this
      rw [hc] at this
      cases this
    | some cd =>
      have hs2 := S.at_
      unfold PySem.W.ks_superIn at hs2
      rw [hc] at hs2
      obtain ⟨of, hof, hofc⟩ : ∃ of, h'.get? f2 = some of ∧ of.cls = .type "function" := by
        have ht' : (X.K.lookup f2).map (·.cls) = some (.type "function") := S.ty
        cases z : X.K.lookup f2 with
        | none => rw [z] at ht'; cases ht'
        | some of => rw [z] at ht'; exact ⟨of, I2.kIn _ _ z, Option.some.inj ht'⟩
      have J2 : PySem.W.InstAt h' a (instObj C dx) C (some oi) := ⟨kp _ _ J.at_, J.cls, J.no, kp _ _ J.dict⟩
      refine getAttr_super eso (PySem.W.looks_opaque I2.kIn T.opq) (l₀ := cd.mro) (fun A Q E s k q => wpAny_bind ((PySem.W.looks_clsIn I2.kIn hc) A _ E s k (wpAny_pure q))) rfl I2.kIn hs2 hof hofc (PySem.W.ks_ne I2.kIn J2 hc) hm ?_
      exact hq _ f2 _ (ClX.base_none I2 (Nat.le_refl _)) S.fi F (ClX.met_new I2)
/-- super().m(*e) -/
def tSup1 (X : Cx) (CX : CXT) (k i : Nat) (D : Addr) (m : Str) (E : XK) (te : TE) : TE := fun σ H Q => ∃ a sp, SupAt X CX k i D m σ H a sp ∧ te σ H fun y H1 => ∃ q xs, y = V.ref q ∧ (SqT X.K H1 q xs ∨ SqL X.K H1 q xs) ∧ sp (.ref a :: xs) H1 Q E
theorem pea_sup1 (T : SupT X f cda cc D ar) (hN : X.N[i]? = some ar) (hr : Room k X.A) (hx : Passes CX X E) (he : PE X e te) (hm : (m == ("__class__" : Str)) = false := by decide) (hst : starEach [.Starred e sp_] X.env = [(true, eval e X.env)] := by rfl) (hform : methodCallForm ([Expr.Starred e sp_].length + ([] : List Keyword).length) (backTo pos (starEach [.Starred e sp_] X.env)) (backToKw pos (keywordEach [] X.env)) = false := by rfl) :
    PEA X b (.Call (.Attribute (.Call (.Name "super" p0) [] [] p1) m apos) [.Starred e sp_] [] pos) (tSup1 X CX k i D m E te) := by
  refine ⟨fun pins s σ H Q I h => ?_⟩
  obtain ⟨a, sp, hs, h⟩ := h
  refine at_starcall hform (sup_attr T hN hm I hs fun q f2 s1 hb hf F I1 => ?_)
  show wpAny _ _ (callWith pos (.ref q) [] (backTo pos (starEach [.Starred e sp_] X.env)) []) _ _ _
  rw [hst]
  refine PySem.W.ks_call rfl (PySem.W.keeps_M (self := .ref a) hf) (PySem.W.ks_lone (thn (he.run _ s1 σ H _ I1 h) fun v s2 ⟨y, H1, I2, ry, qq, xs, ey, hxs, q2⟩ => ?_))
  subst ey
  obtain rfl : v = Value.ref qq := ry
  exact StX.star_any I2 hxs fun us s3 I3 rv => ⟨⟨ClX.pin_at I3, I3.kIn⟩, ClX.run_cm F hr hx I3 rv q2⟩
/-- super().m(e, .., *y) -/
def tSup (X : Cx) (CX : CXT) (k i : Nat) (D : Addr) (m : Str) (E : XK) (t : TA) : TE := fun σ H Q => ∃ a sp, SupAt X CX k i D m σ H a sp ∧ t σ H fun vs H1 => sp (.ref a :: vs) H1 Q E
theorem pea_sup2 (T : SupT X f cda cc D ar) (hN : X.N[i]? = some ar) (hr : Room k X.A) (hx : Passes CX X E) (ha : PA X (e :: es) t) (hm : (m == ("__class__" : Str)) = false := by decide)
    (he : starEach (e :: es) X.env = (false, eval e X.env) :: starEach es X.env := by rfl) (hst : (backTo pos (starEach es X.env)).any (·.1) = true := by rfl) (hform : methodCallForm ((e :: es).length + ([] : List Keyword).length) (backTo pos (starEach (e :: es) X.env)) (backToKw pos (keywordEach [] X.env)) = false := by rfl) :
    PEA X b (.Call (.Attribute (.Call (.Name "super" p0) [] [] p1) m apos) (e :: es) [] pos) (tSup X CX k i D m E t) := by
  refine ⟨fun pins s σ H Q I h => ?_⟩
  obtain ⟨a, sp, hs, h⟩ := h
  refine at_starcall hform (sup_attr T hN hm I hs fun q f2 s1 hb hf F I1 => ?_)
  show wpAny _ _ (callWith pos (.ref q) [] (backTo pos (starEach (e :: es) X.env)) []) _ _ _
  have z := ha.run pos _ s1 σ H _ I1 h
  rw [he] at z ⊢
  refine PySem.W.ks_call (by show (false || (backTo pos (starEach es X.env)).any (·.1)) = true; rw [hst]; rfl) (PySem.W.keeps_M (self := .ref a) hf) (PySem.Calls.evalArgs_plain (thn z fun us s2 ⟨vs, H1, I2, rv, q2⟩ => ?_))
  exact ⟨⟨ClX.pin_at I2, I2.kIn⟩, ClX.run_cm F hr hx I2 rv q2⟩
/-- super().m(e, ..) -/
theorem pea_sup (T : SupT X f cda cc D ar) (hN : X.N[i]? = some ar) (hr : Room k X.A) (hx : Passes CX X E) (ha : PA X (e :: es) t) (hm : (m == ("__class__" : Str)) = false := by decide)
    (he : starEach (e :: es) X.env = (false, eval e X.env) :: starEach es X.env := by rfl) (hpl : (backTo pos (starEach es X.env)).any (·.1) = false := by rfl)
    (hc : eval (.Call (.Attribute (.Call (.Name "super" p0) [] [] p1) m apos) (e :: es) [] pos) X.env = (do
      let ov ← attributeBase (.Call (.Name "super" p0) [] [] p1) m X.env (eval (.Call (.Name "super" p0) [] [] p1) X.env)
      standAt apos.atName
      let (f, first) ← holding [ov] (getMethod ov m pl)
      callWith pos f first (backTo pos (starEach (e :: es) X.env)) []) := by rfl) :
    PEA X b (.Call (.Attribute (.Call (.Name "super" p0) [] [] p1) m apos) (e :: es) [] pos) (tSup X CX k i D m E t) := by
  refine ⟨fun pins s σ H Q I h => ?_⟩
  obtain ⟨a, sp, hs, h⟩ := h
  refine ks_wpAt_MethodCall (pl := pl) (sup_meth T hN hm I hs fun q f2 s1 hb hf F I1 => ?_) hc
  refine ClX.callwith_cm I1 hb hf (thn (ha.run pos _ s1 σ H _ I1 h) fun us s2 ⟨vs, H1, I2, rv, q2⟩ => ⟨⟨ClX.pin_at I2, I2.kIn⟩, ?_⟩) he hpl
  exact ClX.run_cm F hr hx I2 rv q2
end
/-! ### the def by its body -/
/-- the text of such a def -/
def nfOf (st : Stmt) (x qual : Str) (cda cc : Addr) : NF := ⟨x, qual, defArgs st, defBody st, defScope st, [("__class__", cc)], cda⟩
structure FunS (K : PySem.W.Frag) (x qual : Str) (st : Stmt) (f cda cc D : Addr) (kV doc pm ct : Value) (an : Option Addr) : Prop where
  lk : ∃ oc od osl, K.lookup f = some ⟨oc, od, .func (PySem.W.ksFn x qual (defArgs st) (defBody st) (defScope st) .none kV doc pm an (.ref cda) ct cc), osl⟩
  code : PySem.W.codeIn K (.ref cda) qual = true
  cell : ∃ cl cld csl, K.lookup cc = some ⟨cl, cld, .cell (some (.ref D)), csl⟩
section
variable {CX : CXT} {P : Program} {w : World} {K : PySem.W.Frag} {mg : Str → Option Value} {base : Heap} {k : Nat} {f cda cc D : Addr} {x qual : Str} {st : Stmt} {kV doc pm ct : Value} {an : Option Addr} {N ps : List Str}
theorem cells_super {s : Shared} {H : Hp} {A : Around} {outer : List Env} (F : FunS K x qual st f cda cc D kV doc pm ct an) (e0 : Env0 P w K mg base A outer s H) : CellsAt (nfOf st x qual cda cc).cl ["__class__"] [some (.ref D)] s.heap H := by
  obtain ⟨cl, cld, csl, lc⟩ := F.cell
  have hb := e0.mod.kin _ _ lc
  have h1 := e0.bs _ _ hb
  have look : ∀ y c, (nfOf st x qual cda cc).cl.lookup y = some c → y = "__class__" ∧ c = cc := fun y c q => by
    have q : ([("__class__", cc)] : List (Str × Addr)).lookup y = some c := q
    rw [List.lookup_cons] at q
    by_cases e : (y == ("__class__" : Str)) = true
    · rw [e] at q
      exact ⟨eq_of_beq e, (Option.some.inj q).symm⟩
    · rw [Bool.eq_false_iff.mpr e] at q
      cases q
  refine ⟨rfl, fun y c q => ?_, fun a b c q1 q2 => ?_, fun i y q => ?_⟩
  · obtain ⟨_, rfl⟩ := look y c q
    exact ⟨h1.2, _, ⟨_, h1.1, rfl⟩⟩
  · rw [(look a c q1).1, (look b c q2).1]
  · cases i with
    | zero =>
      obtain rfl : ("__class__" : Str) = y := Option.some.inj q
      refine ⟨cc, rfl, fun v hv => ?_⟩
      obtain rfl : V.ref D = v := Option.some.inj (Option.some.inj hv)
      exact ⟨.ref D, rfl, _, h1.1, rfl⟩
    | succ i => cases q
theorem run_sup {A : Around} {outer : List Env} {s : Shared} {H : Hp} {args : Args} {Q : VK} {E : XK} {G : List V → Hp → Prop} (F : FunS K x qual st f cda cc D kV doc pm ct an) (S : NScope N ps ["__class__"] (defScope st)) (hr : Room (k + 1) A) (e0 : Env0 P w K mg base A outer s H)
    (hb : StX.Bnd CX P w K mg base (PySem.W.ksFn x qual (defArgs st) (defBody st) (defScope st) .none kV doc pm an (.ref cda) ct cc) args ps A outer s H E G)
    (hbody : ∀ (s2 : Shared) (H2 : Hp) (vs : List V), G vs H2 → Room k (A.deeper (envF (nfOf st x qual cda cc) f s2.heap.objs.size)) →
      ∃ t, PSsA (ncx CX P w K mg base N (nfOf st x qual cda cc) f A outer s2 H2 E) (defBody st) (defBody st) t ∧ t { nx := fun _ H' => Q .non H', rt := Q } (startF N vs [some (.ref D)]) H2) :
    codeAny (model P w) A (.call (.ref f) args) (CR CX outer P w H s Q E) s := by
  have KX : K.In s.heap := e0.mod.kin.keeps fun b o e => (e0.bs b o e).1
  obtain ⟨oc, od, osl, lk⟩ := F.lk
  refine codeAny_call_function hr.depth (KX _ _ lk) rfl S.co S.gen rfl (PySem.W.codeRec_of KX F.code) ?_
  refine hb _ _ _ fun s2 H2 vs us e2 un ho hx r hl g => ?_
  have lim : s2.heap.NoLimit := e0.mod.nolimit.keeps fun b o e => (e2.bs b o e).1
  refine wpAny_newFunctionEnv S.nocell (fun ⟨n, _⟩ hy => S.par n (List.of_mem_zip hy).1) (fun h₁ hns hsb => ⟨lim.fresh _ hsb, ?_⟩) S.kind
  show codeAny _ _ (.func (defBody st) (envF (nfOf st x qual cda cc) f s2.heap.objs.size)) _ _
  have kp : ∀ b o, s2.heap.get? b = some o → h₁.get? b = some o := fun b o e => hsb.extBut b o (Nat.ne_of_lt (Heap.lt_size e)) (Heap.get?_push_of_some _ e)
  obtain ⟨t, ht, hq⟩ := hbody s2 H2 vs g (hr.deeper _)
  have I : Inv (ncx CX P w K mg base N (nfOf st x qual cda cc) f A outer s2 H2 E) [] (startF N vs [some (.ref D)]) H2 { s2 with heap := h₁, toks := s2.toks + (ps.zip us).length } := inv_startN S hr.hd e2 hl r (cells_super F e2) hns kp
  refine ks_codeAny_funcAt (ks_wpAt_mono (ht.run [] _ _ H2 _ I hq) (fun fl s' hs => ?_) fun e s' hs => ?_)
  · have fin : ∀ {σ' : L2.St} {H' : Hp} {v' : V} {u' : Value}, Inv (ncx CX P w K mg base N (nfOf st x qual cda cc) f A outer s2 H2 E) [] σ' H' s' → RelV v' u' → Q v' H' → CE outer P w H s Q u' s' :=
      fun {σ' H' v' u'} J rv' q => ⟨v', H', J.os.trans ho, J.bare, un.trans J.base, J.hok, rv', q⟩
    cases fl with
    | ret u' =>
      obtain ⟨v', σ', H', J, rv', q⟩ := hs
      exact fin J rv' q
    | next =>
      obtain ⟨σ', H', J, q⟩ := hs
      exact fin (v' := V.non) (u' := Value.none) J rfl q
    | brk =>
      obtain ⟨_, _, _, q⟩ := hs
      exact False.elim q
    | cont =>
      obtain ⟨_, _, _, q⟩ := hs
      exact False.elim q
  · exact wpAny_mono hs (fun _ s'' z => hx e s'' z) fun e' s'' z => hx e' s'' z
end
end Cs

set_option Elab.async false
set_option linter.all false
set_option maxRecDepth 100000
set_option maxHeartbeats 4000000
/-! A def that says super(), with a star: its promise by its body; what its text tells. -/
namespace Cs
open PySem PySem.W PySem.Spec L2 NdefX
section
variable {CX : CXT} {P : Program} {w : World} {K : PySem.W.Frag} {mg : Str → Option Value} {base : Heap} {k : Nat} {f cda cc D : Addr} {x qual : Str} {st : Stmt} {kV doc pm ct : Value} {an : Option Addr} {N ps : List Str} {pv : Str} {sp : Sp}
theorem FnR.up {j : Nat} (F : FnR P w K mg base CX k f sp) (h : k ≤ j) : FnR P w K mg base CX j f sp := fun A outer s H us vs Q E hr e0 r q => F A outer s H us vs Q E (hr.mono h) e0 r q
/-- what is left over goes to a new tuple -/
theorem bnd_star {fd : FuncData} {A : Around} {outer : List Env} {s : Shared} {H : Hp} {E : XK} {us : List Value} {ws rest : List V} (hCX : StX.CXUp CX) (e0 : Env0 P w K mg base A outer s H) (r : Vals (ws ++ rest) us) (hl : ws.length = ps.length) (hz : rest.length ≤ sizeLine)
    (hb : ∀ us rest : List Value, us.length = ps.length → bindArgs fd ⟨us ++ rest, []⟩ = (newTuple rest >>= fun t => pure (ps.zip us ++ [(pv, t)]))) :
    StX.Bnd CX P w K mg base fd ⟨us, []⟩ (ps ++ [pv]) A outer s H E (fun xs H2 => ∃ p, H p = Option.none ∧ xs = ws ++ [V.ref p] ∧ H2 = upd H p (.tup rest)) := by
  obtain ⟨u1, u2, eu, r1, r2⟩ := StX.vals_split r
  subst eu
  have free : H s.heap.objs.size = Option.none := e0.hok.fresh (Nat.le_refl _)
  have n1 : u1.length = ps.length := by rw [← r1.length]; exact hl
  have n2 : u2.length ≤ sizeLine := by rw [← r2.length]; exact hz
  intro A' Ex Q' h
  rw [hb u1 u2 n1]
  refine wpAny_bind (wpAny_newTuple (wpAny_pure ?_) n2)
  have laid : ObjOk P w (upd H s.heap.objs.size (.tup rest)) (s.heap.push ({ cls := .type "tuple", data := .seq u2.toArray } : Obj)) s.heap.objs.size (.tup rest) := ⟨hz, u2, r2, ⟨_, Heap.get?_push_size _ rfl, rfl, _, rfl⟩⟩
  have un := StX.un_laid (fs := frs outer) (s := s) (o := ({ cls := .type "tuple", data := .seq u2.toArray } : Obj)) (u := .tup rest) free
  have z := h _ _ (ws ++ [V.ref s.heap.objs.size]) (u1 ++ [Value.ref s.heap.objs.size]) (StX.env0_laid e0 laid) un rfl (fun e s' => hCX outer s H _ _ E e s' un (fun b o q => Heap.get?_push_of_some _ q) rfl) (r1.append (.cons rfl .nil))
    (by rw [List.length_append, List.length_append, hl] <;> rfl) ⟨_, free, rfl, rfl⟩
  rw [List.zip_append n1.symm] at z
  exact z
/-- def m(self, .., *v) with super() in it -/
theorem fn_supS (F : FunS K x qual st f cda cc D kV doc pm ct an) (S : NScope N (ps ++ [pv]) ["__class__"] (defScope st)) (hCX : StX.CXUp CX)
    (hb : ∀ us rest : List Value, us.length = ps.length → bindArgs (PySem.W.ksFn x qual (defArgs st) (defBody st) (defScope st) .none kV doc pm an (.ref cda) ct cc) ⟨us ++ rest, []⟩ = (newTuple rest >>= fun t => pure (ps.zip us ++ [(pv, t)])))
    (hbody : ∀ (A : Around) (outer : List Env) (s : Shared) (H : Hp) (vs : List V) (Q : VK) (E : XK), Room k (A.deeper (envF (nfOf st x qual cda cc) f s.heap.objs.size)) → sp vs H Q E →
      ∃ t, PSsA (ncx CX P w K mg base N (nfOf st x qual cda cc) f A outer s H E) (defBody st) (defBody st) t ∧ t { nx := fun _ H' => Q .non H', rt := Q } (startF N vs [some (.ref D)]) H) :
    FnR P w K mg base CX (k + 1) f (fun vs H Q E => ∃ ws rest, vs = ws ++ rest ∧ ws.length = ps.length ∧ rest.length ≤ sizeLine ∧ ∀ p, H p = Option.none → sp (ws ++ [V.ref p]) (upd H p (.tup rest)) Q E) := by
  intro A outer s H us vs Q E hr e0 r hsp
  obtain ⟨ws, rest, ev, hl, hz, hq⟩ := hsp
  subst ev
  refine run_sup F S hr e0 (bnd_star hCX e0 r hl hz hb) fun s2 H2 xs ⟨p, hp, ex, eH⟩ hr' => ?_
  subst ex eH
  exact hbody A outer s2 _ _ Q E hr' (hq p hp)
/-- def m(self, a, ..) with super() in it -/
theorem fn_sup (F : FunS K x qual st f cda cc D kV doc pm ct an) (S : NScope N ps ["__class__"] (defScope st)) (hps : ∀ vs H Q E, sp vs H Q E → vs.length = ps.length)
    (hb : ∀ us : List Value, us.length = ps.length → bindArgs (PySem.W.ksFn x qual (defArgs st) (defBody st) (defScope st) .none kV doc pm an (.ref cda) ct cc) ⟨us, []⟩ = pure (ps.zip us))
    (hbody : ∀ (A : Around) (outer : List Env) (s : Shared) (H : Hp) (vs : List V) (Q : VK) (E : XK), Room k (A.deeper (envF (nfOf st x qual cda cc) f s.heap.objs.size)) → sp vs H Q E →
      ∃ t, PSsA (ncx CX P w K mg base N (nfOf st x qual cda cc) f A outer s H E) (defBody st) (defBody st) t ∧ t { nx := fun _ H' => Q .non H', rt := Q } (startF N vs [some (.ref D)]) H) :
    FnR P w K mg base CX (k + 1) f sp := by
  intro A outer s H us vs Q E hr e0 r hsp
  have hl := hps _ _ _ _ hsp
  refine run_sup F S hr e0 (G := fun xs H2 => xs = vs ∧ H2 = H) (fun A' Ex Q' h => ?_) fun s2 H2 xs ⟨ex, eH⟩ hr' => ?_
  · rw [hb us (by rw [← r.length]; exact hl)]
    exact wpAny_pure (h s H vs us e0 (Un.kept fun _ _ q => q) rfl (fun _ _ q => q) r hl ⟨rfl, rfl⟩)
  · subst ex eH
    exact hbody A outer s2 _ _ Q E hr' hsp
/-- the program's own facts about super -/
structure SupG (P : Program) (K : PySem.W.Frag) (mg : Str → Option Value) : Prop where
  top : (P.main.scope.names.lookup ("super" : Str)).isSome = false
  mgs : mg "super" = none
  opq : PySem.W.nsIn K cStatics "thirdparty.any" = some none
/-- a def's own facts about super -/
structure SupD (P : Program) (K : PySem.W.Frag) (cda D : Addr) : Prop where
  code : ∃ ccl cdd vs ccs file tf, K.lookup cda = some ⟨ccl, cdd, .fields vs, ccs⟩ ∧ vs[2]? = some (.str file tf) ∧ ((P.main.file : Str) == file) = true
  isD : PySem.W.isClsIn K D = true
theorem supT_mk {A : Around} {outer : List Env} {s : Shared} {H : Hp} {E : XK} {ar : Str} (F : FunS K x qual st f cda cc D kV doc pm ct an) (G : SupG P K mg) (S : SupD P K cda D) (h1 : (defScope st).names.lookup ("super" : Str) = some .globalImplicit) (h2 : (defScope st).names.lookup ("__class__" : Str) = some .free)
    (h3 : (defScope st).names.lookup ar = some .local) (h4 : ∃ a, ((defArgs st).posonlyargs ++ (defArgs st).args).head? = some a ∧ a.arg = ar) :
    SupT (ncx CX P w K mg base N (nfOf st x qual cda cc) f A outer s H E) f cda cc D ar := by
  obtain ⟨oc, od, osl, lk⟩ := F.lk
  exact ⟨h1, h2, rfl, rfl, rfl, ⟨oc, od, _, osl, lk, h4⟩, S.code, F.cell, S.isD, G.top, G.mgs, G.opq, h3⟩
end
end Cs

set_option Elab.async false
set_option linter.all false
set_option maxRecDepth 100000
set_option maxHeartbeats 4000000
set_option pp.maxSteps 600
/-! Kinds, ends, and how a rule is made. -/
namespace Cs
open PySem L2
def RES : List Str := ["hold", "look", "do", "row", "one", "all", "new", "give", "take", "join", "other", "if", "and", "or", "then", "gone"]
/-- a word that is not barred -/
def Kind (z : Str) : Prop := Word z ∧ z ∉ RES
/-- one to three kinds, none twice -/
structure Kinds (ks : List Str) : Prop where
  lo : 1 ≤ ks.length
  hi : ks.length ≤ 3
  nd : ks.Nodup
  kd : ∀ z ∈ ks, Kind z
/-- the module's tuple of barred words -/
def ResAt (K : PySem.W.Frag) (r : Addr) : Prop := ∀ H : Hp, SqT K H r (RES.map V.str)
theorem flat_str (zs : List Str) : (zs.map V.str).all flatV = true := by
  rw [List.all_map, List.all_eq_true]
  intro z _
  rfl
theorem in_str (z : Str) (zs : List Str) : inV (.str z) (zs.map V.str) = decide (z ∈ zs) := by
  unfold inV
  rw [List.any_map, Bool.eq_iff_iff, List.any_eq_true, decide_eq_true_eq]
  constructor
  · rintro ⟨y, m, e⟩
    have e : (y == z) = true := e
    rw [← eq_of_beq e]
    exact m
  · intro m
    exact ⟨z, m, beq_self_eq_true z⟩
def kindB (z : Str) : Bool := wordB z && !decide (z ∈ RES)
theorem kindB_of {z : Str} (h : Kind z) : kindB z = true := by
  unfold kindB
  rw [wordB_of h.1, decide_eq_false h.2]
  rfl
def spIsKind (K : PySem.W.Frag) : Sp := fun vs H Q _ => (∃ z : Str, vs = [.str z] ∧ z.length ≤ 100000 ∧ ∀ H', Same H H' → Q (.bl (kindB z)) H') ∨ (∃ x ty, vs = [x] ∧ TyX K H x (.type ty) ∧ kitB ty "str" = some false ∧ Q (.bl false) H)
def spIsBound (K : PySem.W.Frag) : Sp := fun vs H Q _ => (∃ n : Int, vs = [.int n] ∧ Q (.bl (decide (0 ≤ n) && decide (n ≤ 9))) H) ∨ (∃ x, vs = [x] ∧ NotInt K H x ∧ Q (.bl false) H)
def spDistinctT (K : PySem.W.Frag) : Sp := fun vs H Q _ => ∃ (a : Addr) (zs : List Str), vs = [.ref a] ∧ SqT K H a (zs.map V.str) ∧ zs.length ≤ 1000 ∧
  ∀ (p : Addr) (H' : Hp) (ws : List Str), H p = none → Same H H' → H' p = some (.lst (ws.map V.str)) → Asc ws → (∀ z, z ∈ ws ↔ z ∈ zs) → ws.length ≤ zs.length → Q (.ref p) H'
theorem nd_len {xs ys : List Str} (h : xs.Nodup) (k : ∀ z ∈ xs, z ∈ ys) : xs.length ≤ ys.length := by
  induction xs generalizing ys with
  | nil => exact Nat.zero_le _
  | cons x xs ih =>
    obtain ⟨h1, h2⟩ := List.nodup_cons.mp h
    have hx := k x List.mem_cons_self
    have := ih (ys := ys.erase x) h2 fun z hz => (List.mem_erase_of_ne (fun (e : z = x) => h1 (e ▸ hz))).mpr (k z (List.mem_cons_of_mem _ hz))
    rw [List.length_erase_of_mem hx] at this
    have : 0 < ys.length := List.length_pos_of_mem hx
    rw [List.length_cons]
    omega
section
variable {P : Program} {w : World} {K : PySem.W.Frag} {mg : Str → Option Value} {base : Heap}
theorem Same.seqT {H H' : Hp} {a : Addr} {xs : List V} (s : Same H H') (h : SqT K H a xs) : SqT K H' a xs := by
  rcases h with h | h
  · left
    rcases h with h | ⟨o, h⟩
    · exact .inl (s _ _ h)
    · exact .inr ⟨o, s _ _ h⟩
  · exact .inr h
theorem ok_is_kind {f fIw rR : Addr} {fd fdIw : FuncData} (F : Fun K "is_kind" "is_kind" s_is_kind f fd) (g : Bi mg) (FIw : Def P w K mg base CX0 1 "is_word" ["thing"] (spIsWord K) fIw fdIw) (mRES : mg "RESERVED" = some (.ref rR)) (hR : ResAt K rR) : FnOk P w K mg base CX0 2 f fd ["thing"] (spIsKind K) := by
  obtain ⟨GIw, mIw, _, bIw⟩ := id FIw
  refine F.ok sc_is_kind (fun vs H Q E h => ?_) (fun cdv A outer s H vs Q E hr h => ?_)
  · rcases h with ⟨_, rfl, _⟩ | ⟨_, _, rfl, _⟩ <;> rfl
  · have hrIw : Room 1 _ := hr.mono (by decide)
    refine ⟨_, (pss_one (ps_ret (pe_and (pe_call GIw hrIw rfl mIw FIw.kp bIw .nil pass0 (pa_cons (pv 0) pa_nil)) (pe_one (pe_cmpR op_notIn_seq (pv 0) (pe_glob (v := .ref rR) rfl mRES rfl) (by rfl)))))), ?_⟩
    rcases h with ⟨z, rfl, hz, q⟩ | ⟨x, ty, rfl, ht, hc, q⟩
    · refine ⟨_, rfl, .inl ⟨z, rfl, hz, fun H1 s1 => ⟨_, rfl, ?_⟩⟩⟩
      have q1 := q H1 s1
      unfold kindB at q1
      cases e : wordB z with
      | false =>
        rw [e] at q1
        exact iteF q1
      | true =>
        rw [e] at q1
        refine iteT ⟨_, rfl, rR, _, rfl, .inr (hR H1), rfl, flat_str RES, ?_⟩
        rw [in_str]
        exact q1
    · exact ⟨_, rfl, .inr ⟨x, ty, rfl, ht, hc, _, rfl, iteF q⟩⟩
theorem ok_is_bound {f fIi : Addr} {fd fdIi : FuncData} (F : Fun K "is_bound" "is_bound" s_is_bound f fd) (g : Bi mg) (FIi : Def P w K mg base CX0 1 "is_integer" ["thing"] (spIsInteger K) fIi fdIi) : FnOk P w K mg base CX0 2 f fd ["thing"] (spIsBound K) := by
  obtain ⟨GIi, mIi, _, bIi⟩ := id FIi
  refine F.ok sc_is_bound (fun vs H Q E h => ?_) (fun cdv A outer s H vs Q E hr h => ?_)
  · rcases h with ⟨_, rfl, _⟩ | ⟨_, rfl, _⟩ <;> rfl
  · have hrIi : Room 1 _ := hr.mono (by decide)
    refine ⟨_, (pss_one (ps_ret (pe_and (pe_call GIi hrIi rfl mIi FIi.kp bIi .nil pass0 (pa_cons (pv 0) pa_nil)) (pe_one (pe_chain op_le op_le pe_int (pv 0) pe_int))))), ?_⟩
    rcases h with ⟨n, rfl, q⟩ | ⟨x, rfl, hx, q⟩
    · refine ⟨_, rfl, .inl ⟨n, rfl, _, rfl, iteT ?_⟩⟩
      refine ⟨_, rfl, _, _, rfl, rfl, _, rfl, ?_⟩
      by_cases c : (0 : Int) ≤ n
      · rw [decide_eq_true c] at q ⊢
        exact iteT ⟨_, _, rfl, rfl, q⟩
      · rw [decide_eq_false c] at q ⊢
        exact iteF q
    · exact ⟨_, rfl, .inr ⟨x, rfl, hx, _, rfl, iteF q⟩⟩
theorem ok_distinctT {f : Addr} {fd : FuncData} (F : Fun K "distinct" "distinct" s_distinct f fd) (g : Bi mg) : FnOk P w K mg base CX0 1 f fd ["words"] (spDistinctT K) := by
  refine F.ok sc_distinct (fun vs H Q E h => ?_) (fun cdv A outer s H vs Q E hr h => ?_)
  · obtain ⟨_, _, rfl, _⟩ := h
    rfl
  · obtain ⟨a, zs, rfl, ha, hl, q⟩ := h
    refine ⟨_, (pss_one (ps_ret (pe_callB (cr_sortT rfl) (by rfl) g.sorted (by decide +kernel) (pa_cons (pe_scT (own := [("word", 1)]) (g := gName 1)  (by rfl) sc_distinct.nd (pi_tup (pv 0)) (blkOk_by (own := [("word", 1)]) (N := ["words", "word"]) (sc := defScope s_distinct) (by decide +kernel)) (fun _ _ _ _ _ => (pg_name (i := 1) sc_distinct.nd rfl (Or.inl rfl))) (fun _ _ _ _ _ => pts_nil) (fun _ _ _ _ _ => (pe_callTy SkE.call_str_str (by rfl) g.str (by decide +kernel) (pa_cons (pv 1) pa_nil)))) pa_nil)))), ?_⟩
    refine ⟨_, rfl, a, rfl, ⟨_, ha⟩, fun D hD => ?_⟩
    refine scT_it walk_tup (fun i H' => Same H H' ∧ H' D = some (TSetO w D (once (zs.take i)))) ⟨Same.new hD, upd_same⟩ (fun i H' _ h => Cs.Same.seqT h.1 ha) ?_ ?_
    · rintro i x H' H2 hi ⟨s', hD'⟩ ⟨rfl, hx⟩
      rw [List.length_map] at hi
      have ex : x = V.str zs[i] := by
        rw [List.getElem?_map, List.getElem?_eq_getElem hi] at hx
        exact (Option.some.inj hx).symm
      subst ex
      refine ⟨rfl, yes_it ?_⟩
      refine ⟨_, rfl, _, rfl, zs[i], _, rfl, hD', ?_, ?_, ?_⟩
      · have h1 := once_len (zs.take i)
        rw [List.length_take] at h1
        exact Nat.lt_of_le_of_lt (show (once (zs.take i)).length + 1 ≤ 1001 by omega) (by decide)
      · exact fun b o e => by rw [upd_ne (ne_of_none e hD)]; exact s' b o e
      · rw [upd_same, List.take_succ, List.getElem?_eq_getElem hi]
        show some (TSetO w D (addT (once (zs.take i)) zs[i])) = some (TSetO w D (once (zs.take i ++ [zs[i]])))
        rw [once_snoc]
    · rintro H' ⟨s', hD'⟩
      rw [List.length_map, List.take_length] at hD'
      have h1 := once_len zs
      refine ⟨D, _, rfl, hD', by omega, fun ys p hp hs hn => ?_⟩
      refine q p _ ys (s'.free hn) (s'.trans (Same.new hn)) upd_same (asc_of_sorted hs (hp.nodup_iff.mpr (once_nodup zs))) (fun z => by rw [hp.mem_iff, once_mem]) (by rw [hp.length_eq]; exact h1)
/-! ### the class Rule -/
/-- a class whose objects have kinds, a least and a most -/
structure RC (K : PySem.W.Frag) (C : Addr) : Prop where
  cl : Cls K C
  nk : NoAttr K C "kinds"
  nl : NoAttr K C "least"
  nm : NoAttr K C "most"
def spRuleB (C : Addr) : Sp := fun vs H Q _ => ∃ (x kt dx : Addr) (fs : List (Str × V)) (ks : List Str), vs = [.ref x, .ref kt] ∧ H x = some (.ins C dx fs) ∧ fs.length < 900 ∧ H kt = some (.tup (ks.map V.str)) ∧ Kinds ks ∧
  ∀ H', H' x = some (.ins C dx (putF "kinds" (.ref kt) fs)) → (∀ b o, H b = some o → b ≠ x → H' b = some o) → Q .non H'
def spRule (C : Addr) : Sp := fun vs H Q _ => ∃ (x dx : Addr) (fs : List (Str × V)) (ks : List Str), vs = .ref x :: ks.map V.str ∧ H x = some (.ins C dx fs) ∧ fs.length < 900 ∧ Kinds ks ∧
  ∀ (kt : Addr) (H' : Hp), H kt = none → H' kt = some (.tup (ks.map V.str)) → H' x = some (.ins C dx (putF "kinds" (.ref kt) fs)) → (∀ b o, H b = some o → b ≠ x → H' b = some o) → Q .non H'
theorem rule_body {C f fIk fDt : Addr} {fdIk fdDt : FuncData} {cdv : Value} {A : Around} {outer : List Env} {s : Shared} {H : Hp} {vs : List V} {Q : VK} {E : XK} (g : Bi mg) (R : RC K C)
    (FIk : Def P w K mg base CX0 2 "is_kind" ["thing"] (spIsKind K) fIk fdIk) (FDt : Def P w K mg base CX0 1 "distinct" ["words"] (spDistinctT K) fDt fdDt)
    (hr : Room 2 (A.deeper (PyProof.Rows.envOfC "Rule.__init__" (defScope s_Rule_init) s.heap.objs.size f cdv))) (h : spRuleB C vs H Q E) :
    ∃ t, PSs (cxOf CX0 P w K mg base ["self", "kinds", "kind"] "Rule.__init__" (defScope s_Rule_init) f cdv A outer s H E).nox (defBody s_Rule_init) t ∧ t { nx := fun _ H' => Q .non H', rt := Q } (L2.start ["self", "kinds", "kind"] vs) H := by
  obtain ⟨GIk, mIk, _, bIk⟩ := id FIk
  obtain ⟨GDi, mDi, _, bDi⟩ := id FDt
  have FDi := FDt
  have hrIk : Room 2 _ := hr
  have hrDi : Room 1 _ := hr.mono (by decide)
  obtain ⟨x, kt, dx, fs, ks, rfl, hx, hfs, hkt, hK, k⟩ := h
  refine ⟨_, (pss_cons (ps_if (PW.pt (pw_or (pt_not (pt_chain op_le op_le pe_int (pe_callB call_len (by rfl) g.len PySem.boot_len (pa_cons (pv 1) pa_nil)) pe_int)) (pw_or1 (pt_not (pt_val (pe_callB (cr_all rfl) (by rfl) g.all (by decide +kernel) (pa_cons (pe_lc (own := [("kind", 2)]) (g := gName 2)  (by rfl) sc_Rule_init.nd (pi_tup (pv 1)) (blkOk_by (own := [("kind", 2)]) (N := ["self", "kinds", "kind"]) (sc := defScope s_Rule_init) (by decide +kernel)) (fun _ _ _ _ _ => (pg_name (i := 2) sc_Rule_init.nd rfl (Or.inl rfl))) (fun _ _ _ _ _ => pts_nil) (fun _ _ _ _ _ => (pe_call GIk hrIk rfl mIk FIk.kp bIk .nil pass0 (pa_cons (pv 2) pa_nil)))) pa_nil))))))) (pss_one ps_never) pss_nil)
      (pss_cons (ps_if (pt_cmpR op_lt (pe_callB call_len (by rfl) g.len PySem.boot_len (pa_cons (pe_call GDi hrDi rfl mDi FDi.kp bDi .nil pass0 (pa_cons (pv 1) pa_nil)) pa_nil)) (pe_callB call_len (by rfl) g.len PySem.boot_len (pa_cons (pv 1) pa_nil)) (nomark _)) (pss_one ps_never) pss_nil)
      (pss_one (ps_fld (pv 0) (pe_callTy call_tuple_of (by rfl) g.tuple (by decide +kernel) (pa_cons (pv 1) pa_nil)) rfl)))), ?_⟩
  have hl1 := hK.lo
  have hl2 := hK.hi
  refine ⟨_, rfl, _, _, rfl, .inr ⟨_, SqT.of hkt, rfl⟩, _, _, rfl, rfl, _, rfl, ?_⟩
  rw [List.length_map, decide_eq_true (show (1 : Int) ≤ (ks.length : Int) by omega)]
  refine iteT ⟨_, _, rfl, rfl, _, rfl, ?_⟩
  rw [decide_eq_true (show (ks.length : Int) ≤ 3 by omega)]
  refine iteF ?_
  refine ⟨_, rfl, kt, rfl, ⟨_, SqT.of hkt⟩, fun D hD => lc_valsT (ys := ks.map fun _ => V.bl true) (by rw [List.length_map, List.length_map]) hkt hD (by rw [List.length_map]; omega) (fun _ => rfl) (fun i a b ha hb H' s' Qe qk => ?_) fun H1 s1 hD1 => ?_⟩
  · rw [List.getElem?_map] at ha hb
    cases e : ks[i]? with
    | none => rw [e] at ha; cases ha
    | some z =>
      rw [e] at ha hb
      obtain rfl := Option.some.inj ha
      obtain rfl := Option.some.inj hb
      have hz := hK.kd z (List.mem_of_getElem? e)
      refine ⟨_, rfl, .inl ⟨z, rfl, Nat.le_trans hz.1.2.1 (by decide), fun H2 s2 => ?_⟩⟩
      rw [kindB_of hz]
      exact qk H2 s2
  refine ⟨D, ks.map fun _ => true, rfl, SqL.of (by rw [hD1, List.map_map]; rfl), ?_⟩
  rw [show (ks.map fun _ => true).all id = true by rw [List.all_map, List.all_eq_true]; intro _ _; rfl]
  refine ⟨_, rfl, iteF ?_⟩
  refine ⟨_, rfl, kt, ks, rfl, SqT.of (s1 _ _ hkt), by omega, fun p H2 ws hp s2 h2 ha hm hle => ?_⟩
  have hlen : ws.length = ks.length := Nat.le_antisymm hle (nd_len hK.nd fun z hz => (hm z).mpr hz)
  have s12 := s1.trans s2
  have hkt2 := s12 _ _ hkt
  refine ⟨_, _, rfl, .inl ⟨_, SqL.of h2, rfl⟩, _, rfl, _, _, rfl, .inr ⟨_, SqT.of hkt2, rfl⟩, _, _, rfl, rfl, _, rfl, ?_⟩
  rw [List.length_map, List.length_map, hlen, decide_eq_false (Int.lt_irrefl _)]
  refine iteF ?_
  have nxk : x ≠ kt := ne_of hx hkt (by intro z; cases z)
  refine ⟨_, rfl, kt, _, rfl, .inr ⟨SqT.of hkt2, _, rfl, x, C, dx, fs, rfl, s12 _ _ hx, R.cl, R.nk, by omega, ?_⟩⟩
  exact k _ upd_same fun b o e n => by rw [upd_ne n]; exact s12 _ _ e
theorem ok_rule {C f fIk fDt : Addr} {fdIk fdDt : FuncData} {oc od kV doc pm an cdv ct osl} (g : Bi mg) (R : RC K C) (FIk : Def P w K mg base CX0 2 "is_kind" ["thing"] (spIsKind K) fIk fdIk) (FDt : Def P w K mg base CX0 1 "distinct" ["words"] (spDistinctT K) fDt fdDt)
    (lk : K.lookup f = some ⟨oc, od, .func (PySem.W.fnOf "__init__" "Rule.__init__" (defArgs s_Rule_init) (defBody s_Rule_init) (defScope s_Rule_init) .none kV doc pm an cdv ct), osl⟩) (hcd : PySem.W.codeIn K cdv "Rule.__init__" = true) :
    FnR P w K mg base CX0 3 f (spRule C) := by
  have G := StX.fn_star (P := P) (w := w) (mg := mg) (base := base) (CX := CX0) (k := 2) (ps := ["self"]) (pv := "kinds") (sp := spRuleB C) lk hcd sc_Rule_init StX.cxUp_none
    (fun us rest hl => match us, rest, hl with | [a], [], _ => rfl | [a], r :: rs, _ => rfl)
    (fun A outer s H vs Q E hr h => by
      obtain ⟨t, a, b⟩ := rule_body (P := P) (w := w) (mg := mg) (base := base) (outer := outer) (s := s) g R FIk FDt hr h
      exact ⟨t, a.nox, b⟩)
  refine G.imp fun vs H Q E h => ?_
  obtain ⟨x, dx, fs, ks, rfl, hx, hfs, hK, k⟩ := h
  have hl2 := hK.hi
  refine ⟨[.ref x], ks.map V.str, rfl, rfl, by rw [List.length_map]; exact Nat.le_trans hl2 (by decide), fun p hp => ?_⟩
  have s1 : Same H (upd H p (.tup (ks.map V.str))) := Same.new hp
  refine ⟨x, p, dx, fs, ks, rfl, s1 _ _ hx, hfs, upd_same, hK, fun H' h1 h2 => k p H' hp ?_ h1 fun b o e n => h2 b o (s1 _ _ e) n⟩
  exact h2 _ _ upd_same (ne_of_none hx hp).symm
end
end Cs

set_option Elab.async false
set_option linter.all false
set_option maxRecDepth 100000
set_option maxHeartbeats 4000000
set_option pp.maxSteps 600
/-! AtMost, AtLeast, Between, Exactly: how they are made. -/
namespace Cs
open PySem L2 NdefX
theorem putF_len (f : Str) (v : V) : ∀ fs : List (Str × V), (putF f v fs).length ≤ fs.length + 1
  | [] => Nat.le_refl _
  | (g, x) :: r => by
    show (if g = f then (g, v) :: r else (g, x) :: putF f v r).length ≤ _
    split
    · exact Nat.le_succ _
    · have := putF_len f v r
      simp only [List.length_cons]
      omega
/-- what an __init__ leaves: the fields by F, the kinds' tuple new -/
def RulNew (C : Addr) (H : Hp) (Q : VK) (x dx : Addr) (ks : List Str) (F : Addr → List (Str × V)) : Prop :=
  ∀ (kt : Addr) (H' : Hp), H kt = none → H' kt = some (.tup (ks.map V.str)) → H' x = some (.ins C dx (F kt)) → (∀ b o, H b = some o → b ≠ x → H' b = some o) → Q .non H'
def Bnd9 (n : Int) : Prop := 0 ≤ n ∧ n ≤ 9
/-- __init__(self, n.., *kinds) behind the binding, and as it is called -/
def spIB (bd : Nat) (C : Addr) (ok : List Int → Prop) (F : List Int → List (Str × V) → Addr → List (Str × V)) : Sp := fun vs H Q _ => ∃ (x kt dx : Addr) (ns : List Int) (fs : List (Str × V)) (ks : List Str), vs = (.ref x :: ns.map V.int) ++ [.ref kt] ∧ ok ns ∧ H x = some (.ins C dx fs) ∧ fs.length < bd ∧ H kt = some (.tup (ks.map V.str)) ∧ Kinds ks ∧ RulNew C H Q x dx ks (F ns fs)
def spI (bd : Nat) (C : Addr) (ok : List Int → Prop) (F : List Int → List (Str × V) → Addr → List (Str × V)) : Sp := fun vs H Q _ => ∃ (x dx : Addr) (ns : List Int) (fs : List (Str × V)) (ks : List Str), vs = .ref x :: (ns.map V.int ++ ks.map V.str) ∧ ok ns ∧ H x = some (.ins C dx fs) ∧ fs.length < bd ∧ Kinds ks ∧ RulNew C H Q x dx ks (F ns fs)
def okAM (ns : List Int) : Prop := ∃ m, ns = [m] ∧ Bnd9 m
def fsAM (ns : List Int) (fs : List (Str × V)) (kt : Addr) : List (Str × V) := putF "most" (.int (ns.getD 0 0)) (putF "least" (.int 0) (putF "kinds" (.ref kt) fs))
def fsAL1 (ns : List Int) (fs : List (Str × V)) (kt : Addr) : List (Str × V) := putF "least" (.int (ns.getD 0 0)) (putF "kinds" (.ref kt) (putF "most" .non fs))
def okAL2 (ns : List Int) : Prop := ∃ l m, ns = [l, m] ∧ Bnd9 l ∧ Bnd9 m
def fsAL2 (ns : List Int) (fs : List (Str × V)) (kt : Addr) : List (Str × V) := putF "least" (.int (ns.getD 0 0)) (fsAM [ns.getD 1 0] (putF "most" .non fs) kt)
def okBt (ns : List Int) : Prop := ∃ l m, ns = [l, m] ∧ Bnd9 l ∧ Bnd9 m ∧ l ≤ m
def fsEx (ns : List Int) (fs : List (Str × V)) (kt : Addr) : List (Str × V) := fsAL2 [ns.getD 0 0, ns.getD 0 0] fs kt
theorem spI_of {P : Program} {w : World} {K : PySem.W.Frag} {mg : Str → Option Value} {base : Heap} {k : Nat} {f C : Addr} {ok : List Int → Prop} {F : List Int → List (Str × V) → Addr → List (Str × V)} {n bd : Nat} (hn : ∀ ns, ok ns → ns.length = n)
    (G : FnR P w K mg base CX0 k f (fun vs H Q E => ∃ ws rest, vs = ws ++ rest ∧ ws.length = n + 1 ∧ rest.length ≤ sizeLine ∧ ∀ p, H p = Option.none → spIB bd C ok F (ws ++ [V.ref p]) (upd H p (.tup rest)) Q E)) : FnR P w K mg base CX0 k f (spI bd C ok F) := by
  refine G.imp fun vs H Q E h => ?_
  obtain ⟨x, dx, ns, fs, ks, rfl, ho, hx, hfs, hK, k⟩ := h
  have h3 := hK.hi
  refine ⟨.ref x :: ns.map V.int, ks.map V.str, rfl, by rw [List.length_cons, List.length_map, hn ns ho], by rw [List.length_map]; exact Nat.le_trans h3 (by decide), fun p hp => ?_⟩
  have s1 : Same H (upd H p (.tup (ks.map V.str))) := Same.new hp
  refine ⟨x, p, dx, ns, fs, ks, rfl, ho, s1 _ _ hx, hfs, upd_same, hK, fun kt H' hk h1 h2 h4 => ?_⟩
  exact k kt H' (s1.free hk) h1 h2 fun b o e n => h4 b o (s1 _ _ e) n
section
variable {P : Program} {w : World} {K : PySem.W.Frag} {mg : Str → Option Value} {base : Heap} {kV doc pm ct : Value} {an : Option Addr} {f fIb fR C D cda cc : Addr} {fdIb : FuncData}
theorem ok_atmost (g : Bi mg) (R : RC K C) (FIb : Def P w K mg base CX0 2 "is_bound" ["thing"] (spIsBound K) fIb fdIb) (Fs : FunS K "__init__" "AtMost.__init__" s_AtMost_init f cda cc D kV doc pm ct an) (SG : SupG P K mg) (SD : SupD P K cda D)
    (S : Sup K C D "__init__" fR) (FR : FnR P w K mg base CX0 3 fR (spRule C)) : FnR P w K mg base CX0 4 f (spI 890 C okAM fsAM) := by
  obtain ⟨GIb, mIb, _, bIb⟩ := id FIb
  refine spI_of (n := 1) (fun ns ⟨m, e, _⟩ => by rw [e]; rfl) (fn_supS (ps := ["self", "most"]) (pv := "kinds") Fs sc_AtMost_init StX.cxUp_none (fun us rest hl => match us, rest, hl with | [a, b], [], _ => rfl | [a, b], r :: rs, _ => rfl) fun A outer s H vs Q E hr h => ?_)
  obtain ⟨x, kt, dx, ns, fs, ks, rfl, ⟨m, rfl, hm⟩, hx, hfs, hkt, hK, k⟩ := h
  have TS := supT_mk (CX := CX0) (w := w) (base := base) (N := ["self", "most", "kinds", "__class__"]) (A := A) (outer := outer) (s := s) (H := H) (E := E) (ar := "self") Fs SG SD rfl rfl rfl ⟨_, rfl, rfl⟩
  have hrIb : Room 2 _ := hr.mono (by decide)
  have hrS : Room 3 _ := hr
  refine ⟨_, (pssa_cons (PSA.of (ps_if (pt_not (pt_val (pe_call GIb hrIb rfl mIb FIb.kp bIb .nil pass0 (pa_cons (pv 1) pa_nil)))) (pss_one ps_never) pss_nil))
      (pssa_cons (psa_expr (pea_sup1 (i := 0) TS rfl hrS pass0 (pv 2)))
      (pssa_cons (PSA.of (ps_fld (pv 0) pe_int rfl))
      (pssa_one (PSA.of (ps_fld (pv 0) (pv 1) rfl)))))), ?_⟩
  refine ⟨_, rfl, .inl ⟨m, rfl, ?_⟩⟩
  rw [decide_eq_true hm.1, decide_eq_true hm.2]
  refine ⟨_, rfl, iteF ?_⟩
  refine ⟨x, spRule C, ⟨C, dx, fs, fR, rfl, hx, S, FR⟩, _, rfl, kt, _, rfl, .inl (SqT.of hkt), ?_⟩
  refine ⟨x, dx, fs, ks, rfl, hx, by omega, hK, fun kt2 H1 hk1 hk2 h1 kp1 => ?_⟩
  have nxk : x ≠ kt2 := ne_of_none hx hk1
  have l1 := putF_len "kinds" (.ref kt2) fs
  refine ⟨_, rfl, x, C, dx, _, rfl, h1, R.cl, R.nl, by omega, ?_⟩
  have l2 := putF_len "least" (.int 0) (putF "kinds" (.ref kt2) fs)
  refine ⟨_, rfl, _, rfl, x, C, dx, _, rfl, upd_same, R.cl, R.nm, by omega, ?_⟩
  refine k kt2 _ hk1 (by rw [upd_ne nxk.symm, upd_ne nxk.symm]; exact hk2) upd_same fun b o e n => ?_
  rw [upd_ne n, upd_ne n]
  exact kp1 b o e n
theorem ok_atleast1 (g : Bi mg) (R : RC K C) (FIb : Def P w K mg base CX0 2 "is_bound" ["thing"] (spIsBound K) fIb fdIb) (Fs : FunS K "__init__" "AtLeast.__init__" s_AtLeast_init f cda cc D kV doc pm ct an) (SG : SupG P K mg) (SD : SupD P K cda D)
    (S : Sup K C D "__init__" fR) (FR : FnR P w K mg base CX0 3 fR (spRule C)) : FnR P w K mg base CX0 4 f (spI 890 C okAM fsAL1) := by
  obtain ⟨GIb, mIb, _, bIb⟩ := id FIb
  refine spI_of (n := 1) (fun ns ⟨m, e, _⟩ => by rw [e]; rfl) (fn_supS (ps := ["self", "least"]) (pv := "rest") Fs sc_AtLeast_init StX.cxUp_none (fun us rest hl => match us, rest, hl with | [a, b], [], _ => rfl | [a, b], r :: rs, _ => rfl) fun A outer s H vs Q E hr h => ?_)
  obtain ⟨x, kt, dx, ns, fs, ks, rfl, ⟨m, rfl, hm⟩, hx, hfs, hkt, hK, k⟩ := h
  have TS := supT_mk (CX := CX0) (w := w) (base := base) (N := ["self", "least", "rest", "__class__"]) (A := A) (outer := outer) (s := s) (H := H) (E := E) (ar := "self") Fs SG SD rfl rfl rfl ⟨_, rfl, rfl⟩
  have hrIb : Room 2 _ := hr.mono (by decide)
  have hrS : Room 3 _ := hr
  refine ⟨_, (pssa_cons (PSA.of (ps_if (pt_not (pt_val (pe_call GIb hrIb rfl mIb FIb.kp bIb .nil pass0 (pa_cons (pv 1) pa_nil)))) (pss_one ps_never) pss_nil))
      (pssa_cons (PSA.of (ps_fld (pv 0) pe_non rfl))
      (pssa_cons (psa_expr (pea_sup1 (i := 0) TS rfl hrS pass0 (pv 2)))
      (pssa_one (PSA.of (ps_fld (pv 0) (pv 1) rfl)))))), ?_⟩
  refine ⟨_, rfl, .inl ⟨m, rfl, ?_⟩⟩
  rw [decide_eq_true hm.1, decide_eq_true hm.2]
  refine ⟨_, rfl, iteF ?_⟩
  have nxt : x ≠ kt := ne_of hx hkt (by intro z; cases z)
  refine ⟨_, rfl, x, C, dx, fs, rfl, hx, R.cl, R.nm, by omega, ?_⟩
  have l0 := putF_len "most" .non fs
  refine ⟨x, spRule C, ⟨C, dx, _, fR, rfl, upd_same, S, FR⟩, _, rfl, kt, _, rfl, .inl (SqT.of (by rw [upd_ne nxt.symm]; exact hkt)), ?_⟩
  refine ⟨x, dx, _, ks, rfl, upd_same, by omega, hK, fun kt2 H1 hk1 hk2 h1 kp1 => ?_⟩
  have nxk : x ≠ kt2 := ne_of_none upd_same hk1
  have hk0 : H kt2 = none := by rw [upd_ne nxk.symm] at hk1; exact hk1
  have l1 := putF_len "kinds" (.ref kt2) (putF "most" .non fs)
  refine ⟨_, rfl, _, rfl, x, C, dx, _, rfl, h1, R.cl, R.nl, by omega, ?_⟩
  refine k kt2 _ hk0 (by rw [upd_ne nxk.symm]; exact hk2) upd_same fun b o e n => ?_
  rw [upd_ne n]
  exact kp1 b o (by rw [upd_ne n]; exact e) n
theorem ok_atleast2 (g : Bi mg) (R : RC K C) (FIb : Def P w K mg base CX0 2 "is_bound" ["thing"] (spIsBound K) fIb fdIb) (Fs : FunS K "__init__" "AtLeast.__init__" s_AtLeast_init f cda cc D kV doc pm ct an) (SG : SupG P K mg) (SD : SupD P K cda D)
    (S : Sup K C D "__init__" fR) (FR : FnR P w K mg base CX0 4 fR (spI 890 C okAM fsAM)) : FnR P w K mg base CX0 5 f (spI 880 C okAL2 fsAL2) := by
  obtain ⟨GIb, mIb, _, bIb⟩ := id FIb
  have G := fn_supS (P := P) (w := w) (mg := mg) (base := base) (CX := CX0) (k := 4) (ps := ["self", "least"]) (pv := "rest") (sp := fun vs H Q _ => ∃ (x kt dx : Addr) (l m : Int) (fs : List (Str × V)) (ks : List Str), vs = [.ref x, .int l, .ref kt] ∧ Bnd9 l ∧ Bnd9 m ∧ H x = some (.ins C dx fs) ∧ fs.length < 880 ∧ H kt = some (.tup (.int m :: ks.map V.str)) ∧ Kinds ks ∧ RulNew C H Q x dx ks (fsAL2 [l, m] fs))
    Fs sc_AtLeast_init StX.cxUp_none (fun us rest hl => match us, rest, hl with | [a, b], [], _ => rfl | [a, b], r :: rs, _ => rfl) fun A outer s H vs Q E hr h => by
    obtain ⟨x, kt, dx, l, m, fs, ks, rfl, hl, hm, hx, hfs, hkt, hK, k⟩ := h
    have TS := supT_mk (CX := CX0) (w := w) (base := base) (N := ["self", "least", "rest", "__class__"]) (A := A) (outer := outer) (s := s) (H := H) (E := E) (ar := "self") Fs SG SD rfl rfl rfl ⟨_, rfl, rfl⟩
    have hrIb : Room 2 _ := hr.mono (by decide)
    have hrS : Room 4 _ := hr
    refine ⟨_, (pssa_cons (PSA.of (ps_if (pt_not (pt_val (pe_call GIb hrIb rfl mIb FIb.kp bIb .nil pass0 (pa_cons (pv 1) pa_nil)))) (pss_one ps_never) pss_nil))
      (pssa_cons (PSA.of (ps_fld (pv 0) pe_non rfl))
      (pssa_cons (psa_expr (pea_sup1 (i := 0) TS rfl hrS pass0 (pv 2)))
      (pssa_one (PSA.of (ps_fld (pv 0) (pv 1) rfl)))))), ?_⟩
    refine ⟨_, rfl, .inl ⟨l, rfl, ?_⟩⟩
    rw [decide_eq_true hl.1, decide_eq_true hl.2]
    refine ⟨_, rfl, iteF ?_⟩
    have nxt : x ≠ kt := ne_of hx hkt (by intro z; cases z)
    refine ⟨_, rfl, x, C, dx, fs, rfl, hx, R.cl, R.nm, by omega, ?_⟩
    have l0 := putF_len "most" .non fs
    refine ⟨x, spI 890 C okAM fsAM, ⟨C, dx, _, fR, rfl, upd_same, S, FR⟩, _, rfl, kt, _, rfl, .inl (SqT.of (by rw [upd_ne nxt.symm]; exact hkt)), ?_⟩
    · refine ⟨x, dx, [m], _, ks, rfl, ⟨m, rfl, hm⟩, upd_same, by omega, hK, fun kt2 H1 hk1 hk2 h1 kp1 => ?_⟩
      have nxk : x ≠ kt2 := ne_of_none upd_same hk1
      have hk0 : H kt2 = none := by rw [upd_ne nxk.symm] at hk1; exact hk1
      have l1 := putF_len "kinds" (.ref kt2) (putF "most" .non fs)
      have l2 := putF_len "least" (.int 0) (putF "kinds" (.ref kt2) (putF "most" .non fs))
      have l3 := putF_len "most" (.int m) (putF "least" (.int 0) (putF "kinds" (.ref kt2) (putF "most" .non fs)))
      refine ⟨_, rfl, _, rfl, x, C, dx, _, rfl, h1, R.cl, R.nl, Nat.lt_of_le_of_lt l3 (by omega), ?_⟩
      refine k kt2 _ hk0 (by rw [upd_ne nxk.symm]; exact hk2) upd_same fun b o e n => ?_
      rw [upd_ne n]
      exact kp1 b o (by rw [upd_ne n]; exact e) n
  refine G.imp fun vs H Q E h => ?_
  obtain ⟨x, dx, ns, fs, ks, rfl, ⟨l, m, rfl, hl, hm⟩, hx, hfs, hK, k⟩ := h
  have h3 := hK.hi
  refine ⟨[.ref x, .int l], .int m :: ks.map V.str, rfl, rfl, by rw [List.length_cons, List.length_map]; exact Nat.le_trans (show ks.length + 1 ≤ 4 by omega) (by decide), fun p hp => ?_⟩
  have s1 : Same H (upd H p (.tup (.int m :: ks.map V.str))) := Same.new hp
  exact ⟨x, p, dx, l, m, fs, ks, rfl, hl, hm, s1 _ _ hx, hfs, upd_same, hK, fun kt H' hk h1 h2 h4 => k kt H' (s1.free hk) h1 h2 fun b o e n => h4 b o (s1 _ _ e) n⟩
theorem ok_between (g : Bi mg) (R : RC K C) (FIb : Def P w K mg base CX0 2 "is_bound" ["thing"] (spIsBound K) fIb fdIb) (Fs : FunS K "__init__" "Between.__init__" s_Between_init f cda cc D kV doc pm ct an) (SG : SupG P K mg) (SD : SupD P K cda D)
    (S : Sup K C D "__init__" fR) (FR : FnR P w K mg base CX0 5 fR (spI 880 C okAL2 fsAL2)) : FnR P w K mg base CX0 6 f (spI 880 C okBt fsAL2) := by
  obtain ⟨GIb, mIb, _, bIb⟩ := id FIb
  refine spI_of (n := 2) (fun ns ⟨l, m, e, _⟩ => by rw [e]; rfl) (fn_supS (ps := ["self", "least", "most"]) (pv := "kinds") Fs sc_Between_init StX.cxUp_none (fun us rest hl => match us, rest, hl with | [a, b, c], [], _ => rfl | [a, b, c], r :: rs, _ => rfl) fun A outer s H vs Q E hr h => ?_)
  obtain ⟨x, kt, dx, ns, fs, ks, rfl, ⟨l, m, rfl, hl, hm, hlm⟩, hx, hfs, hkt, hK, k⟩ := h
  have TS := supT_mk (CX := CX0) (w := w) (base := base) (N := ["self", "least", "most", "kinds", "__class__"]) (A := A) (outer := outer) (s := s) (H := H) (E := E) (ar := "self") Fs SG SD rfl rfl rfl ⟨_, rfl, rfl⟩
  have hrIb : Room 2 _ := hr.mono (by decide)
  have hrS : Room 5 _ := hr
  refine ⟨_, (pssa_cons (PSA.of (ps_if (PW.pt (pw_or (pt_not (pt_val (pe_call GIb hrIb rfl mIb FIb.kp bIb .nil pass0 (pa_cons (pv 1) pa_nil)))) (pw_or (pt_not (pt_val (pe_call GIb hrIb rfl mIb FIb.kp bIb .nil pass0 (pa_cons (pv 2) pa_nil)))) (pw_or1 (pt_cmpR op_gt (pv 1) (pv 2) (nomark _)))))) (pss_one ps_never) pss_nil))
      (pssa_one (psa_expr (pea_sup2 (i := 0) TS rfl hrS pass0 (pa_cons (pv 1) (pa_cons (pv 2) (StX.pa_star (pv 3) pa_nil))))))), ?_⟩
  refine ⟨_, rfl, .inl ⟨l, rfl, ?_⟩⟩
  rw [decide_eq_true hl.1, decide_eq_true hl.2]
  refine ⟨_, rfl, iteF ⟨_, rfl, .inl ⟨m, rfl, ?_⟩⟩⟩
  rw [decide_eq_true hm.1, decide_eq_true hm.2]
  refine ⟨_, rfl, iteF ⟨_, rfl, _, rfl, _, _, rfl, rfl, _, rfl, ?_⟩⟩
  rw [decide_eq_false (show ¬ m < l by omega)]
  refine iteF ?_
  refine ⟨x, spI 880 C okAL2 fsAL2, ⟨C, dx, fs, fR, rfl, hx, S, FR⟩, _, rfl, _, rfl, _, rfl, kt, _, rfl, .inl (SqT.of hkt), ?_⟩
  refine ⟨x, dx, [l, m], fs, ks, ?_, ⟨l, m, rfl, hl, hm⟩, hx, hfs, hK, k⟩
  simp
theorem ok_exactly (g : Bi mg) (Fs : FunS K "__init__" "Exactly.__init__" s_Exactly_init f cda cc D kV doc pm ct an) (SG : SupG P K mg) (SD : SupD P K cda D)
    (S : Sup K C D "__init__" fR) (FR : FnR P w K mg base CX0 6 fR (spI 880 C okBt fsAL2)) : FnR P w K mg base CX0 7 f (spI 880 C okAM fsEx) := by
  refine spI_of (n := 1) (fun ns ⟨m, e, _⟩ => by rw [e]; rfl) (fn_supS (ps := ["self", "number"]) (pv := "kinds") Fs sc_Exactly_init StX.cxUp_none (fun us rest hl => match us, rest, hl with | [a, b], [], _ => rfl | [a, b], r :: rs, _ => rfl) fun A outer s H vs Q E hr h => ?_)
  obtain ⟨x, kt, dx, ns, fs, ks, rfl, ⟨m, rfl, hm⟩, hx, hfs, hkt, hK, k⟩ := h
  have TS := supT_mk (CX := CX0) (w := w) (base := base) (N := ["self", "number", "kinds", "__class__"]) (A := A) (outer := outer) (s := s) (H := H) (E := E) (ar := "self") Fs SG SD rfl rfl rfl ⟨_, rfl, rfl⟩
  have hrS : Room 6 _ := hr
  refine ⟨_, (pssa_one (psa_expr (pea_sup2 (i := 0) TS rfl hrS pass0 (pa_cons (pv 1) (pa_cons (pv 1) (StX.pa_star (pv 2) pa_nil)))))), ?_⟩
  refine ⟨x, spI 880 C okBt fsAL2, ⟨C, dx, fs, fR, rfl, hx, S, FR⟩, _, rfl, _, rfl, _, rfl, kt, _, rfl, .inl (SqT.of hkt), ?_⟩
  refine ⟨x, dx, [m, m], fs, ks, ?_, ⟨m, m, rfl, hm, hm, Int.le_refl _⟩, hx, hfs, hK, k⟩
  simp
end
end Cs

set_option Elab.async false
set_option linter.all false
set_option maxRecDepth 100000
set_option maxHeartbeats 8000000
set_option pp.maxSteps 600
/-! The law's kinds: drawn words, moved on by their last letter until they are free. -/
namespace Cs
open PySem L2
/-- a text by its codes -/
abbrev Tx (l : List Nat) : Str := ⟨l.toArray⟩
theorem let_range : LET.cps.toList = (List.range 26).map (97 + ·) := by decide +kernel
theorem mem_let {c : Nat} : c ∈ LET.cps.toList ↔ ∃ i, i < 26 ∧ c = 97 + i := by
  rw [let_range, List.mem_map]
  constructor
  · rintro ⟨i, hi, e⟩
    exact ⟨i, List.mem_range.mp hi, e.symm⟩
  · rintro ⟨i, hi, e⟩
    exact ⟨i, List.mem_range.mpr hi, e.symm⟩
theorem let_at {i : Nat} (h : i < 26) : LET.cps.toList[i]? = some (97 + i) := by
  rw [let_range, List.getElem?_map, List.getElem?_range h]
  rfl
theorem let_index : ∀ i, i < 26 → Builtin.Str.occurrences LET ⟨#[97 + i]⟩ 0 LET.length 1 = [i] := by decide +kernel
/-- the word with its last letter moved on -/
def rot (l : List Nat) (i m : Nat) : Str := Tx (l ++ [97 + (i + m) % 26])
theorem rot_word {l : List Nat} (i m : Nat) (h7 : l.length ≤ 7) (hl : ∀ c ∈ l, c ∈ LET.cps.toList) : Word (rot l i m) := by
  refine ⟨?_, ?_, fun c hc => ?_⟩
  · show 1 ≤ (l ++ [97 + (i + m) % 26]).toArray.size
    simp
  · show (l ++ [97 + (i + m) % 26]).toArray.size ≤ 8
    simp
    omega
  · have hc : c ∈ l ++ [97 + (i + m) % 26] := hc
    rcases List.mem_append.mp hc with q | q
    · exact hl c q
    · rw [List.mem_singleton.mp q]
      exact mem_let.mpr ⟨_, Nat.mod_lt _ (by decide), rfl⟩
theorem word_rot {z : Str} (h : Word z) : ∃ l i, i < 26 ∧ z = rot l i 0 ∧ l.length ≤ 7 ∧ ∀ c ∈ l, c ∈ LET.cps.toList := by
  obtain ⟨⟨ls⟩, ez⟩ : ∃ a, z = ⟨a⟩ := ⟨_, rfl⟩
  subst ez
  obtain ⟨h1, h2, h3⟩ := h
  have h1 : 1 ≤ ls.length := h1
  have h2 : ls.length ≤ 8 := h2
  have ne : ls ≠ [] := by
    rintro rfl
    simp at h1
  have e := List.dropLast_concat_getLast ne
  obtain ⟨i, hi, ei⟩ := mem_let.mp (h3 (ls.getLast ne) (List.getLast_mem ne))
  refine ⟨ls.dropLast, i, hi, ?_, by rw [List.length_dropLast]; omega, fun c hc => h3 c ((List.dropLast_sublist ls).subset hc)⟩
  unfold rot Tx
  rw [Nat.add_zero, Nat.mod_eq_of_lt hi, ← ei, e]
theorem rot_inj {l : List Nat} {i a b : Nat} (ha : a < 26) (hb : b < 26) (h : rot l i a = rot l i b) : a = b := by
  unfold rot Tx at h
  have h := congrArg (fun z : Str => z.cps.toList) h
  have h : l ++ [97 + (i + a) % 26] = l ++ [97 + (i + b) % 26] := h
  have h := List.append_cancel_left h
  have h : 97 + (i + a) % 26 = 97 + (i + b) % 26 := List.cons.inj h |>.1
  omega
theorem rot_free {l : List Nat} {i : Nat} {bs : List Str} (hb : bs.length ≤ 25) (h : ∀ j, j < 26 → rot l i j ∈ bs) : False := by
  have nd : ((List.range 26).map (rot l i)).Nodup := by
    rw [List.Nodup, List.pairwise_map]
    refine List.nodup_range.imp_of_mem fun {a b} ha hb' ne e => ne (rot_inj (List.mem_range.mp ha) (List.mem_range.mp hb') e)
  have := nd_len nd (ys := bs) fun z hz => by
    obtain ⟨j, hj, rfl⟩ := List.mem_map.mp hz
    exact h j (List.mem_range.mp hj)
  rw [List.length_map, List.length_range] at this
  omega
theorem rot_cut (l : List Nat) (c : Nat) : cutS (Tx (l ++ [c])) none (some (-1)) = Tx l := by
  unfold cutS
  have h1 : (Tx (l ++ [c])).length = l.length + 1 := by show (l ++ [c]).toArray.size = _; simp
  have h2 : HT.sIx (l.length + 1) 0 none = 0 := rfl
  have h3 : HT.sIx (l.length + 1) (l.length + 1) (some (-1)) = l.length := by
    unfold HT.sIx
    first
    | (simp; omega)
    | omega
    | simp
  rw [h1, h2, h3]
  show Tx (((l ++ [c]).drop 0).take (l.length - 0)) = Tx l
  simp
theorem tx_cat (a b : List Nat) : Tx a ++ Tx b = Tx (a ++ b) := str_ext (by rw [PySem.Str.cps_append]; simp)
def spKind : Sp := fun vs H Q _ => ∃ (p c tk : Addr) (ts : List Str), vs = [.ref p, .ref tk] ∧ Src H p c ∧ H tk = some (.lst (ts.map V.str)) ∧ ts.length ≤ 9 ∧ tk ≠ p ∧ ∀ (z : Str) (H' : Hp), Kind z → z ∉ ts → Src H' p c → Kp p H H' → Q (.str z) H'
def spKinds : Sp := fun vs H Q _ => ∃ (p c : Addr) (n : Nat), vs = [.ref p, .int n] ∧ Src H p c ∧ n ≤ 9 ∧ ∀ (q : Addr) (H' : Hp) (ks : List Str), H q = none → H' q = some (.lst (ks.map V.str)) → ks.length = n → ks.Nodup → (∀ z ∈ ks, Kind z) → Src H' p c → Kp p H H' → Q (.ref q) H'
def W13 : List Str := ["self", "at", "to", "exactly", "least", "most", "from", "rule", "door", "limit", "begin", "store", "loose"]
theorem w13 : ∀ j : Nat, j < 13 → ∃ z : Str, (W13.map V.str)[j]? = some (.str z) ∧ Word z := by
  intro j hj
  have key : ∀ z ∈ W13, Word z := by
    unfold W13
    intro z hz
    simp only [List.mem_cons, List.not_mem_nil, or_false] at hz
    rcases hz with rfl | rfl | rfl | rfl | rfl | rfl | rfl | rfl | rfl | rfl | rfl | rfl | rfl <;> exact ⟨by decide, by decide, by decide +kernel⟩
  have hl : j < W13.length := hj
  exact ⟨W13[j], by rw [List.getElem?_map, List.getElem?_eq_getElem hl]; rfl, key _ (List.getElem_mem hl)⟩
section
variable {P : Program} {w : World} {K : PySem.W.Frag} {mg : Str → Option Value} {base : Heap}
theorem ok_kind {f fD : Addr} {fd fdD : FuncData} (F : Fun K "_law_kind" "_law_kind" s_l_kind f fd) (g : Bi mg) (FD : Def P w K mg base CX0 2 "_law_draw" ["_law_source_here", "_law_size"] spDraw fD fdD) : FnOk P w K mg base CX0 3 f fd ["_law_source_here", "_law_taken"] spKind := by
  obtain ⟨GD, mD, _, bD⟩ := id FD
  refine F.ok sc_l_kind (fun vs H Q E h => ?_) (fun cdv A outer s H vs Q E hr h => ?_)
  · obtain ⟨_, _, _, _, rfl, _⟩ := h
    rfl
  · obtain ⟨p, c, tk, ts, rfl, S0, htk, hts, ntp, k⟩ := h
    have hrD : Room 2 _ := hr.mono (by decide)
    refine ⟨_, (pss_cons (ps_set (i := 2) sc_l_kind.nd rfl (Or.inl rfl) pe_str)
      (pss_cons (ps_set (i := 3) sc_l_kind.nd rfl (Or.inl rfl) (pe_lst (pa_cons pe_str (pa_cons pe_str (pa_cons pe_str (pa_cons pe_str (pa_cons pe_str (pa_cons pe_str (pa_cons pe_str (pa_cons pe_str (pa_cons pe_str (pa_cons pe_str (pa_cons pe_str (pa_cons pe_str (pa_cons pe_str (pa_cons pe_str pa_nil))))))))))))))))
      (pss_cons (ps_set (i := 3) sc_l_kind.nd rfl (Or.inl rfl) (pe_op op_cat (pv 3) (pe_lst (pa_cons pe_str (pa_cons pe_str pa_nil)))))
      (pss_cons (ps_set (i := 4) sc_l_kind.nd rfl (Or.inl rfl) (pe_lst (pa_cons pe_str (pa_cons pe_str (pa_cons pe_str (pa_cons pe_str (pa_cons pe_str (pa_cons pe_str (pa_cons pe_str (pa_cons pe_str (pa_cons pe_str (pa_cons pe_str (pa_cons pe_str (pa_cons pe_str (pa_cons pe_str pa_nil)))))))))))))))
      (pss_cons (ps_set (i := 5) sc_l_kind.nd rfl (Or.inl rfl) pe_str)
      (pss_cons (ps_for PassesOwn.never rfl (pi_range1 rfl g.range (pa_cons (pe_op op_add pe_int (pe_call GD hrD rfl mD FD.kp bD .nil pass0 (pa_cons (pv 0) (pa_cons pe_int pa_nil)))) pa_nil)) (pg_name (i := 6) sc_l_kind.nd rfl (Or.inl rfl)) (pss_one (ps_set (i := 5) sc_l_kind.nd rfl (Or.inl rfl) (pe_op op_add_str (pv 5) (pe_ix ix_str (pv 2) (pe_call GD hrD rfl mD FD.kp bD .nil pass0 (pa_cons (pv 0) (pa_cons pe_int pa_nil))) (fun _ _ => rfl))))))
      (C8.pss_cut (ps_if (pt_cmpR op_eq (pe_call GD hrD rfl mD FD.kp bD .nil pass0 (pa_cons (pv 0) (pa_cons pe_int pa_nil))) pe_int (nomark _)) (pss_one (ps_set (i := 5) sc_l_kind.nd rfl (Or.inl rfl) (pe_ix ix_list (pv 4) (pe_call GD hrD rfl mD FD.kp bD .nil pass0 (pa_cons (pv 0) (pa_cons pe_int pa_nil))) (fun _ _ => rfl)))) pss_nil)
      (pss_cons (ps_for PassesOwn.never rfl (pi_range1 rfl g.range (pa_cons pe_int pa_nil)) (pg_name (i := 6) sc_l_kind.nd rfl (Or.inl rfl)) (pss_one (ps_if (PW.pt (pw_or (pt_cmpR op_in_seq (pv 5) (pv 1) (by rfl)) (pw_or1 (pt_cmpR op_in_seq (pv 5) (pv 3) (by rfl))))) (pss_one (ps_set (i := 5) sc_l_kind.nd rfl (Or.inl rfl) (pe_op op_add_str (pe_slice sl_str (pv 5) po_none (po_some (pe_un un_neg pe_int))) (pe_ix ix_str (pv 2) (pe_op op_mod (pe_op op_add (pe_m1 PySem.F.slot_str_index PySem.F.type_str_index mt_sindex (pv 2) (pe_ix ix_str (pv 5) (pe_un un_neg pe_int) (fun _ _ => rfl))) pe_int) pe_int) (fun _ _ => rfl))))) pss_nil)))
      (pss_one (ps_ret (pv 5))))))))))), ?_⟩
    refine ⟨by show 14 ≤ sizeLine; decide, fun b1 hb1 => ?_⟩
    generalize hB1 : ([V.str "hold", .str "look", .str "do", .str "row", .str "one", .str "all", .str "new", .str "give", .str "take", .str "join", .str "other", .str "if", .str "and", .str "or"] : List V) = B1
    have s1 : Same H (upd H b1 (.lst B1)) := Same.new hb1
    have h1 : (upd H b1 (.lst B1)) b1 = some (.lst B1) := upd_same
    generalize upd H b1 (.lst B1) = H1 at s1 h1
    refine ⟨_, rfl, by show 2 ≤ sizeLine; decide, fun b2 hb2 => ?_⟩
    have s2 : Same H1 (upd H1 b2 (.lst [.str "then", .str "gone"])) := Same.new hb2
    have h2 : (upd H1 b2 (.lst [.str "then", .str "gone"])) b2 = some (.lst [.str "then", .str "gone"]) := upd_same
    generalize upd H1 b2 (.lst [.str "then", .str "gone"]) = H2 at s2 h2
    refine ⟨b1, b2, _, _, rfl, rfl, s2 _ _ h1, h2, by rw [← hB1]; show 14 + 2 ≤ sizeLine; decide, fun b3 hb3 => ?_⟩
    have eR : B1 ++ [.str "then", .str "gone"] = RES.map V.str := by rw [← hB1]; rfl
    rw [eR]
    have s3 : Same H2 (upd H2 b3 (.lst (RES.map V.str))) := Same.new hb3
    have h3 : (upd H2 b3 (.lst (RES.map V.str))) b3 = some (.lst (RES.map V.str)) := upd_same
    have n3p : b3 ≠ p := (S0.same (s1.trans s2)).new_p hb3
    generalize upd H2 b3 (.lst (RES.map V.str)) = H3 at s3 h3
    refine ⟨by show 13 ≤ sizeLine; decide, fun b4 hb4 => ?_⟩
    have s4 : Same H3 (upd H3 b4 (.lst (W13.map V.str))) := Same.new hb4
    have h4 : (upd H3 b4 (.lst (W13.map V.str))) b4 = some (.lst (W13.map V.str)) := upd_same
    have s14 := ((s1.trans s2).trans s3).trans s4
    have n4p : b4 ≠ p := (S0.same ((s1.trans s2).trans s3)).new_p hb4
    have eU : upd H3 b4 (.lst (W13.map V.str)) = upd H3 b4 (.lst [V.str "self", .str "at", .str "to", .str "exactly", .str "least", .str "most", .str "from", .str "rule", .str "door", .str "limit", .str "begin", .str "store", .str "loose"]) := rfl
    rw [eU] at s4 h4 s14
    generalize upd H3 b4 (.lst [V.str "self", .str "at", .str "to", .str "exactly", .str "least", .str "most", .str "from", .str "rule", .str "door", .str "limit", .str "begin", .str "store", .str "loose"]) = H4 at s4 h4 s14
    have S4 := S0.same s14
    have h34 := s4 _ _ h3
    have ht4 := s14 _ _ htk
    clear eU eR hB1 h1 h2 h3 s1 s2 s3 s4 hb1 hb2 hb3 hb4
    refine ⟨_, rfl, p, c, 8, rfl, S4, by decide, by decide, fun v1 H5 v10 v11 S5 k5 => ⟨_, _, rfl, rfl, _, rfl, by omega, by omega, ?_⟩⟩
    have kA := Kp.of (p := p) s14
    -- the letters
    refine for_range (lo := 0) (n := (1 + v1).toNat) (fun i σ' H' => ∃ (z : Str) (x6 : Option V), σ' = [some (.ref p), some (.ref tk), some (.str LET), some (.ref b3), some (.ref b4), some (.str z), x6] ∧ z.length = i ∧ (∀ c ∈ z.cps.toList, c ∈ LET.cps.toList) ∧ Src H' p c ∧ Kp p H4 H')
      ⟨Str.empty, _, rfl, rfl, (fun _ h => by cases h), S5, k5⟩ ?_ ?_
    · rintro i σ' H' hi ⟨z, x6, rfl, hz, hzl, S', k'⟩
      refine ⟨_, rfl, _, rfl, _, rfl, p, c, 26, rfl, S', by decide, by decide, fun v2 H6 v20 v21 S6 k6 => ?_⟩
      obtain ⟨j, ej⟩ : ∃ j : Nat, v2 = j := ⟨v2.toNat, by omega⟩
      subst ej
      have hj : j < 26 := by omega
      refine ⟨LET, (j : Int), 97 + j, rfl, rfl, by decide, atI_nat (let_at hj), ?_⟩
      refine ⟨z, _, rfl, rfl, ?_, ?_⟩
      · show z.length + 1 ≤ sizeLine
        exact Nat.le_trans (show z.length + 1 ≤ 100 by omega) (by decide)
      · refine ⟨_, _, rfl, ?_, fun d hd => ?_, S6, k'.trans k6⟩
        · rw [len_add]
          show z.length + 1 = i + 1
          omega
        · rw [PySem.Str.cps_append, Array.toList_append] at hd
          rcases List.mem_append.mp hd with q | q
          · exact hzl d q
          · have : d = 97 + j := by simpa using q
            rw [this]
            exact mem_let.mpr ⟨j, hj, rfl⟩
    rintro σ' H' ⟨z, x6, rfl, hz, hzl, S', k'⟩
    have hw0 : Word z := ⟨by omega, by omega, hzl⟩
    clear hz hzl
    -- a known word
    refine ⟨fun σ2 H2 => ∃ z : Str, σ2 = [some (.ref p), some (.ref tk), some (.str LET), some (.ref b3), some (.ref b4), some (.str z), x6] ∧ Word z ∧ Src H2 p c ∧ Kp p H4 H2, ?_, ?_⟩
    · refine ⟨_, rfl, p, c, 8, rfl, S', by decide, by decide, fun v2 H6 v20 v21 S6 k6 => ⟨rfl, _, rfl, ite2 (fun z1 => ?_) (fun z1 => ?_)⟩⟩
      · refine ⟨_, rfl, _, rfl, p, c, 13, rfl, S6, by decide, by decide, fun v3 H7 v30 v31 S7 k7 => ?_⟩
        have k47 := (k'.trans k6).trans k7
        obtain ⟨y, ey, hy⟩ := w13 v3.toNat (by omega)
        refine ⟨b4, _, v3, _, rfl, rfl, SqL.of (k47 _ _ h4 n4p), at_of (z := v3) (j := v3.toNat) (by omega) ey, ?_⟩
        exact ⟨y, rfl, hy, S7, k47⟩
      · exact ⟨z, rfl, hw0, S6, k'.trans k6⟩
    clear S' k' hw0
    rintro σ2 H6 ⟨z, rfl, hw, S6, k6⟩
    obtain ⟨l, i0, hi0, rfl, hl7, hll⟩ := word_rot hw
    have h36 := k6 _ _ h34 n3p
    have ht6 := k6 _ _ ht4 ntp
    have fl : (ts.map V.str).all flatV = true := flat_str ts
    have fr : (RES.map V.str).all flatV = true := flat_str RES
    refine ⟨26, rfl, by decide, by decide, ?_⟩
    refine for_range (lo := 0) (n := 26) (fun i σ' H' => H' = H6 ∧ ∃ (m : Nat) (x6 : Option V), σ' = [some (.ref p), some (.ref tk), some (.str LET), some (.ref b3), some (.ref b4), some (.str (rot l i0 m)), x6] ∧ m ≤ i ∧ (m < i → rot l i0 m ∉ ts ∧ rot l i0 m ∉ RES) ∧ ∀ j, j < m → rot l i0 j ∈ ts ++ RES)
      ⟨rfl, 0, _, rfl, Nat.le_refl _, (fun h => absurd h (Nat.lt_irrefl _)), fun j h => absurd h (Nat.not_lt_zero _)⟩ ?_ ?_
    · rintro i σ' H' hi ⟨rfl, m, x6, rfl, hm, hf, hb⟩
      have stop : rot l i0 m ∉ ts → rot l i0 m ∉ RES → ∃ (m' : Nat) (x6' : Option V), ([some (.ref p), some (.ref tk), some (.str LET), some (.ref b3), some (.ref b4), some (.str (rot l i0 m)), some (.int (0 + (i : Int)))] : L2.St) = [some (.ref p), some (.ref tk), some (.str LET), some (.ref b3), some (.ref b4), some (.str (rot l i0 m')), x6'] ∧ m' ≤ i + 1 ∧ (m' < i + 1 → rot l i0 m' ∉ ts ∧ rot l i0 m' ∉ RES) ∧ ∀ j, j < m' → rot l i0 j ∈ ts ++ RES :=
        fun a b => ⟨m, _, rfl, by omega, fun _ => ⟨a, b⟩, hb⟩
      have next : rot l i0 m ∈ ts ++ RES → m = i := fun q => by
        by_cases e : m = i
        · exact e
        · obtain ⟨a, b⟩ := hf (by omega)
          rcases List.mem_append.mp q with q | q
          · exact absurd q a
          · exact absurd q b
      have body : ∀ {D : Ends}, rot l i0 m ∈ ts ++ RES → True := fun _ => trivial
      refine ⟨_, rfl, _, rfl, tk, _, rfl, .inl (SqL.of ht6), rfl, fl, _, rfl, ?_⟩
      have hr1 : (rot l i0 m).length ≤ sizeLine := Nat.le_trans (rot_word i0 m hl7 hll).2.1 (by decide)
      have hmod : (i0 + m) % 26 < 26 := Nat.mod_lt _ (by decide)
      have hlast : atI (rot l i0 m).cps.toList (-1) = some (97 + (i0 + m) % 26) := atI_last l _
      have hsucc : Tx l ++ (⟨#[97 + ((i0 + m) % 26 + 1) % 26]⟩ : Str) = rot l i0 (m + 1) := by
        show Tx l ++ Tx [97 + ((i0 + m) % 26 + 1) % 26] = _
        rw [tx_cat]
        unfold rot
        rw [show ((i0 + m) % 26 + 1) % 26 = (i0 + (m + 1)) % 26 by omega]
      have hmod2 : ((i0 + m) % 26 + 1) % 26 < 26 := Nat.mod_lt _ (by decide)
      have ecut : cutS (rot l i0 m) none (some (-1)) = Tx l := rot_cut l _
      have eix : ((((i0 + m) % 26 : Nat) : Int) + 1) % 26 = ((((i0 + m) % 26 + 1) % 26 : Nat) : Int) := by omega
      have hl8 : (Tx l).length = l.length := by show l.toArray.size = _; simp
      rw [in_str]
      refine ite2 (fun z1 => ?_) (fun z1 => ?_)
      · have hin := of_decide_eq_true z1
        have hmem : rot l i0 m ∈ ts ++ RES := List.mem_append.mpr (.inl hin)
        refine ⟨_, rfl, _, rfl, _, rfl, rot l i0 m, rfl, hr1, ?_⟩

        refine ⟨_, rfl, _, rfl, ⟨_, rfl⟩, _, rfl, _, rfl, rot l i0 m, -1, _, rfl, rfl, hr1, hlast, LET, _, _, [], rfl, rfl, let_index _ hmod, _, _, rfl, rfl, _, _, rfl, rfl, (by show (0 : Int) < 26; decide), LET, _, 97 + ((i0 + m) % 26 + 1) % 26, rfl, rfl, by decide, (by rw [eix]; exact atI_nat (let_at hmod2)), ?_⟩
        refine ⟨_, _, rfl, rfl, ?_, ?_⟩
        · rw [ecut, hl8]
          exact Nat.le_trans (show l.length + 1 ≤ 100 by omega) (by decide)
        · rw [ecut, hsucc]
          exact ⟨rfl, m + 1, _, rfl, by omega, fun h => by have := next hmem; omega, fun j hj => by
            rcases Nat.lt_succ_iff_lt_or_eq.mp hj with q | q
            · exact hb j q
            · rw [q]; exact hmem⟩
      · have hno : rot l i0 m ∉ ts := fun q => z1 (decide_eq_true q)
        refine ⟨_, rfl, _, rfl, b3, _, rfl, .inl (SqL.of h36), rfl, fr, _, rfl, ?_⟩
        rw [in_str]
        refine ite2 (fun z2 => ?_) (fun z2 => ?_)
        · have hin := of_decide_eq_true z2
          have hmem : rot l i0 m ∈ ts ++ RES := List.mem_append.mpr (.inr hin)
          refine ⟨_, rfl, _, rfl, _, rfl, rot l i0 m, rfl, hr1, ?_⟩
          refine ⟨_, rfl, _, rfl, ⟨_, rfl⟩, _, rfl, _, rfl, rot l i0 m, -1, _, rfl, rfl, hr1, hlast, LET, _, _, [], rfl, rfl, let_index _ hmod, _, _, rfl, rfl, _, _, rfl, rfl, (by show (0 : Int) < 26; decide), LET, _, 97 + ((i0 + m) % 26 + 1) % 26, rfl, rfl, by decide, (by rw [eix]; exact atI_nat (let_at hmod2)), ?_⟩
          refine ⟨_, _, rfl, rfl, ?_, ?_⟩
          · rw [ecut, hl8]
            exact Nat.le_trans (show l.length + 1 ≤ 100 by omega) (by decide)
          · rw [ecut, hsucc]
            exact ⟨rfl, m + 1, _, rfl, by omega, fun h => by have := next hmem; omega, fun j hj => by
              rcases Nat.lt_succ_iff_lt_or_eq.mp hj with q | q
              · exact hb j q
              · rw [q]; exact hmem⟩
        · have hno2 : rot l i0 m ∉ RES := fun q => z2 (decide_eq_true q)
          exact ⟨rfl, stop hno hno2⟩
    · rintro σ' H' ⟨rfl, m, x6, rfl, hm, hf, hb⟩
      have hm26 : m < 26 := by
        by_cases e : m = 26
        · subst e
          exact (rot_free (bs := ts ++ RES) (by rw [List.length_append]; show ts.length + 16 ≤ 25; omega) hb).elim
        · omega
      obtain ⟨a, b⟩ := hf hm26
      refine ⟨_, rfl, ?_⟩
      exact k _ _ ⟨rot_word i0 m hl7 hll, b⟩ a S6 (kA.trans k6)
theorem ok_kinds {f fK : Addr} {fd fdK : FuncData} (F : Fun K "_law_kinds" "_law_kinds" s_l_kinds f fd) (g : Bi mg) (FK : Def P w K mg base CX0 3 "_law_kind" ["_law_source_here", "_law_taken"] spKind fK fdK) : FnOk P w K mg base CX0 4 f fd ["_law_source_here", "_law_many"] spKinds := by
  obtain ⟨GK, mK, _, bK⟩ := id FK
  refine F.ok sc_l_kinds (fun vs H Q E h => ?_) (fun cdv A outer s H vs Q E hr h => ?_)
  · obtain ⟨_, _, _, rfl, _⟩ := h
    rfl
  · obtain ⟨p, c, n, rfl, S0, hn, k⟩ := h
    have hrK : Room 3 _ := hr.mono (by decide)
    refine ⟨_, (pss_cons (ps_set (i := 2) sc_l_kinds.nd rfl (Or.inl rfl) (pe_lst pa_nil))
      (pss_cons (ps_for PassesOwn.never rfl (pi_range1 rfl g.range (pa_cons (pv 1) pa_nil)) (pg_name (i := 3) sc_l_kinds.nd rfl (Or.inl rfl)) (pss_one (ps_expr (pe_bm PySem.F.plainAttrs_list PySem.F.slot_list_append PySem.F.type_list_append mt_append (pv 2) (pa_cons (pe_call GK hrK rfl mK FK.kp bK .nil pass0 (pa_cons (pv 0) (pa_cons (pv 2) pa_nil))) pa_nil)))))
      (pss_one (ps_ret (pv 2))))), ?_⟩
    refine ⟨Nat.zero_le _, fun q hq => ?_⟩
    have s1 : Same H (upd H q (.lst [])) := Same.new hq
    have h1 : (upd H q (.lst [])) q = some (.lst []) := upd_same
    have nqp : q ≠ p := S0.new_p hq
    have nqc : q ≠ c := S0.new_c hq
    generalize upd H q (.lst []) = H1 at s1 h1
    refine ⟨_, rfl, _, rfl, by omega, by omega, ?_⟩
    refine for_range (lo := 0) (n := ((n : Int)).toNat) (fun i σ' H' => ∃ (ks : List Str) (x3 : Option V), σ' = [some (.ref p), some (.int n), some (.ref q), x3] ∧ H' q = some (.lst (ks.map V.str)) ∧ ks.length = i ∧ ks.Nodup ∧ (∀ z ∈ ks, Kind z) ∧ Src H' p c ∧ Kp p H H')
      ⟨[], _, rfl, h1, rfl, List.nodup_nil, (fun _ h => nomatch h), S0.same s1, Kp.of s1⟩ ?_ ?_
    · rintro i σ' H' hi ⟨ks, x3, rfl, hq', hl, hnd, hkd, S', k'⟩
      refine ⟨_, rfl, .inl ⟨rfl, _, SqL.of hq'⟩, _, rfl, _, rfl, p, c, q, ks, rfl, S', hq', by omega, nqp, fun z H2 hz hzn S2 k2 => ?_⟩
      have hq2 := k2 _ _ hq' nqp
      refine ⟨q, _, _, rfl, rfl, hq2, ?_, ?_⟩
      · rw [List.length_map]
        exact Nat.lt_of_le_of_lt (show ks.length ≤ 100 by omega) (by decide)
      have kq : ∀ b o, H2 b = some o → b ≠ q → (upd H2 q (.lst (ks.map V.str ++ [.str z]))) b = some o := fun b o e n => by rw [upd_ne n]; exact e
      refine ⟨ks ++ [z], _, rfl, ?_, ?_, ?_, fun y hy => ?_, S2.keep (fun b o hb e => kq b o e (by rcases hb with rfl | rfl; exact nqp.symm; exact nqc.symm)), fun b o e n => kq _ _ (k2 _ _ (k' b o e n) n) (ne_of_none e hq)⟩
      · rw [upd_same, List.map_append]
        rfl
      · rw [List.length_append, hl]
        rfl
      · exact List.nodup_append.mpr ⟨hnd, List.pairwise_singleton _ _, fun a ha b hb e => by rw [List.mem_singleton.mp hb] at e; exact hzn (e ▸ ha)⟩
      · rcases List.mem_append.mp hy with e | e
        · exact hkd y e
        · rw [List.mem_singleton.mp e]
          exact hz
    · rintro σ' H' ⟨ks, x3, rfl, hq', hl, hnd, hkd, S', k'⟩
      exact ⟨_, rfl, k q H' ks hq hq' (by omega) hnd hkd S' k'⟩
end
end Cs

set_option Elab.async false
set_option linter.all false
set_option maxRecDepth 100000
set_option maxHeartbeats 4000000
set_option pp.maxSteps 600
/-! The five classes of rules, their objects, and how they are made. -/
namespace Cs
open PySem L2
inductive RCl where
  | al | am | bt | ex
/-- the classes' places -/
structure RAd where
  R : Addr
  al : Addr
  am : Addr
  bt : Addr
  ex : Addr
def RAd.at (a : RAd) : RCl → Addr
  | .al => a.al
  | .am => a.am
  | .bt => a.bt
  | .ex => a.ex
/-- which of the four a rule is, too -/
def isA : RCl → RCl → Bool
  | .al, .al => true
  | .al, _ => false
  | .am, .am => true
  | .am, _ => false
  | .bt, .ex => false
  | .bt, _ => true
  | .ex, _ => true
/-- what isinstance asks of an object of the class -/
structure RI (K : PySem.W.Frag) (C : Addr) : Prop where
  cl : Cls K C
  ha : PySem.W.findIn K (.ref C) "__class__" = some (some (.builtin "object.__class__"))
  hn : PySem.W.specialIn K (.builtin "object.__class__") "__get__" = some (some (.builtin "getset_descriptor.__get__"))
  htk : PySem.W.takesIn K (.builtin "object.__class__") = some true
  hm : PySem.W.mroIn K C (.type "object") = some true
theorem RI.ty {K : PySem.W.Frag} {C : Addr} {H : Hp} {p dx : Addr} {fs : List (Str × V)} (c : RI K C) (h : H p = some (.ins C dx fs)) : TyX K H (.ref p) (.ref C) := .base (.ins h c.cl c.ha c.hn c.htk c.hm)
theorem kitR_self {K : PySem.W.Frag} {C : Addr} : PySem.W.kitOne K (.ref C) (.ref C) = some true := by
  unfold PySem.W.kitOne
  rw [if_pos (beq_self_eq_true _)]
theorem kitR_by {K : PySem.W.Frag} {C : Addr} {t : Value} {b : Bool} (h1 : PySem.W.isClsIn K C = true) (h2 : PySem.W.typeIn K (.ref C) = some (.type "type")) (h : PySem.W.subIn K t (.ref C) = some b) (hn : (t == Value.ref C) = false) : PySem.W.kitOne K t (.ref C) = some b := by
  have h1' : (PySem.W.clsIn K C).isSome = true := h1
  unfold PySem.W.kitOne PySem.W.kitCls
  simp [hn, h1', h2, h]
/-- .. where the answer is yes -/
theorem kitR_yes {K : PySem.W.Frag} {C : Addr} {t : Value} (h1 : PySem.W.isClsIn K C = true) (h2 : PySem.W.typeIn K (.ref C) = some (.type "type")) (h : PySem.W.subIn K t (.ref C) = some true) : PySem.W.kitOne K t (.ref C) = some true := by
  cases e : (t == Value.ref C) with
  | false => exact kitR_by h1 h2 h e
  | true =>
    unfold PySem.W.kitOne
    rw [if_pos e]
theorem kitR_no {K : PySem.W.Frag} {C D : Addr} (h1 : PySem.W.isClsIn K C = true) (h2 : PySem.W.typeIn K (.ref C) = some (.type "type")) (h : PySem.W.subIn K (.ref D) (.ref C) = some false) (hn : D ≠ C) : PySem.W.kitOne K (.ref D) (.ref C) = some false :=
  kitR_by h1 h2 h (beq_eq_false_iff_ne.mpr fun e => hn (by cases e; rfl))
structure RWo (K : PySem.W.Frag) (mg : Str → Option Value) (a : RAd) : Prop where
  mR : mg "Rule" = some (.ref a.R)
  mal : mg "AtLeast" = some (.ref a.al)
  mam : mg "AtMost" = some (.ref a.am)
  mbt : mg "Between" = some (.ref a.bt)
  mex : mg "Exactly" = some (.ref a.ex)
  rc : ∀ c, RC K (a.at c)
  ri : ∀ c, RI K (a.at c)
  kitR : ∀ c, PySem.W.kitOne K (.ref (a.at c)) (.ref a.R) = some true
  kit : ∀ c d, PySem.W.kitOne K (.ref (a.at c)) (.ref (a.at d)) = some (isA c d)
/-- how the four are made -/
structure RMk (P : Program) (w : World) (K : PySem.W.Frag) (mg : Str → Option Value) (base : Heap) (a : RAd) : Prop where
  wo : RWo K mg a
  al : ∃ f, Mk K a.al f ∧ FnR P w K mg base CX0 7 f (spI 880 a.al okAM fsAL1)
  am : ∃ f, Mk K a.am f ∧ FnR P w K mg base CX0 7 f (spI 880 a.am okAM fsAM)
  bt : ∃ f, Mk K a.bt f ∧ FnR P w K mg base CX0 7 f (spI 880 a.bt okBt fsAL2)
  ex : ∃ f, Mk K a.ex f ∧ FnR P w K mg base CX0 7 f (spI 880 a.ex okAM fsEx)
theorem FnR.less {P : Program} {w : World} {K : PySem.W.Frag} {mg : Str → Option Value} {base : Heap} {k bd bd' : Nat} {f C : Addr} {ok : List Int → Prop} {F : List Int → List (Str × V) → Addr → List (Str × V)} (G : FnR P w K mg base CX0 k f (spI bd C ok F)) (h : bd' ≤ bd) : FnR P w K mg base CX0 k f (spI bd' C ok F) := by
  refine G.imp fun vs H Q E q => ?_
  obtain ⟨x, dx, ns, fs, ks, rfl, ho, hx, hfs, hK, k⟩ := q
  exact ⟨x, dx, ns, fs, ks, rfl, ho, hx, Nat.lt_of_lt_of_le hfs h, hK, k⟩
/-- an integer or None -/
def optV : Option Int → V
  | none => .non
  | some n => .int n
/-- no field has a method's name -/
def NoM (fs : List (Str × V)) : Prop := ∀ g ∈ (["total_of", "holds", "lacks", "sum_text"] : List Str), fs.lookup g = none
theorem nom {fs : List (Str × V)} (h1 : fs.lookup ("total_of" : Str) = none) (h2 : fs.lookup ("holds" : Str) = none) (h3 : fs.lookup ("lacks" : Str) = none) (h4 : fs.lookup ("sum_text" : Str) = none) : NoM fs := by
  intro g hg
  simp only [List.mem_cons, List.not_mem_nil, or_false] at hg
  rcases hg with rfl | rfl | rfl | rfl <;> assumption
/-- a rule -/
def RulAt (a : RAd) (H : Hp) (p : Addr) (c : RCl) (l : Int) (m : Option Int) (ks : List Str) : Prop :=
  ∃ dx kt fs, H p = some (.ins (a.at c) dx fs) ∧ H kt = some (.tup (ks.map V.str)) ∧ fs.lookup ("kinds" : Str) = some (.ref kt) ∧ fs.lookup ("least" : Str) = some (.int l) ∧ fs.lookup ("most" : Str) = some (optV m) ∧ NoM fs
theorem RulAt.same {a : RAd} {H H' : Hp} {p : Addr} {c : RCl} {l : Int} {m : Option Int} {ks : List Str} (s : Same H H') (h : RulAt a H p c l m ks) : RulAt a H' p c l m ks := by
  obtain ⟨dx, kt, fs, h1, h2, h3⟩ := h
  exact ⟨dx, kt, fs, s _ _ h1, s _ _ h2, h3⟩
theorem RulAt.kp {a : RAd} {H H' : Hp} {p q d : Addr} {c : RCl} {l : Int} {m : Option Int} {ks : List Str} (S : Src H q d) (k : Kp q H H') (h : RulAt a H p c l m ks) : RulAt a H' p c l m ks := by
  obtain ⟨dx, kt, fs, h1, h2, h3⟩ := h
  obtain ⟨o, ho⟩ := S.at_p
  exact ⟨dx, kt, fs, k _ _ h1 (ne_of h1 ho (by intro z; cases z)), k _ _ h2 (ne_of h2 ho (by intro z; cases z)), h3⟩
/-- a new object, made from its integers and kinds -/
def NewR (C : Addr) (F : Addr → List (Str × V)) (ks : List Str) (H : Hp) (Q : Addr → Hp → Prop) : Prop :=
  ∀ (x dx kt : Addr) (H' : Hp), H x = none → H kt = none → Same H H' → H' x = some (.ins C dx (F kt)) → H' kt = some (.tup (ks.map V.str)) → Q x H'
theorem mk_rule {bd : Nat} {C : Addr} {ok : List Int → Prop} {F : List Int → List (Str × V) → Addr → List (Str × V)} {ns : List Int} {ks : List Str} {H : Hp} {Q : Addr → Hp → Prop} {E : XK} (hb : 0 < bd) (ho : ok ns) (hK : Kinds ks) (k : NewR C (F ns []) ks H Q) :
    ∀ x dx, H x = none → H dx = none → dx ≠ x → spI bd C ok F (V.ref x :: (ns.map V.int ++ ks.map V.str)) (upd (upd H dx (.own x)) x (.ins C dx [])) (fun v H2 => v = .non ∧ Q x H2) E := by
  intro x dx hx hdx ne
  refine ⟨x, dx, ns, [], ks, rfl, ho, upd_same, hb, hK, fun kt H' h1 h2 h3 h4 => ⟨rfl, ?_⟩⟩
  have nkx : kt ≠ x := fun e => by rw [e, upd_same] at h1; cases h1
  have hkt : H kt = none := by
    rw [upd_ne nkx] at h1
    have nkd : kt ≠ dx := fun e => by rw [e, upd_same] at h1; cases h1
    rw [upd_ne nkd] at h1
    exact h1
  refine k x dx kt H' hx hkt (fun b o e => h4 b o ?_ (ne_of_none e hx)) h3 h2
  rw [upd_ne (ne_of_none e hx), upd_ne (ne_of_none e hdx)]
  exact e
section
variable {a : RAd} {l m n : Int} {ks : List Str} {H : Hp} {Q : Addr → Hp → Prop} {E : XK}
theorem mk_al (hl : Bnd9 l) (hK : Kinds ks) (k : ∀ x H', H x = none → Same H H' → RulAt a H' x .al l none ks → Q x H') :
    ∀ x dx, H x = none → H dx = none → dx ≠ x → spI 880 a.al okAM fsAL1 (V.ref x :: ([l].map V.int ++ ks.map V.str)) (upd (upd H dx (.own x)) x (.ins a.al dx [])) (fun v H2 => v = .non ∧ Q x H2) E :=
  mk_rule (by decide) ⟨l, rfl, hl⟩ hK fun x dx kt H' hx _ s h1 h2 => k x H' hx s ⟨dx, kt, _, h1, h2, rfl, rfl, rfl, nom rfl rfl rfl rfl⟩
theorem mk_am (hm : Bnd9 m) (hK : Kinds ks) (k : ∀ x H', H x = none → Same H H' → RulAt a H' x .am 0 (some m) ks → Q x H') :
    ∀ x dx, H x = none → H dx = none → dx ≠ x → spI 880 a.am okAM fsAM (V.ref x :: ([m].map V.int ++ ks.map V.str)) (upd (upd H dx (.own x)) x (.ins a.am dx [])) (fun v H2 => v = .non ∧ Q x H2) E :=
  mk_rule (by decide) ⟨m, rfl, hm⟩ hK fun x dx kt H' hx _ s h1 h2 => k x H' hx s ⟨dx, kt, _, h1, h2, rfl, rfl, rfl, nom rfl rfl rfl rfl⟩
theorem mk_bt (hl : Bnd9 l) (hm : Bnd9 m) (hlm : l ≤ m) (hK : Kinds ks) (k : ∀ x H', H x = none → Same H H' → RulAt a H' x .bt l (some m) ks → Q x H') :
    ∀ x dx, H x = none → H dx = none → dx ≠ x → spI 880 a.bt okBt fsAL2 (V.ref x :: ([l, m].map V.int ++ ks.map V.str)) (upd (upd H dx (.own x)) x (.ins a.bt dx [])) (fun v H2 => v = .non ∧ Q x H2) E :=
  mk_rule (by decide) ⟨l, m, rfl, hl, hm, hlm⟩ hK fun x dx kt H' hx _ s h1 h2 => k x H' hx s ⟨dx, kt, _, h1, h2, rfl, rfl, rfl, nom rfl rfl rfl rfl⟩
theorem mk_ex (hn : Bnd9 n) (hK : Kinds ks) (k : ∀ x H', H x = none → Same H H' → RulAt a H' x .ex n (some n) ks → Q x H') :
    ∀ x dx, H x = none → H dx = none → dx ≠ x → spI 880 a.ex okAM fsEx (V.ref x :: ([n].map V.int ++ ks.map V.str)) (upd (upd H dx (.own x)) x (.ins a.ex dx [])) (fun v H2 => v = .non ∧ Q x H2) E :=
  mk_rule (by decide) ⟨n, rfl, hn⟩ hK fun x dx kt H' hx _ s h1 h2 => k x H' hx s ⟨dx, kt, _, h1, h2, rfl, rfl, rfl, nom rfl rfl rfl rfl⟩
end
theorem kinds_cases {ks : List Str} (h : Kinds ks) : (∃ x, ks = [x]) ∨ (∃ x y, ks = [x, y]) ∨ (∃ x y z, ks = [x, y, z]) := by
  have h1 := h.lo
  have h2 := h.hi
  match ks, h1, h2 with
  | [x], _, _ => exact .inl ⟨x, rfl⟩
  | [x, y], _, _ => exact .inr (.inl ⟨x, y, rfl⟩)
  | [x, y, z], _, _ => exact .inr (.inr ⟨x, y, z, rfl⟩)
/-! ### a tuple of words as data -/
def pts (zs : List Str) : PyData := .tuple (zs.map .str)
theorem wordR_ok {z : Str} (h : Word z) : PyData.strOk z = true := by
  unfold PyData.strOk
  rw [← Array.all_toList, List.all_eq_true]
  intro c hc
  have h1 := h.2.2 c hc
  have h2 : ∀ c ∈ LET.cps.toList, c < 0x110000 := by decide +kernel
  exact decide_eq_true (h2 c h1)
theorem strs_can : ∀ {zs : List Str}, (∀ z ∈ zs, Word z) → PyData.canLayAll0 (zs.map .str) = true
  | [], _ => rfl
  | z :: zs, h => by
    rw [List.map_cons, PyData.canLayAll0, strs_can fun y m => h y (List.mem_cons_of_mem _ m), PyData.canLay0, wordR_ok (h z List.mem_cons_self)]
    rfl
theorem strs_depth : ∀ zs : List Str, PyData.depthAll (zs.map .str) = 0
  | [] => rfl
  | z :: zs => by
    rw [List.map_cons, PyData.depthAll, strs_depth zs, PyData.depth]
    rfl
theorem pts_shaped {zs : List Str} (h : ∀ z ∈ zs, Word z) : SeqAt.shaped (pts zs) = true := by
  unfold SeqAt.shaped pts
  rw [Bool.and_eq_true]
  refine ⟨by rw [PyData.canLay0]; exact strs_can h, decide_eq_true ?_⟩
  rw [PyData.depth, strs_depth]
  decide
theorem pts_refl {zs : List Str} (h : ∀ z ∈ zs, Word z) : PyData.eqv (pts zs) (pts zs) = true := SeqAt.eqv_refl _ (SeqAt.canLay_of_shaped (pts_shaped h))
theorem strs_dp {K : PySem.W.Frag} {H : Hp} : ∀ zs : List Str, DpAll K H (zs.map V.str) (zs.map .str)
  | [] => .nil
  | z :: zs => .cons (.str z) (strs_dp zs)
def spLawR (K : PySem.W.Frag) : Sp := fun vs H Q _ => ∃ (a : Addr) (ns : List Int), vs = [.ref a] ∧ SqL K H a (ns.map V.int) ∧ ns.length ≤ 63 ∧ ∀ H', Q (.bl true) H'
end Cs

set_option Elab.async false
set_option linter.all false
set_option maxRecDepth 100000
set_option maxHeartbeats 8000000
set_option pp.maxSteps 600
/-! The law of rules made: its helpers. -/
namespace Cs
open PySem L2
/-! ### the four rules of two ends -/
def rowC : Nat → RCl
  | 0 => .al
  | 1 => .am
  | 2 => .bt
  | _ => .ex
def rowL (lo : Int) : Nat → Int
  | 1 => 0
  | _ => lo
def rowM (lo hi : Int) : Nat → Option Int
  | 0 => none
  | 1 => some hi
  | 2 => some hi
  | _ => some lo
def FourAt (a : RAd) (H : Hp) (q : Addr) (lo hi : Int) (ks : List Str) : Prop := ∃ ps : List Addr, H q = some (.lst (ps.map V.ref)) ∧ ps.length = 4 ∧ ∀ j p, ps[j]? = some p → RulAt a H p (rowC j) (rowL lo j) (rowM lo hi j) ks
theorem FourAt.same {a : RAd} {H H' : Hp} {q : Addr} {lo hi : Int} {ks : List Str} (s : Same H H') (h : FourAt a H q lo hi ks) : FourAt a H' q lo hi ks := by
  obtain ⟨ps, h1, h2, h3⟩ := h
  exact ⟨ps, s _ _ h1, h2, fun j p e => (h3 j p e).same s⟩
theorem FourAt.mk {a : RAd} {H : Hp} {q p1 p2 p3 p4 : Addr} {lo hi : Int} {ks : List Str} (h : H q = some (.lst [.ref p1, .ref p2, .ref p3, .ref p4])) (r1 : RulAt a H p1 .al lo none ks) (r2 : RulAt a H p2 .am 0 (some hi) ks) (r3 : RulAt a H p3 .bt lo (some hi) ks) (r4 : RulAt a H p4 .ex lo (some lo) ks) : FourAt a H q lo hi ks := by
  refine ⟨[p1, p2, p3, p4], h, rfl, fun j p e => ?_⟩
  match j, e with
  | 0, e => cases e; exact r1
  | 1, e => cases e; exact r2
  | 2, e => cases e; exact r3
  | 3, e => cases e; exact r4
def spFour (a : RAd) : Sp := fun vs H Q _ => ∃ (lo hi : Int) (kl : Addr) (ks : List Str), vs = [.int lo, .int hi, .ref kl] ∧ Bnd9 lo ∧ Bnd9 hi ∧ lo ≤ hi ∧ H kl = some (.lst (ks.map V.str)) ∧ Kinds ks ∧ ∀ (q : Addr) (H' : Hp), H q = none → Same H H' → FourAt a H' q lo hi ks → Q (.ref q) H'
def EndsAt (H : Hp) (e : Addr) (lo hi : Int) : Prop := ∃ ts : List Addr, H e = some (.lst (ts.map V.ref)) ∧ ts.length = 4 ∧ ∀ j t, ts[j]? = some t → H t = some (.tup [.int (rowL lo j), optV (rowM lo hi j)])
theorem EndsAt.same {H H' : Hp} {e : Addr} {lo hi : Int} (s : Same H H') (h : EndsAt H e lo hi) : EndsAt H' e lo hi := by
  obtain ⟨ts, h1, h2, h3⟩ := h
  exact ⟨ts, s _ _ h1, h2, fun j t e => s _ _ (h3 j t e)⟩
def spEnds : Sp := fun vs H Q _ => ∃ lo hi : Int, vs = [.int lo, .int hi] ∧ ∀ (e : Addr) (H' : Hp), H e = none → Same H H' → EndsAt H' e lo hi → Q (.ref e) H'
section
variable {P : Program} {w : World} {K : PySem.W.Frag} {mg : Str → Option Value} {base : Heap}
theorem ok_four {f : Addr} {fd : FuncData} {a : RAd} (F : Fun K "_law_four" "_law_four" s_l_four f fd) (g : Bi mg) (W : RMk P w K mg base a) : FnOk P w K mg base CX0 9 f fd ["_law_low", "_law_high", "_law_kinds_here"] (spFour a) := by
  obtain ⟨fL, mkL, iL⟩ := W.al
  obtain ⟨fM, mkM, iM⟩ := W.am
  obtain ⟨fB, mkB, iB⟩ := W.bt
  obtain ⟨fX, mkX, iX⟩ := W.ex
  have Wo := W.wo
  refine F.ok sc_l_four (fun vs H Q E h => ?_) (fun cdv A outer s H vs Q E hr h => ?_)
  · obtain ⟨_, _, _, _, rfl, _⟩ := h
    rfl
  · obtain ⟨lo, hi, kl, ks, rfl, hlo, hhi, hle, hk, hK, k⟩ := h
    have hrMk : Room 8 _ := hr
    refine ⟨_, (pss_cons (ps_set (i := 3) sc_l_four.nd rfl (Or.inl rfl) (pe_ix ix_list (pv 2) pe_int (fun _ _ => rfl)))
      (pss_cons (ps_if (pt_cmpR op_eq (pe_callB call_len (by rfl) g.len PySem.boot_len (pa_cons (pv 2) pa_nil)) pe_int (nomark _)) (pss_one (ps_ret (pe_lst (pa_cons (StX.pe_makeR mkL iL hrMk rfl Wo.mal pass0 (pa_cons (pv 0) (pa_cons (pv 3) pa_nil))) (pa_cons (StX.pe_makeR mkM iM hrMk rfl Wo.mam pass0 (pa_cons (pv 1) (pa_cons (pv 3) pa_nil))) (pa_cons (StX.pe_makeR mkB iB hrMk rfl Wo.mbt pass0 (pa_cons (pv 0) (pa_cons (pv 1) (pa_cons (pv 3) pa_nil)))) (pa_cons (StX.pe_makeR mkX iX hrMk rfl Wo.mex pass0 (pa_cons (pv 0) (pa_cons (pv 3) pa_nil))) pa_nil))))))) pss_nil)
      (pss_cons (ps_set (i := 4) sc_l_four.nd rfl (Or.inl rfl) (pe_ix ix_list (pv 2) pe_int (fun _ _ => rfl)))
      (pss_cons (ps_if (pt_cmpR op_eq (pe_callB call_len (by rfl) g.len PySem.boot_len (pa_cons (pv 2) pa_nil)) pe_int (nomark _)) (pss_one (ps_ret (pe_lst (pa_cons (StX.pe_makeR mkL iL hrMk rfl Wo.mal pass0 (pa_cons (pv 0) (pa_cons (pv 3) (pa_cons (pv 4) pa_nil)))) (pa_cons (StX.pe_makeR mkM iM hrMk rfl Wo.mam pass0 (pa_cons (pv 1) (pa_cons (pv 3) (pa_cons (pv 4) pa_nil)))) (pa_cons (StX.pe_makeR mkB iB hrMk rfl Wo.mbt pass0 (pa_cons (pv 0) (pa_cons (pv 1) (pa_cons (pv 3) (pa_cons (pv 4) pa_nil))))) (pa_cons (StX.pe_makeR mkX iX hrMk rfl Wo.mex pass0 (pa_cons (pv 0) (pa_cons (pv 3) (pa_cons (pv 4) pa_nil)))) pa_nil))))))) pss_nil)
      (pss_cons (ps_set (i := 5) sc_l_four.nd rfl (Or.inl rfl) (pe_ix ix_list (pv 2) pe_int (fun _ _ => rfl)))
      (pss_cons (ps_set (i := 6) sc_l_four.nd rfl (Or.inl rfl) (pe_lst (pa_cons (StX.pe_makeR mkL iL hrMk rfl Wo.mal pass0 (pa_cons (pv 0) (pa_cons (pv 3) (pa_cons (pv 4) (pa_cons (pv 5) pa_nil))))) (pa_cons (StX.pe_makeR mkM iM hrMk rfl Wo.mam pass0 (pa_cons (pv 1) (pa_cons (pv 3) (pa_cons (pv 4) (pa_cons (pv 5) pa_nil))))) pa_nil))))
      (pss_one (ps_ret (pe_op op_cat (pv 6) (pe_lst (pa_cons (StX.pe_makeR mkB iB hrMk rfl Wo.mbt pass0 (pa_cons (pv 0) (pa_cons (pv 1) (pa_cons (pv 3) (pa_cons (pv 4) (pa_cons (pv 5) pa_nil)))))) (pa_cons (StX.pe_makeR mkX iX hrMk rfl Wo.mex pass0 (pa_cons (pv 0) (pa_cons (pv 3) (pa_cons (pv 4) (pa_cons (pv 5) pa_nil))))) pa_nil)))))))))))), ?_⟩
    rcases kinds_cases hK with ⟨x, rfl⟩ | ⟨x, y, rfl⟩ | ⟨x, y, z, rfl⟩
    · refine ⟨_, rfl, kl, _, _, _, rfl, rfl, SqL.of hk, at_of (z := 0) (j := 0) (by omega) rfl, ?_⟩
      refine ⟨_, rfl, _, _, rfl, .inl ⟨_, SqL.of hk, rfl⟩, rfl, _, rfl, iteT ?_⟩
      refine ⟨_, rfl, _, rfl, mk_al (ks := [x]) hlo hK fun p1 H1 n1 s1 r1 => ?_⟩
      refine ⟨_, rfl, _, rfl, mk_am (ks := [x]) hhi hK fun p2 H2 n2 s2 r2 => ?_⟩
      refine ⟨_, rfl, _, rfl, _, rfl, mk_bt (ks := [x]) hlo hhi hle hK fun p3 H3 n3 s3 r3 => ?_⟩
      refine ⟨_, rfl, _, rfl, mk_ex (ks := [x]) hlo hK fun p4 H4 n4 s4 r4 => ?_⟩
      refine ⟨by show 4 ≤ sizeLine; decide, fun q hq => ?_⟩
      have s5 : Same H4 (upd H4 q (.lst [.ref p1, .ref p2, .ref p3, .ref p4])) := Same.new hq
      have s14 := ((s1.trans s2).trans s3).trans s4
      exact k q _ (s14.free hq) (s14.trans s5) (.mk upd_same (r1.same (((s2.trans s3).trans s4).trans s5)) (r2.same ((s3.trans s4).trans s5)) (r3.same (s4.trans s5)) (r4.same s5))
    · refine ⟨_, rfl, kl, _, _, _, rfl, rfl, SqL.of hk, at_of (z := 0) (j := 0) (by omega) rfl, ?_⟩
      refine ⟨_, rfl, _, _, rfl, .inl ⟨_, SqL.of hk, rfl⟩, rfl, _, rfl, iteF ?_⟩
      refine ⟨_, rfl, kl, _, _, _, rfl, rfl, SqL.of hk, at_of (z := 1) (j := 1) (by omega) rfl, ?_⟩
      refine ⟨_, rfl, _, _, rfl, .inl ⟨_, SqL.of hk, rfl⟩, rfl, _, rfl, iteT ?_⟩
      refine ⟨_, rfl, _, rfl, _, rfl, mk_al (ks := [x, y]) hlo hK fun p1 H1 n1 s1 r1 => ?_⟩
      refine ⟨_, rfl, _, rfl, _, rfl, mk_am (ks := [x, y]) hhi hK fun p2 H2 n2 s2 r2 => ?_⟩
      refine ⟨_, rfl, _, rfl, _, rfl, _, rfl, mk_bt (ks := [x, y]) hlo hhi hle hK fun p3 H3 n3 s3 r3 => ?_⟩
      refine ⟨_, rfl, _, rfl, _, rfl, mk_ex (ks := [x, y]) hlo hK fun p4 H4 n4 s4 r4 => ?_⟩
      refine ⟨by show 4 ≤ sizeLine; decide, fun q hq => ?_⟩
      have s5 : Same H4 (upd H4 q (.lst [.ref p1, .ref p2, .ref p3, .ref p4])) := Same.new hq
      have s14 := ((s1.trans s2).trans s3).trans s4
      exact k q _ (s14.free hq) (s14.trans s5) (.mk upd_same (r1.same (((s2.trans s3).trans s4).trans s5)) (r2.same ((s3.trans s4).trans s5)) (r3.same (s4.trans s5)) (r4.same s5))
    · refine ⟨_, rfl, kl, _, _, _, rfl, rfl, SqL.of hk, at_of (z := 0) (j := 0) (by omega) rfl, ?_⟩
      refine ⟨_, rfl, _, _, rfl, .inl ⟨_, SqL.of hk, rfl⟩, rfl, _, rfl, iteF ?_⟩
      refine ⟨_, rfl, kl, _, _, _, rfl, rfl, SqL.of hk, at_of (z := 1) (j := 1) (by omega) rfl, ?_⟩
      refine ⟨_, rfl, _, _, rfl, .inl ⟨_, SqL.of hk, rfl⟩, rfl, _, rfl, iteF ?_⟩
      refine ⟨_, rfl, kl, _, _, _, rfl, rfl, SqL.of hk, at_of (z := 2) (j := 2) (by omega) rfl, ?_⟩
      refine ⟨_, rfl, _, rfl, _, rfl, _, rfl, mk_al (ks := [x, y, z]) hlo hK fun p1 H1 n1 s1 r1 => ?_⟩
      refine ⟨_, rfl, _, rfl, _, rfl, _, rfl, mk_am (ks := [x, y, z]) hhi hK fun p2 H2 n2 s2 r2 => ?_⟩
      refine ⟨by show 2 ≤ sizeLine; decide, fun b1 hb1 => ?_⟩
      have t1 : Same H2 (upd H2 b1 (.lst [.ref p1, .ref p2])) := Same.new hb1
      have g1 : (upd H2 b1 (.lst [.ref p1, .ref p2])) b1 = some (.lst [.ref p1, .ref p2]) := upd_same
      generalize upd H2 b1 (.lst [.ref p1, .ref p2]) = H2' at t1 g1
      refine ⟨_, rfl, ?_⟩
      refine ⟨_, rfl, _, rfl, _, rfl, _, rfl, _, rfl, mk_bt (ks := [x, y, z]) hlo hhi hle hK fun p3 H3 n3 s3 r3 => ?_⟩
      refine ⟨_, rfl, _, rfl, _, rfl, _, rfl, mk_ex (ks := [x, y, z]) hlo hK fun p4 H4 n4 s4 r4 => ?_⟩
      refine ⟨by show 2 ≤ sizeLine; decide, fun b2 hb2 => ?_⟩
      have t2 : Same H4 (upd H4 b2 (.lst [.ref p3, .ref p4])) := Same.new hb2
      have g2 : (upd H4 b2 (.lst [.ref p3, .ref p4])) b2 = some (.lst [.ref p3, .ref p4]) := upd_same
      generalize upd H4 b2 (.lst [.ref p3, .ref p4]) = H4' at t2 g2
      refine ⟨b1, b2, _, _, rfl, rfl, ((s3.trans s4).trans t2) _ _ g1, g2, by show 4 ≤ sizeLine; decide, fun q hq => ?_⟩
      have s5 : Same H4' (upd H4' q (.lst ([.ref p1, .ref p2] ++ [.ref p3, .ref p4]))) := Same.new hq
      have s14 := (((((s1.trans s2).trans t1).trans s3).trans s4).trans t2)
      exact k q _ (s14.free hq) (s14.trans s5) (.mk upd_same (r1.same (((((s2.trans t1).trans s3).trans s4).trans t2).trans s5)) (r2.same ((((t1.trans s3).trans s4).trans t2).trans s5)) (r3.same ((s4.trans t2).trans s5)) (r4.same (t2.trans s5)))
theorem ok_ends {f : Addr} {fd : FuncData} (F : Fun K "_law_ends" "_law_ends" s_l_ends f fd) (g : Bi mg) : FnOk P w K mg base CX0 1 f fd ["_law_low", "_law_high"] spEnds := by
  refine F.ok sc_l_ends (fun vs H Q E h => ?_) (fun cdv A outer s H vs Q E hr h => ?_)
  · obtain ⟨_, _, rfl, _⟩ := h
    rfl
  · obtain ⟨lo, hi, rfl, k⟩ := h
    refine ⟨_, (pss_one (ps_ret (pe_lst (pa_cons (pe_tup (pa_cons (pv 0) (pa_cons pe_non pa_nil))) (pa_cons (pe_tup (pa_cons pe_int (pa_cons (pv 1) pa_nil))) (pa_cons (pe_tup (pa_cons (pv 0) (pa_cons (pv 1) pa_nil))) (pa_cons (pe_tup (pa_cons (pv 0) (pa_cons (pv 0) pa_nil))) pa_nil))))))), ?_⟩
    refine ⟨_, rfl, by show 2 ≤ sizeLine; decide, fun t1 ht1 => ?_⟩
    have s1 : Same H (upd H t1 (.tup [.int lo, .non])) := Same.new ht1
    have g1 : (upd H t1 (.tup [.int lo, .non])) t1 = some (.tup [.int lo, .non]) := upd_same
    generalize upd H t1 (.tup [.int lo, .non]) = H1 at s1 g1
    refine ⟨_, rfl, by show 2 ≤ sizeLine; decide, fun t2 ht2 => ?_⟩
    have s2 : Same H1 (upd H1 t2 (.tup [.int 0, .int hi])) := Same.new ht2
    have g2 : (upd H1 t2 (.tup [.int 0, .int hi])) t2 = some (.tup [.int 0, .int hi]) := upd_same
    generalize upd H1 t2 (.tup [.int 0, .int hi]) = H2 at s2 g2
    refine ⟨_, rfl, _, rfl, by show 2 ≤ sizeLine; decide, fun t3 ht3 => ?_⟩
    have s3 : Same H2 (upd H2 t3 (.tup [.int lo, .int hi])) := Same.new ht3
    have g3 : (upd H2 t3 (.tup [.int lo, .int hi])) t3 = some (.tup [.int lo, .int hi]) := upd_same
    generalize upd H2 t3 (.tup [.int lo, .int hi]) = H3 at s3 g3
    refine ⟨_, rfl, _, rfl, by show 2 ≤ sizeLine; decide, fun t4 ht4 => ?_⟩
    have s4 : Same H3 (upd H3 t4 (.tup [.int lo, .int lo])) := Same.new ht4
    have g4 : (upd H3 t4 (.tup [.int lo, .int lo])) t4 = some (.tup [.int lo, .int lo]) := upd_same
    generalize upd H3 t4 (.tup [.int lo, .int lo]) = H4 at s4 g4
    refine ⟨by show 4 ≤ sizeLine; decide, fun q hq => ?_⟩
    have s5 : Same H4 (upd H4 q (.lst [.ref t1, .ref t2, .ref t3, .ref t4])) := Same.new hq
    have s14 := ((s1.trans s2).trans s3).trans s4
    refine k q _ (s14.free hq) (s14.trans s5) ⟨[t1, t2, t3, t4], upd_same, rfl, fun j t e => ?_⟩
    match j, e with
    | 0, e => cases e; exact (((s2.trans s3).trans s4).trans s5) _ _ g1
    | 1, e => cases e; exact ((s3.trans s4).trans s5) _ _ g2
    | 2, e => cases e; exact (s4.trans s5) _ _ g3
    | 3, e => cases e; exact s5 _ _ g4
end
end Cs

set_option Elab.async false
set_option linter.all false
set_option maxRecDepth 100000
set_option maxHeartbeats 4000000
/-! a and super().m(..). -/
namespace Cs
open PySem PySem.W PySem.Spec L2 NdefX
theorem pea_and {X : Cx} {b : List Stmt} {e1 e2 : Expr} {t1 t2 : TE} {pos : Pos} (h1 : PE X e1 t1) (h2 : PEA X b e2 t2) : PEA X b (.BoolOp .And [e1, e2] pos) (tAndV t1 t2) := by
  refine ⟨fun pins s σ H Q I h => ?_⟩
  show PySem.wpAt (model X.prog X.w) X.A (.func b X.env) (do
    let v ← eval e1 X.env
    standAt pos
    let c ← holding [v] (truthy v)
    match BoolOp.And, c with
    | .And, false | .Or, true => pure v
    | _, _ => boolOp pos .And [eval e2 X.env]) (EP X pins σ Q) X.xe s
  refine PySem.wpAt_bind (wpAt_of_wpAny (thn (h1.run pins s σ H _ I h) fun v s1 ⟨x, H1, I1, r1, q1⟩ => ?_))
  obtain ⟨c, rfl, q1⟩ := q1
  cases r1
  refine PySem.wpAt_bind (wpAt_of_wpAny (wpAny_standAt ?_))
  refine PySem.wpAt_bind (wpAt_of_wpAny (wpAny_holding (wpAny_truthy_bool ?_)))
  cases c with
  | true => exact h2.run pins s1 σ H1 Q I1 q1
  | false => exact wpAt_of_wpAny (wpAny_pure ⟨.bl false, H1, I1, rfl, q1⟩)
end Cs

set_option Elab.async false
set_option linter.all false
set_option maxRecDepth 100000
set_option maxHeartbeats 8000000
set_option pp.maxSteps 600
/-! What rules hold for: total_of, holds, lacks. -/
namespace Cs
open PySem L2 NdefX
/-! ### o.m(..) of a rule of any of the four classes -/
structure MW (P : Program) (w : World) (K : PySem.W.Frag) (mg : Str → Option Value) (base : Heap) (CX : CXT) (k : Nat) (a : RAd) (m : Str) (sp : RCl → Sp) : Prop where
  ex : ∀ c, ∃ f, Cls K (a.at c) ∧ Meth K (a.at c) m f ∧ FnR P w K mg base CX k f (sp c)
def tMethP (a : RAd) (m : Str) (sp : RCl → Sp) (E : XK) (ta : TE) (t : TA) : TE := fun σ H Q => ta σ H fun x H1 => ∃ p c dx fs, x = .ref p ∧ H1 p = some (.ins (a.at c) dx fs) ∧ fs.lookup m = none ∧ t σ H1 fun vs H2 => sp c (.ref p :: vs) H2 Q E
theorem pe_methP {X : Cx} {CX : CXT} {k : Nat} {a : RAd} {m : Str} {sp : RCl → Sp} {E : XK} {o e : Expr} {es : List Expr} {ta : TE} {t : TA} {apos pos : Pos} {pl : Sem Bool} (he : PE X o ta) (W : MW X.prog X.w X.K X.mg X.base CX k a m sp) (hr : Room k X.A) (hx : Passes CX X E) (ha : PA X (e :: es) t)
    (hst : starEach (e :: es) X.env = (false, eval e X.env) :: starEach es X.env := by rfl) (hpl : (backTo pos (starEach es X.env)).any (·.1) = false := by rfl)
    (ht : eval (.Call (.Attribute o m apos) (e :: es) [] pos) X.env = (do
      let ov ← eval o X.env
      standAt apos.atName
      let (f, first) ← holding [ov] (getMethod ov m pl)
      callWith pos f first (backTo pos (starEach (e :: es) X.env)) (backToKw pos (keywordEach [] X.env))) := by rfl) :
    PE X (.Call (.Attribute o m apos) (e :: es) [] pos) (tMethP a m sp E ta t) := by
  refine ⟨fun pins s σ H Q I h => ?_⟩
  refine PySem.W.methodCall_KW (pl := pl) (thn (he.run pins s σ H _ I h) fun u s1 ⟨x, H1, I1, rx, p, c, dx, fs, ex, ea, l, q⟩ => ?_) ht
  subst ex
  obtain rfl : u = Value.ref p := rx
  obtain ⟨f, hc, hm, F⟩ := W.ex c
  refine getmeth_ok I1 ea hc hm l ?_
  refine PySem.W.callWith_K (first := [.ref p]) (h₀ := X.base) I.ok.mod.kin hm.kp (thn (ha.run pos pins s1 σ H1 _ I1 q) fun us s2 ⟨vs, H2, I2, r, q2⟩ => ⟨I2.kIn, ?_⟩) hst hpl
  exact wpAny_call (run_fnR (us := .ref p :: us) (vs := .ref p :: vs) F hr hx I2 (.cons rfl r) q2)
/-! ### the promises -/
def tot (t : Tab) (ks : List Str) : Int := (ks.map (val t)).sum
/-- a rule, counts -/
def RCat (a : RAd) (c : RCl) (C : Addr) (H : Hp) (p q : Addr) (l : Int) (m : Option Int) (ks : List Str) (t : Tab) : Prop := RulAt a H p c l m ks ∧ (∃ d, Cnt C H q d t) ∧ Kinds ks
def spTot (a : RAd) (c : RCl) (C : Addr) : Sp := fun vs H Q _ => ∃ (p q : Addr) (l : Int) (m : Option Int) (ks : List Str) (t : Tab), vs = [.ref p, .ref q] ∧ RCat a c C H p q l m ks t ∧ ∀ H', Same H H' → Q (.int (tot t ks)) H'
def spH (a : RAd) (c : RCl) (C : Addr) (PM : Option Int → Prop) (G : Int → Option Int → Int → Bool) : Sp := fun vs H Q _ => ∃ (p q : Addr) (l : Int) (m : Option Int) (ks : List Str) (t : Tab), vs = [.ref p, .ref q] ∧ RCat a c C H p q l m ks t ∧ PM m ∧ ∀ H', Same H H' → Q (.bl (G l m (tot t ks))) H'
def spL (a : RAd) (c : RCl) (C : Addr) (PM : Option Int → Prop) (G : Int → Option Int → Int → Tab) : Sp := fun vs H Q _ => ∃ (p q : Addr) (l : Int) (m : Option Int) (ks : List Str) (t : Tab), vs = [.ref p, .ref q] ∧ RCat a c C H p q l m ks t ∧ PM m ∧
  ∀ (r : Addr) (H' : Hp) (xs : List V), H r = none → Same H H' → H' r = some (.lst xs) → PrL H' xs (G l m (tot t ks)) → Q (.ref r) H'
def g0 (l : Int) (_ : Option Int) (T : Int) : Bool := decide (l ≤ T)
def g1 (l : Int) (m : Option Int) (T : Int) : Bool := decide (T ≤ m.getD 0) && decide (l ≤ T)
def k0 (l : Int) (_ : Option Int) (T : Int) : Tab := if l - T > 0 then [("few", l - T)] else []
def k1 (l : Int) (m : Option Int) (T : Int) : Tab := k0 l m T ++ (if T - m.getD 0 > 0 then ([("many", T - m.getD 0)] : Tab) else [])
def PS1 (m : Option Int) : Prop := ∃ n, m = some n
def spPass (C : Addr) (sp : Sp) : Sp := fun vs H Q _ => ∃ (p : Addr) (x : V) (dx : Addr) (fs : List (Str × V)), vs = [.ref p, x] ∧ H p = some (.ins C dx fs) ∧ sp [.ref p, x] H Q E0
theorem RCat.same {a : RAd} {c : RCl} {C : Addr} {H H' : Hp} {p q : Addr} {l : Int} {m : Option Int} {ks : List Str} {t : Tab} (s : Same H H') (h : RCat a c C H p q l m ks t) : RCat a c C H' p q l m ks t := by
  obtain ⟨h1, ⟨d, h2⟩, h3⟩ := h
  exact ⟨h1.same s, ⟨d, h2.same s⟩, h3⟩
section
variable {P : Program} {w : World} {K : PySem.W.Frag} {mg : Str → Option Value} {base : Heap}
theorem ok_total_of {C f fI fGe : Addr} {fd fdGe : FuncData} {a : RAd} {c : RCl} (F : Fun K "total_of" "Rule.total_of" s_Rule_total_of f fd) (g : Bi mg) (Wo : RWo K mg a) (T : CT P w K mg base C fI) (SGe : GDef P w K mg base CX0 2 C "__getitem__" ["self", "word"] (spGet C) fGe fdGe) : FnOk P w K mg base CX0 4 f fd ["self", "counts"] (spTot a c C) := by
  refine F.ok sc_Rule_total_of (fun vs H Q E h => ?_) (fun cdv A outer s H vs Q E hr h => ?_)
  · obtain ⟨_, _, _, _, _, _, rfl, _⟩ := h
    rfl
  · obtain ⟨p, q, l, m, ks, t, rfl, ⟨⟨dx, kt, fs, hp, hkt, f1, f2, f3, f4⟩, ⟨d, hc⟩, hK⟩, k⟩ := h
    have hrGe : Room 3 _ := hr
    have rc := Wo.rc c
    have hl2 := hK.hi
    refine ⟨_, (pss_one (ps_ret (pe_callB (cr_sum rfl) (by rfl) g.sum (by decide +kernel) (pa_cons (pe_lc (own := [("kind", 2)]) (g := gName 2)  (by rfl) sc_Rule_total_of.nd (pi_tup (pe_fld (pv 0) rfl)) (blkOk_by (own := [("kind", 2)]) (N := ["self", "counts", "kind"]) (sc := defScope s_Rule_total_of) (by decide +kernel)) (fun _ _ _ _ _ => (pg_name (i := 2) sc_Rule_total_of.nd rfl (Or.inl rfl))) (fun _ _ _ _ _ => pts_nil) (fun _ _ _ _ _ => (pe_callTy call_int1 (by rfl) g.int (by decide +kernel) (pa_cons (pe_ixO SGe.c SGe.fi SGe.ok hrGe SGe.b pass0 (pv 1) (pv 2)) pa_nil)))) pa_nil)))), ?_⟩
    refine ⟨_, rfl, p, _, dx, fs, _, rfl, hp, rc.cl, rc.nk, f1, kt, rfl, ⟨_, SqT.of hkt⟩, fun D hD => lc_valsT (ys := ks.map fun z => V.int (val t z)) (by rw [List.length_map, List.length_map]) hkt hD (by rw [List.length_map]; omega) (fun _ => rfl) (fun i x y hx hy H' s' Qe qk => ?_) fun H1 s1 hD1 => ?_⟩
    · rw [List.getElem?_map] at hx hy
      cases e : ks[i]? with
      | none => rw [e] at hx; cases hx
      | some z =>
        rw [e] at hx hy
        obtain rfl := Option.some.inj hx
        obtain rfl := Option.some.inj hy
        have hz := hK.kd z (List.mem_of_getElem? e)
        have hc' := hc.same s'
        obtain ⟨dxc, hob⟩ := hc'.ob
        exact ⟨_, rfl, _, rfl, q, dxc, _, rfl, hob, q, d, t, z, rfl, hz.1, hc', fun H2 s2 => .inl ⟨_, rfl, qk H2 s2⟩⟩
    · exact ⟨D, ks.map (val t), rfl, SqL.of (by rw [hD1, List.map_map]; rfl), k H1 s1⟩
structure MTo (P : Program) (w : World) (K : PySem.W.Frag) (mg : Str → Option Value) (base : Heap) (a : RAd) (c : RCl) (C f : Addr) (fd : FuncData) : Prop where
  me : Meth K (a.at c) "total_of" f
  ok : FnOk P w K mg base CX0 4 f fd ["self", "counts"] (spTot a c C)
  b : Binds K fd ["self", "counts"] []
theorem ok_holds0 {C f fTo : Addr} {fd fdTo : FuncData} {a : RAd} {c : RCl} (F : Fun K "holds" "Rule.holds" s_Rule_holds f fd) (g : Bi mg) (Wo : RWo K mg a) (To : MTo P w K mg base a c C fTo fdTo) : FnOk P w K mg base CX0 5 f fd ["self", "counts"] (spH a c C (fun _ => True) g0) := by
  refine F.ok sc_Rule_holds (fun vs H Q E h => ?_) (fun cdv A outer s H vs Q E hr h => ?_)
  · obtain ⟨_, _, _, _, _, _, rfl, _⟩ := h
    rfl
  · obtain ⟨p, q, l, m, ks, t, rfl, hR, _, k⟩ := h
    obtain ⟨⟨dx, kt, fs, hp, hkt, f1, f2, f3, f4⟩, _⟩ := id hR
    have hrTo : Room 4 _ := hr
    have rc := Wo.rc c
    refine ⟨_, (pss_one (ps_ret (pe_cmpR op_le (pe_fld (pv 0) rfl) (pe_meth (pv 0) rc.cl To.me To.ok hrTo To.b .nil pass0 (pa_cons (pv 1) pa_nil)) (nomark _)))), ?_⟩
    exact ⟨_, rfl, p, _, dx, fs, _, rfl, hp, rc.cl, rc.nl, f2, _, rfl, p, dx, fs, rfl, hp, f4 _ (by decide), _, rfl, p, q, l, m, ks, t, rfl, hR, fun H1 s1 => ⟨_, _, rfl, rfl, k H1 s1⟩⟩
theorem ok_lacks0 {C f fTo : Addr} {fd fdTo : FuncData} {a : RAd} {c : RCl} (F : Fun K "lacks" "Rule.lacks" s_Rule_lacks f fd) (g : Bi mg) (Wo : RWo K mg a) (To : MTo P w K mg base a c C fTo fdTo) : FnOk P w K mg base CX0 5 f fd ["self", "counts"] (spL a c C (fun _ => True) k0) := by
  refine F.ok sc_Rule_lacks (fun vs H Q E h => ?_) (fun cdv A outer s H vs Q E hr h => ?_)
  · obtain ⟨_, _, _, _, _, _, rfl, _⟩ := h
    rfl
  · obtain ⟨p, q, l, m, ks, t, rfl, hR, _, k⟩ := h
    obtain ⟨⟨dx, kt, fs, hp, hkt, f1, f2, f3, f4⟩, _⟩ := id hR
    have hrTo : Room 4 _ := hr
    have rc := Wo.rc c
    refine ⟨_, (pss_cons (ps_set (i := 2) sc_Rule_lacks.nd rfl (Or.inl rfl) (pe_op op_sub (pe_fld (pv 0) rfl) (pe_meth (pv 0) rc.cl To.me To.ok hrTo To.b .nil pass0 (pa_cons (pv 1) pa_nil))))
      (pss_cons (ps_if (pt_cmpR op_gt (pv 2) pe_int (nomark _)) (pss_one (ps_ret (pe_lst (pa_cons (pe_tup (pa_cons pe_str (pa_cons (pv 2) pa_nil))) pa_nil)))) pss_nil)
      (pss_one (ps_ret (pe_lst pa_nil))))), ?_⟩
    refine ⟨_, rfl, p, _, dx, fs, _, rfl, hp, rc.cl, rc.nl, f2, _, rfl, p, dx, fs, rfl, hp, f4 _ (by decide), _, rfl, p, q, l, m, ks, t, rfl, hR, fun H1 s1 => ⟨_, _, rfl, rfl, ?_⟩⟩
    refine ⟨_, rfl, _, _, rfl, rfl, _, rfl, ite2 (fun z1 => ?_) (fun z1 => ?_)⟩
    · have h1 : l - tot t ks > 0 := of_decide_eq_true z1
      refine ⟨_, rfl, by show 2 ≤ sizeLine; decide, fun T hT => ⟨by show 1 ≤ sizeLine; decide, fun r hr' => ?_⟩⟩
      have u1 : Same H1 (upd H1 T (.tup [.str "few", .int (l - tot t ks)])) := Same.new hT
      have gT : (upd H1 T (.tup [.str "few", .int (l - tot t ks)])) T = some (.tup [.str "few", .int (l - tot t ks)]) := upd_same
      generalize upd H1 T (.tup [.str "few", .int (l - tot t ks)]) = H2 at u1 gT hr'
      have u2 : Same H2 (upd H2 r (.lst [.ref T])) := Same.new hr'
      refine k r _ [.ref T] ((s1.trans u1).free hr') ((s1.trans u1).trans u2) upd_same ?_
      unfold k0
      rw [if_pos h1]
      exact .cons ⟨T, rfl, u2 _ _ gT⟩ .nil
    · have h1 : ¬ l - tot t ks > 0 := fun e => z1 (decide_eq_true e)
      refine ⟨Nat.zero_le _, fun r hr' => ?_⟩
      refine k r _ [] (s1.free hr') (s1.trans (Same.new hr')) upd_same ?_
      unfold k0
      rw [if_neg h1]
      exact .nil
theorem ok_holds_al {C f fR D cda cc : Addr} {k : Nat} {kV doc pm ct : Value} {an : Option Addr} {sp : Sp} (Fs : FunS K "holds" "AtLeast.holds" s_AtLeast_holds f cda cc D kV doc pm ct an) (SG : SupG P K mg) (SD : SupD P K cda D)
    (S : Sup K C D "holds" fR) (FR : FnR P w K mg base CX0 k fR sp) : FnR P w K mg base CX0 (k + 1) f (spPass C sp) := by
  refine fn_sup (ps := ["self", "counts"]) Fs sc_AtLeast_holds (fun vs H Q E ⟨_, _, _, _, e, _⟩ => by rw [e]; rfl) (fun us hl => match us, hl with | [_, _], _ => rfl) fun A outer s H vs Q E hr h => ?_
  obtain ⟨p, x, dx, fs, rfl, hp, q⟩ := h
  have TS := supT_mk (CX := CX0) (w := w) (base := base) (N := ["self", "counts", "__class__"]) (A := A) (outer := outer) (s := s) (H := H) (E := E) (ar := "self") Fs SG SD rfl rfl rfl ⟨_, rfl, rfl⟩
  have hrS : Room k _ := hr
  refine ⟨_, (pssa_one (psa_ret (pea_sup (i := 0) TS rfl hrS pass0 (pa_cons (pv 1) pa_nil)))), ?_⟩
  exact ⟨p, sp, ⟨C, dx, fs, fR, rfl, hp, S, FR⟩, _, rfl, q⟩
theorem ok_lacks_al {C f fR D cda cc : Addr} {k : Nat} {kV doc pm ct : Value} {an : Option Addr} {sp : Sp} (Fs : FunS K "lacks" "AtLeast.lacks" s_AtLeast_lacks f cda cc D kV doc pm ct an) (SG : SupG P K mg) (SD : SupD P K cda D)
    (S : Sup K C D "lacks" fR) (FR : FnR P w K mg base CX0 k fR sp) : FnR P w K mg base CX0 (k + 1) f (spPass C sp) := by
  refine fn_sup (ps := ["self", "counts"]) Fs sc_AtLeast_lacks (fun vs H Q E ⟨_, _, _, _, e, _⟩ => by rw [e]; rfl) (fun us hl => match us, hl with | [_, _], _ => rfl) fun A outer s H vs Q E hr h => ?_
  obtain ⟨p, x, dx, fs, rfl, hp, q⟩ := h
  have TS := supT_mk (CX := CX0) (w := w) (base := base) (N := ["self", "counts", "__class__"]) (A := A) (outer := outer) (s := s) (H := H) (E := E) (ar := "self") Fs SG SD rfl rfl rfl ⟨_, rfl, rfl⟩
  have hrS : Room k _ := hr
  refine ⟨_, (pssa_one (psa_ret (pea_sup (i := 0) TS rfl hrS pass0 (pa_cons (pv 1) pa_nil)))), ?_⟩
  exact ⟨p, sp, ⟨C, dx, fs, fR, rfl, hp, S, FR⟩, _, rfl, q⟩
theorem ok_holds_bt {C f fR D cda cc : Addr} {k : Nat} {kV doc pm ct : Value} {an : Option Addr} {sp : Sp} (Fs : FunS K "holds" "Between.holds" s_Between_holds f cda cc D kV doc pm ct an) (SG : SupG P K mg) (SD : SupD P K cda D)
    (S : Sup K C D "holds" fR) (FR : FnR P w K mg base CX0 k fR sp) : FnR P w K mg base CX0 (k + 1) f (spPass C sp) := by
  refine fn_sup (ps := ["self", "counts"]) Fs sc_Between_holds (fun vs H Q E ⟨_, _, _, _, e, _⟩ => by rw [e]; rfl) (fun us hl => match us, hl with | [_, _], _ => rfl) fun A outer s H vs Q E hr h => ?_
  obtain ⟨p, x, dx, fs, rfl, hp, q⟩ := h
  have TS := supT_mk (CX := CX0) (w := w) (base := base) (N := ["self", "counts", "__class__"]) (A := A) (outer := outer) (s := s) (H := H) (E := E) (ar := "self") Fs SG SD rfl rfl rfl ⟨_, rfl, rfl⟩
  have hrS : Room k _ := hr
  refine ⟨_, (pssa_one (psa_ret (pea_sup (i := 0) TS rfl hrS pass0 (pa_cons (pv 1) pa_nil)))), ?_⟩
  exact ⟨p, sp, ⟨C, dx, fs, fR, rfl, hp, S, FR⟩, _, rfl, q⟩
theorem ok_lacks_bt {C f fR D cda cc : Addr} {k : Nat} {kV doc pm ct : Value} {an : Option Addr} {sp : Sp} (Fs : FunS K "lacks" "Between.lacks" s_Between_lacks f cda cc D kV doc pm ct an) (SG : SupG P K mg) (SD : SupD P K cda D)
    (S : Sup K C D "lacks" fR) (FR : FnR P w K mg base CX0 k fR sp) : FnR P w K mg base CX0 (k + 1) f (spPass C sp) := by
  refine fn_sup (ps := ["self", "counts"]) Fs sc_Between_lacks (fun vs H Q E ⟨_, _, _, _, e, _⟩ => by rw [e]; rfl) (fun us hl => match us, hl with | [_, _], _ => rfl) fun A outer s H vs Q E hr h => ?_
  obtain ⟨p, x, dx, fs, rfl, hp, q⟩ := h
  have TS := supT_mk (CX := CX0) (w := w) (base := base) (N := ["self", "counts", "__class__"]) (A := A) (outer := outer) (s := s) (H := H) (E := E) (ar := "self") Fs SG SD rfl rfl rfl ⟨_, rfl, rfl⟩
  have hrS : Room k _ := hr
  refine ⟨_, (pssa_one (psa_ret (pea_sup (i := 0) TS rfl hrS pass0 (pa_cons (pv 1) pa_nil)))), ?_⟩
  exact ⟨p, sp, ⟨C, dx, fs, fR, rfl, hp, S, FR⟩, _, rfl, q⟩
theorem ok_holds_ex {C f fR D cda cc : Addr} {k : Nat} {kV doc pm ct : Value} {an : Option Addr} {sp : Sp} (Fs : FunS K "holds" "Exactly.holds" s_Exactly_holds f cda cc D kV doc pm ct an) (SG : SupG P K mg) (SD : SupD P K cda D)
    (S : Sup K C D "holds" fR) (FR : FnR P w K mg base CX0 k fR sp) : FnR P w K mg base CX0 (k + 1) f (spPass C sp) := by
  refine fn_sup (ps := ["self", "counts"]) Fs sc_Exactly_holds (fun vs H Q E ⟨_, _, _, _, e, _⟩ => by rw [e]; rfl) (fun us hl => match us, hl with | [_, _], _ => rfl) fun A outer s H vs Q E hr h => ?_
  obtain ⟨p, x, dx, fs, rfl, hp, q⟩ := h
  have TS := supT_mk (CX := CX0) (w := w) (base := base) (N := ["self", "counts", "__class__"]) (A := A) (outer := outer) (s := s) (H := H) (E := E) (ar := "self") Fs SG SD rfl rfl rfl ⟨_, rfl, rfl⟩
  have hrS : Room k _ := hr
  refine ⟨_, (pssa_one (psa_ret (pea_sup (i := 0) TS rfl hrS pass0 (pa_cons (pv 1) pa_nil)))), ?_⟩
  exact ⟨p, sp, ⟨C, dx, fs, fR, rfl, hp, S, FR⟩, _, rfl, q⟩
theorem ok_lacks_ex {C f fR D cda cc : Addr} {k : Nat} {kV doc pm ct : Value} {an : Option Addr} {sp : Sp} (Fs : FunS K "lacks" "Exactly.lacks" s_Exactly_lacks f cda cc D kV doc pm ct an) (SG : SupG P K mg) (SD : SupD P K cda D)
    (S : Sup K C D "lacks" fR) (FR : FnR P w K mg base CX0 k fR sp) : FnR P w K mg base CX0 (k + 1) f (spPass C sp) := by
  refine fn_sup (ps := ["self", "counts"]) Fs sc_Exactly_lacks (fun vs H Q E ⟨_, _, _, _, e, _⟩ => by rw [e]; rfl) (fun us hl => match us, hl with | [_, _], _ => rfl) fun A outer s H vs Q E hr h => ?_
  obtain ⟨p, x, dx, fs, rfl, hp, q⟩ := h
  have TS := supT_mk (CX := CX0) (w := w) (base := base) (N := ["self", "counts", "__class__"]) (A := A) (outer := outer) (s := s) (H := H) (E := E) (ar := "self") Fs SG SD rfl rfl rfl ⟨_, rfl, rfl⟩
  have hrS : Room k _ := hr
  refine ⟨_, (pssa_one (psa_ret (pea_sup (i := 0) TS rfl hrS pass0 (pa_cons (pv 1) pa_nil)))), ?_⟩
  exact ⟨p, sp, ⟨C, dx, fs, fR, rfl, hp, S, FR⟩, _, rfl, q⟩
theorem ok_holds_am {C f fR fTo D cda cc : Addr} {fdTo : FuncData} {kV doc pm ct : Value} {an : Option Addr} {a : RAd} {c : RCl} (Wo : RWo K mg a) (To : MTo P w K mg base a c C fTo fdTo) (Fs : FunS K "holds" "AtMost.holds" s_AtMost_holds f cda cc D kV doc pm ct an) (SG : SupG P K mg) (SD : SupD P K cda D)
    (S : Sup K (a.at c) D "holds" fR) (FR : FnR P w K mg base CX0 5 fR (spH a c C (fun _ => True) g0)) : FnR P w K mg base CX0 6 f (spH a c C PS1 g1) := by
  refine fn_sup (ps := ["self", "counts"]) Fs sc_AtMost_holds (fun vs H Q E ⟨_, _, _, _, _, _, e, _⟩ => by rw [e]; rfl) (fun us hl => match us, hl with | [_, _], _ => rfl) fun A outer s H vs Q E hr h => ?_
  obtain ⟨p, q, l, m, ks, t, rfl, hR, ⟨n, rfl⟩, k⟩ := h
  obtain ⟨⟨dx, kt, fs, hp, hkt, f1, f2, f3, f4⟩, _⟩ := id hR
  have TS := supT_mk (CX := CX0) (w := w) (base := base) (N := ["self", "counts", "__class__"]) (A := A) (outer := outer) (s := s) (H := H) (E := E) (ar := "self") Fs SG SD rfl rfl rfl ⟨_, rfl, rfl⟩
  have hrS : Room 5 _ := hr
  have hrTo : Room 4 _ := hr.mono (by decide)
  have rc := Wo.rc c
  refine ⟨_, (pssa_one (psa_ret (pea_and (pe_cmpR op_le (pe_meth (pv 0) rc.cl To.me To.ok hrTo To.b .nil pass0 (pa_cons (pv 1) pa_nil)) (pe_fld (pv 0) rfl) (nomark _)) (pea_sup (i := 0) TS rfl hrS pass0 (pa_cons (pv 1) pa_nil))))), ?_⟩
  refine ⟨_, rfl, p, dx, fs, rfl, hp, f4 _ (by decide), _, rfl, p, q, l, some n, ks, t, rfl, hR, fun H1 s1 => ?_⟩
  refine ⟨_, rfl, p, _, dx, fs, _, rfl, s1 _ _ hp, rc.cl, rc.nm, f3, _, _, rfl, rfl, _, rfl, ?_⟩
  have k' : ∀ H', Same H H' → Q (.bl (decide (tot t ks ≤ n) && decide (l ≤ tot t ks))) H' := k
  by_cases e : tot t ks ≤ n
  · rw [decide_eq_true e] at k' ⊢
    refine iteT ⟨p, spH a c C (fun _ => True) g0, ⟨a.at c, dx, fs, fR, rfl, s1 _ _ hp, S, FR⟩, _, rfl, p, q, l, some n, ks, t, rfl, hR.same s1, trivial, fun H2 s2 => ?_⟩
    exact k' H2 (s1.trans s2)
  · rw [decide_eq_false e] at k' ⊢
    exact iteF (k' H1 s1)
theorem ok_lacks_am {C f fR fTo D cda cc : Addr} {fdTo : FuncData} {kV doc pm ct : Value} {an : Option Addr} {a : RAd} {c : RCl} (Wo : RWo K mg a) (To : MTo P w K mg base a c C fTo fdTo) (Fs : FunS K "lacks" "AtMost.lacks" s_AtMost_lacks f cda cc D kV doc pm ct an) (SG : SupG P K mg) (SD : SupD P K cda D)
    (S : Sup K (a.at c) D "lacks" fR) (FR : FnR P w K mg base CX0 5 fR (spL a c C (fun _ => True) k0)) : FnR P w K mg base CX0 6 f (spL a c C PS1 k1) := by
  refine fn_sup (ps := ["self", "counts"]) Fs sc_AtMost_lacks (fun vs H Q E ⟨_, _, _, _, _, _, e, _⟩ => by rw [e]; rfl) (fun us hl => match us, hl with | [_, _], _ => rfl) fun A outer s H vs Q E hr h => ?_
  obtain ⟨p, q, l, m, ks, t, rfl, hR, ⟨n, rfl⟩, k⟩ := h
  obtain ⟨⟨dx, kt, fs, hp, hkt, f1, f2, f3, f4⟩, _⟩ := id hR
  have TS := supT_mk (CX := CX0) (w := w) (base := base) (N := ["self", "counts", "__class__", "extra"]) (A := A) (outer := outer) (s := s) (H := H) (E := E) (ar := "self") Fs SG SD rfl rfl rfl ⟨_, rfl, rfl⟩
  have hrS : Room 5 _ := hr
  have hrTo : Room 4 _ := hr.mono (by decide)
  have rc := Wo.rc c
  refine ⟨_, (pssa_cons (PSA.of (ps_set (i := 3) sc_AtMost_lacks.nd rfl (Or.inl rfl) (pe_op op_sub (pe_meth (pv 0) rc.cl To.me To.ok hrTo To.b .nil pass0 (pa_cons (pv 1) pa_nil)) (pe_fld (pv 0) rfl))))
      (pssa_cons (psa_if (pt_cmpR op_gt (pv 3) pe_int (nomark _)) (pssa_one (psa_ret (pea_op op_cat (pea_sup (i := 0) TS rfl hrS pass0 (pa_cons (pv 1) pa_nil)) (pe_lst (pa_cons (pe_tup (pa_cons pe_str (pa_cons (pv 3) pa_nil))) pa_nil))))) (PSsA.of pss_nil))
      (pssa_one (psa_ret (pea_sup (i := 0) TS rfl hrS pass0 (pa_cons (pv 1) pa_nil)))))), ?_⟩
  refine ⟨_, rfl, p, dx, fs, rfl, hp, f4 _ (by decide), _, rfl, p, q, l, some n, ks, t, rfl, hR, fun H1 s1 => ?_⟩
  refine ⟨_, rfl, p, _, dx, fs, _, rfl, s1 _ _ hp, rc.cl, rc.nm, f3, _, _, rfl, rfl, ?_⟩
  refine ⟨_, rfl, _, _, rfl, rfl, _, rfl, ite2 (fun z1 => ?_) (fun z1 => ?_)⟩
  · have h1 : tot t ks - n > 0 := of_decide_eq_true z1
    refine ⟨p, spL a c C (fun _ => True) k0, ⟨a.at c, dx, fs, fR, rfl, s1 _ _ hp, S, FR⟩, _, rfl, p, q, l, some n, ks, t, rfl, hR.same s1, trivial, fun r H2 xs hr0 s2 g2 hP => ?_⟩
    refine ⟨_, rfl, by show 2 ≤ sizeLine; decide, fun T hT => ⟨by show 1 ≤ sizeLine; decide, fun r2 hr2 => ?_⟩⟩
    have u1 : Same H2 (upd H2 T (.tup [.str "many", .int (tot t ks - n)])) := Same.new hT
    have gT : (upd H2 T (.tup [.str "many", .int (tot t ks - n)])) T = some (.tup [.str "many", .int (tot t ks - n)]) := upd_same
    generalize upd H2 T (.tup [.str "many", .int (tot t ks - n)]) = H3 at u1 gT hr2
    have u2 : Same H3 (upd H3 r2 (.lst [.ref T])) := Same.new hr2
    have gr : (upd H3 r2 (.lst [.ref T])) r2 = some (.lst [.ref T]) := upd_same
    generalize upd H3 r2 (.lst [.ref T]) = H4 at u2 gr
    have u12 := u1.trans u2
    have hxl := hP.length
    have hkl : (k0 l (some n) (tot t ks)).length ≤ 1 := by unfold k0; split <;> simp
    refine ⟨r, r2, _, _, rfl, rfl, u12 _ _ g2, gr, ?_, fun r3 hr3 => ?_⟩
    · exact Nat.le_trans (show xs.length + 1 ≤ 2 by omega) (by decide)
    have u3 : Same H4 (upd H4 r3 (.lst (xs ++ [.ref T]))) := Same.new hr3
    have sA := (s1.trans s2).trans u12
    refine k r3 _ (xs ++ [.ref T]) (sA.free hr3) (sA.trans u3) upd_same ?_
    show PrL _ _ (k0 l (some n) (tot t ks) ++ (if tot t ks - n > 0 then ([("many", tot t ks - n)] : Tab) else []))
    rw [if_pos h1]
    exact PrL.snoc (hP.mono fun _ _ _ e => (u12.trans u3) _ _ e) ((u2.trans u3) _ _ gT)
  · have h1 : ¬ tot t ks - n > 0 := fun e => z1 (decide_eq_true e)
    refine ⟨p, spL a c C (fun _ => True) k0, ⟨a.at c, dx, fs, fR, rfl, s1 _ _ hp, S, FR⟩, _, rfl, p, q, l, some n, ks, t, rfl, hR.same s1, trivial, fun r H2 xs hr0 s2 g2 hP => ?_⟩
    refine k r H2 xs (s1.free hr0) (s1.trans s2) g2 ?_
    show PrL _ _ (k0 l (some n) (tot t ks) ++ (if tot t ks - n > 0 then ([("many", tot t ks - n)] : Tab) else []))
    rw [if_neg h1, List.append_nil]
    exact hP
end
end Cs

set_option Elab.async false
set_option linter.all false
set_option maxRecDepth 100000
set_option maxHeartbeats 8000000
set_option pp.maxSteps 600
/-! The law of what rules hold for: its helpers. -/
namespace Cs
open PySem L2
def PMc : RCl → Option Int → Prop
  | .al => fun _ => True
  | _ => PS1
def gC : RCl → Int → Option Int → Int → Bool
  | .al => g0
  | _ => g1
def kC : RCl → Int → Option Int → Int → Tab
  | .al => k0
  | _ => k1
/-- what is wrong, as the law says it -/
def lkL (l : Int) (m : Option Int) (T : Int) : Tab := if T < l then [("few", l - T)] else match m with
  | none => []
  | some n => if T > n then [("many", T - n)] else []
def Fit : RCl → Int → Option Int → Prop
  | .al, _, m => m = none
  | _, l, m => ∃ n, m = some n ∧ l ≤ n
theorem kC_eq {c : RCl} {l : Int} {m : Option Int} (h : Fit c l m) (T : Int) : kC c l m T = lkL l m T := by
  have one : ∀ n, l ≤ n → k1 l (some n) T = lkL l (some n) T := fun n hn => by
    unfold k1 k0 lkL
    simp only [Option.getD_some]
    by_cases a : T < l
    · rw [if_pos (show l - T > 0 by omega), if_neg (show ¬ T - n > 0 by omega), if_pos a]
      rfl
    · rw [if_neg (show ¬ l - T > 0 by omega), if_neg a]
      by_cases b : T > n
      · rw [if_pos (show T - n > 0 by omega), if_pos b]
        rfl
      · rw [if_neg (show ¬ T - n > 0 by omega), if_neg b]
        rfl
  cases c
  · have e : m = none := h
    subst e
    show k0 l none T = lkL l none T
    unfold k0 lkL
    by_cases a : T < l
    · rw [if_pos (show l - T > 0 by omega), if_pos a]
    · rw [if_neg (show ¬ l - T > 0 by omega), if_neg a]
  · obtain ⟨n, rfl, hn⟩ := h
    exact one n hn
  · obtain ⟨n, rfl, hn⟩ := h
    exact one n hn
  · obtain ⟨n, rfl, hn⟩ := h
    exact one n hn
theorem gC_eq {c : RCl} {l : Int} {m : Option Int} (h : Fit c l m) (T : Int) : gC c l m T = decide (lkL l m T = []) := by
  have one : ∀ n, l ≤ n → g1 l (some n) T = decide (lkL l (some n) T = []) := fun n hn => by
    unfold g1 lkL
    simp only [Option.getD_some]
    by_cases a : T < l
    · rw [if_pos a, decide_eq_false (show ¬ l ≤ T by omega)]
      simp
    · rw [if_neg a, decide_eq_true (show l ≤ T by omega)]
      by_cases b : T > n
      · rw [if_pos b, decide_eq_false (show ¬ T ≤ n by omega)]
        simp
      · rw [if_neg b, decide_eq_true (show T ≤ n by omega)]
        simp
  cases c
  · have e : m = none := h
    subst e
    show g0 l none T = decide (lkL l none T = [])
    unfold g0 lkL
    by_cases a : T < l
    · rw [if_pos a, decide_eq_false (show ¬ l ≤ T by omega)]
      simp
    · rw [if_neg a, decide_eq_true (show l ≤ T by omega)]
      simp
  · obtain ⟨n, rfl, hn⟩ := h
    exact one n hn
  · obtain ⟨n, rfl, hn⟩ := h
    exact one n hn
  · obtain ⟨n, rfl, hn⟩ := h
    exact one n hn
theorem Fit.pm {c : RCl} {l : Int} {m : Option Int} (h : Fit c l m) : PMc c m := by
  cases c
  · trivial
  · obtain ⟨n, e, _⟩ := h; exact ⟨n, e⟩
  · obtain ⟨n, e, _⟩ := h; exact ⟨n, e⟩
  · obtain ⟨n, e, _⟩ := h; exact ⟨n, e⟩
def spLk : Sp := fun vs H Q _ => ∃ (T l : Int) (m : Option Int) (e : Addr), vs = [.int T, .ref e] ∧ H e = some (.tup [.int l, optV m]) ∧ ∀ (r : Addr) (H' : Hp) (xs : List V), H r = none → Same H H' → H' r = some (.lst xs) → PrL H' xs (lkL l m T) → Q (.ref r) H'
def spJudged (a : RAd) (C : Addr) : Sp := fun vs H Q _ => ∃ (p e q : Addr) (c : RCl) (l : Int) (m : Option Int) (ks : List Str) (t : Tab), vs = [.ref p, .ref e, .ref q, .int (tot t ks)] ∧ RCat a c C H p q l m ks t ∧ Fit c l m ∧ H e = some (.tup [.int l, optV m]) ∧ ∀ H', Same H H' → Q (.bl true) H'
section
variable {P : Program} {w : World} {K : PySem.W.Frag} {mg : Str → Option Value} {base : Heap}
theorem ok_lk {f : Addr} {fd : FuncData} (F : Fun K "_law_lacks" "_law_lacks" s_l_lacks f fd) (g : Bi mg) : FnOk P w K mg base CX0 1 f fd ["_law_total", "_law_ends_here"] spLk := by
  refine F.ok sc_l_lacks (fun vs H Q E h => ?_) (fun cdv A outer s H vs Q E hr h => ?_)
  · obtain ⟨_, _, _, _, rfl, _⟩ := h
    rfl
  · obtain ⟨T, l, m, e, rfl, he, k⟩ := h
    refine ⟨_, (pss_cons (ps_if (pt_cmpR op_lt (pv 0) (pe_ix ix_tup (pv 1) pe_int (fun _ _ => rfl)) (nomark _)) (pss_one (ps_ret (pe_lst (pa_cons (pe_tup (pa_cons pe_str (pa_cons (pe_op op_sub (pe_ix ix_tup (pv 1) pe_int (fun _ _ => rfl)) (pv 0)) pa_nil))) pa_nil)))) pss_nil)
      (pss_cons (ps_if (PW.pt (pw_and (pt_cmpR op_notN (pe_ix ix_tup (pv 1) pe_int (fun _ _ => rfl)) pe_non (nomark _)) (pw_and1 (pt_cmpR op_gt (pv 0) (pe_ix ix_tup (pv 1) pe_int (fun _ _ => rfl)) (nomark _))))) (pss_one (ps_ret (pe_lst (pa_cons (pe_tup (pa_cons pe_str (pa_cons (pe_op op_sub (pv 0) (pe_ix ix_tup (pv 1) pe_int (fun _ _ => rfl))) pa_nil))) pa_nil)))) pss_nil)
      (pss_one (ps_ret (pe_lst pa_nil))))), ?_⟩
    unfold lkL at k
    have hT := SqT.of (K := K) he
    refine ⟨_, rfl, _, rfl, e, _, 0, _, rfl, rfl, hT, rfl, _, _, rfl, rfl, _, rfl, ite2 (fun z1 => ?_) (fun z1 => ?_)⟩
    · have h1 : T < l := of_decide_eq_true z1
      rw [if_pos h1] at k
      refine ⟨_, rfl, e, _, 0, _, rfl, rfl, hT, rfl, _, rfl, _, _, rfl, rfl, by show 2 ≤ sizeLine; decide, fun T' hT' => ⟨by show 1 ≤ sizeLine; decide, fun r hr' => ?_⟩⟩
      have u1 : Same H (upd H T' (.tup [.str "few", .int (l - T)])) := Same.new hT'
      have gT : (upd H T' (.tup [.str "few", .int (l - T)])) T' = some (.tup [.str "few", .int (l - T)]) := upd_same
      generalize upd H T' (.tup [.str "few", .int (l - T)]) = H2 at u1 gT hr'
      have u2 : Same H2 (upd H2 r (.lst [.ref T'])) := Same.new hr'
      exact k r _ [.ref T'] (u1.free hr') (u1.trans u2) upd_same (.cons ⟨T', rfl, u2 _ _ gT⟩ .nil)
    · have h1 : ¬ T < l := fun q => z1 (decide_eq_true q)
      rw [if_neg h1] at k
      have fin : ∀ {k' : VK}, (∀ (r : Addr) (H' : Hp), H r = none → Same H H' → H' r = some (.lst []) → k' (.ref r) H') → ([] : List V).length ≤ sizeLine ∧ ∀ r, H r = none → k' (.ref r) (upd H r (.lst [])) := fun q => ⟨Nat.zero_le _, fun r hr' => q r _ hr' (Same.new hr') upd_same⟩
      refine ⟨_, rfl, e, _, 1, _, rfl, rfl, hT, rfl, rfl, _, rfl, ?_⟩
      cases m with
      | none => exact iteF (fin fun r H' h1 h2 h3 => k r H' [] h1 h2 h3 .nil)
      | some n =>
        refine iteT ⟨_, rfl, _, rfl, e, _, 1, _, rfl, rfl, hT, rfl, _, _, rfl, rfl, _, rfl, ite2 (fun z2 => ?_) (fun z2 => ?_)⟩
        · have h2 : T > n := of_decide_eq_true z2
          simp only [if_pos h2] at k
          refine ⟨_, rfl, _, rfl, e, _, 1, _, rfl, rfl, hT, rfl, _, _, rfl, rfl, by show 2 ≤ sizeLine; decide, fun T' hT' => ⟨by show 1 ≤ sizeLine; decide, fun r hr' => ?_⟩⟩
          have u1 : Same H (upd H T' (.tup [.str "many", .int (T - n)])) := Same.new hT'
          have gT : (upd H T' (.tup [.str "many", .int (T - n)])) T' = some (.tup [.str "many", .int (T - n)]) := upd_same
          generalize upd H T' (.tup [.str "many", .int (T - n)]) = H2 at u1 gT hr'
          have u2 : Same H2 (upd H2 r (.lst [.ref T'])) := Same.new hr'
          exact k r _ [.ref T'] (u1.free hr') (u1.trans u2) upd_same (.cons ⟨T', rfl, u2 _ _ gT⟩ .nil)
        · have h2 : ¬ T > n := fun q => z2 (decide_eq_true q)
          simp only [if_neg h2] at k
          exact fin fun r H' h1 h2 h3 => k r H' [] h1 h2 h3 .nil
end
end Cs

set_option Elab.async false
set_option linter.all false
set_option maxRecDepth 100000
set_option maxHeartbeats 8000000
set_option pp.maxSteps 600
/-! The law of what rules hold for: a rule judged. -/
namespace Cs
open PySem L2
theorem w_few : Word "few" := ⟨by decide, by decide, by decide +kernel⟩
theorem w_many : Word "many" := ⟨by decide, by decide, by decide +kernel⟩
theorem lk_wd (l : Int) (m : Option Int) (T : Int) : WdP (lkL l m T) := by
  intro q hq
  unfold lkL at hq
  split at hq
  · rw [List.mem_singleton.mp hq]
    exact w_few
  · cases m with
    | none => cases hq
    | some n =>
      simp only at hq
      split at hq
      · rw [List.mem_singleton.mp hq]
        exact w_many
      · cases hq
theorem lk_len (l : Int) (m : Option Int) (T : Int) : (lkL l m T).length ≤ 1 := by
  unfold lkL
  split
  · exact Nat.le_refl _
  · cases m with
    | none => exact Nat.zero_le _
    | some n =>
      simp only
      split
      · exact Nat.le_refl _
      · exact Nat.zero_le _
theorem prl_get {H : Hp} : ∀ {xs : List V} {ps : List (Str × Int)}, PrL H xs ps → ∀ {i : Nat} {x : V}, xs[i]? = some x → ∃ t q, x = .ref t ∧ ps[i]? = some q ∧ H t = some (.tup [.str q.1, .int q.2])
  | _, _, .nil, _, _, h => by cases h
  | _, _, .cons ⟨t, e, ht⟩ r, 0, _, h => by
    cases h
    exact ⟨t, _, e, rfl, ht⟩
  | _, _, .cons _ r, i + 1, _, h => prl_get r (i := i) h
theorem pd_nil (l : Tab) : PyData.eqv (pd l) (pd []) = decide (l = []) := by
  cases l with
  | nil => rfl
  | cons q r => simp [pd, PyData.eqv, PyData.eqvAll]
section
variable {P : Program} {w : World} {K : PySem.W.Frag} {mg : Str → Option Value} {base : Heap}
theorem ok_judged {C f fLi fLk : Addr} {fd fdLi fdLk : FuncData} {a : RAd} (F : Fun K "_law_judged" "_law_judged" s_l_judged f fd) (g : Bi mg) (Wo : RWo K mg a) (WT : MW P w K mg base CX0 4 a "total_of" (fun c => spTot a c C)) (WH : MW P w K mg base CX0 9 a "holds" (fun c => spH a c C (PMc c) (gC c))) (WL : MW P w K mg base CX0 9 a "lacks" (fun c => spL a c C (PMc c) (kC c)))
    (FLi : Def P w K mg base CX0 1 "_law_is_integer" ["_law_thing"] (spIsInteger K) fLi fdLi) (FLk : Def P w K mg base CX0 1 "_law_lacks" ["_law_total", "_law_ends_here"] spLk fLk fdLk) :
    FnOk P w K mg base CX0 10 f fd ["_law_rule", "_law_ends_here", "_law_counts_here", "_law_total"] (spJudged a C) := by
  obtain ⟨GLi, mLi, _, bLi⟩ := id FLi
  obtain ⟨GLk, mLk, _, bLk⟩ := id FLk
  refine F.ok sc_l_judged (fun vs H Q E h => ?_) (fun cdv A outer s H vs Q E hr h => ?_)
  · obtain ⟨_, _, _, _, _, _, _, _, rfl, _⟩ := h
    rfl
  · obtain ⟨p, e, q, c, l, m, ks, t, rfl, hR, hf, he, k⟩ := h
    have hrLi : Room 1 _ := hr.mono (by decide)
    have hrLk : Room 1 _ := hr.mono (by decide)
    have hrT : Room 4 _ := hr.mono (by decide)
    have hrH : Room 9 _ := hr
    have rc := Wo.rc c
    obtain ⟨⟨dx, kt, fs, hp, hkt, f1, f2, f3, f4⟩, _⟩ := id hR
    have wd := lk_wd l m (tot t ks)
    refine ⟨_, (pss_cons (ps_if (PW.pt (pw_or (pt_not (pt_val (pe_call GLi hrLi rfl mLi FLi.kp bLi .nil pass0 (pa_cons (pe_methP (pv 0) WT hrT pass0 (pa_cons (pv 2) pa_nil)) pa_nil)))) (pw_or1 (pt_cmpR op_ne (pe_methP (pv 0) WT hrT pass0 (pa_cons (pv 2) pa_nil)) (pv 3) (nomark _))))) (pss_one (ps_ret pe_bl)) pss_nil)
      (pss_cons (ps_set (i := 4) sc_l_judged.nd rfl (Or.inl rfl) (pe_call GLk hrLk rfl mLk FLk.kp bLk .nil pass0 (pa_cons (pv 3) (pa_cons (pv 1) pa_nil))))
      (pss_cons (ps_if (pt_cmpR op_ne (pe_methP (pv 0) WH hrH pass0 (pa_cons (pv 2) pa_nil)) (pe_cmpR (op_eqD hr.units) (pv 4) (pe_lst pa_nil) (nomark _)) (nomark _)) (pss_one (ps_ret pe_bl)) pss_nil)
      (pss_cons (ps_set (i := 5) sc_l_judged.nd rfl (Or.inl rfl) (pe_methP (pv 0) WL hrH pass0 (pa_cons (pv 2) pa_nil)))
      (pss_cons (ps_if (PW.pt (pw_or (pt_not (pt_val (pe_callB call_isi (by rfl) g.isinstance (by decide +kernel) (pa_cons (pv 5) (pa_cons (pe_bltn (v := .ty "list") (by rfl) g.list (by decide +kernel) rfl) pa_nil))))) (pw_or1 (pt_cmpR (op_neD hr.units) (pv 5) (pv 4) (nomark _))))) (pss_one (ps_ret pe_bl)) pss_nil)
      (pss_cons (ps_for PassesOwn.never rfl (pi_list (pv 5)) (pg_name (i := 6) sc_l_judged.nd rfl (Or.inl rfl)) (pss_one (ps_if (PW.pt (pw_or (pt_not (pt_val (pe_callB call_isi (by rfl) g.isinstance (by decide +kernel) (pa_cons (pv 6) (pa_cons (pe_bltn (v := .ty "tuple") (by rfl) g.tuple (by decide +kernel) rfl) pa_nil))))) (pw_or1 (pt_not (pt_val (pe_call GLi hrLi rfl mLi FLi.kp bLi .nil pass0 (pa_cons (pe_ix ix_tup (pv 6) pe_int (fun _ _ => rfl)) pa_nil))))))) (pss_one (ps_ret pe_bl)) pss_nil)))
      (pss_cons (ps_expr (pe_bm PySem.F.plainAttrs_list PySem.F.slot_list_append PySem.F.type_list_append mt_append (pv 5) (pa_cons (pe_tup (pa_cons pe_str (pa_cons pe_int pa_nil))) pa_nil)))
      (pss_one (ps_ret (pe_and (pe_cmpR (op_eqD hr.units) (pe_methP (pv 0) WL hrH pass0 (pa_cons (pv 2) pa_nil)) (pv 4) (nomark _)) (pe_and (pe_cmpR op_eq (pe_fld (pv 0) rfl) (pe_ix ix_tup (pv 1) pe_int (fun _ _ => rfl)) (nomark _)) (pe_one (pe_cmpR op_eq (pe_fld (pv 0) rfl) (pe_ix ix_tup (pv 1) pe_int (fun _ _ => rfl)) (nomark _)))))))))))))), ?_⟩
    refine ⟨_, rfl, p, c, dx, fs, rfl, hp, f4 _ (by decide), _, rfl, p, q, l, m, ks, t, rfl, hR, fun H1 s1 => .inl ⟨_, rfl, _, rfl, iteF ?_⟩⟩
    have hR1 := hR.same s1
    refine ⟨_, rfl, p, c, dx, fs, rfl, s1 _ _ hp, f4 _ (by decide), _, rfl, p, q, l, m, ks, t, rfl, hR1, fun H2 s2 => ⟨_, rfl, rfl, ?_⟩⟩
    rw [decide_eq_true (rfl : V.int (tot t ks) = V.int (tot t ks))]
    refine ⟨_, rfl, iteF ?_⟩
    have s12 := s1.trans s2
    refine ⟨_, rfl, _, rfl, tot t ks, l, m, e, rfl, s12 _ _ he, fun du H3 xs hdu s3 gd hPd => ?_⟩
    have s13 := s12.trans s3
    refine ⟨_, rfl, p, c, dx, fs, rfl, s13 _ _ hp, f4 _ (by decide), _, rfl, p, q, l, m, ks, t, rfl, hR.same s13, hf.pm, fun H4 s4 => ?_⟩
    refine ⟨_, rfl, Nat.zero_le _, fun b hb => ?_⟩
    have u1 : Same H4 (upd H4 b (.lst [])) := Same.new hb
    have gb : (upd H4 b (.lst [])) b = some (.lst []) := upd_same
    generalize upd H4 b (.lst []) = H5 at u1 gb
    have s45 := s4.trans u1
    have hPd5 : PrL H5 xs (lkL l m (tot t ks)) := hPd.mono fun _ _ _ e => s45 _ _ e
    refine ⟨pd (lkL l m (tot t ks)), pd [], .lst (SqL.of (s45 _ _ gd)) hPd5.dp, .lst (SqL.of gb) .nil, pd_shaped wd, pd_shaped (fun _ h => nomatch h), rfl, ?_⟩
    rw [pd_nil, gC_eq hf, decide_eq_true (rfl : V.bl (decide (lkL l m (tot t ks) = [])) = V.bl (decide (lkL l m (tot t ks) = [])))]
    refine ⟨_, rfl, iteF ?_⟩
    have s15 := s13.trans s45
    refine ⟨_, rfl, p, c, dx, fs, rfl, s15 _ _ hp, f4 _ (by decide), _, rfl, p, q, l, m, ks, t, rfl, hR.same s15, hf.pm, fun tl H6 ys htl s6 gt hPt => ?_⟩
    rw [kC_eq hf] at hPt
    have hPd6 : PrL H6 xs (lkL l m (tot t ks)) := hPd5.mono fun _ _ _ e => s6 _ _ e
    have gd6 := s6 _ _ (s45 _ _ gd)
    have ndt : du ≠ tl := ne_of_none (s45 _ _ gd) htl
    refine ⟨_, rfl, _, _, _, _, true, rfl, .ty "list", .base (.lst gt), kit_ty (by decide +kernel), _, rfl, iteF ?_⟩
    refine ⟨_, rfl, _, rfl, pd (lkL l m (tot t ks)), pd (lkL l m (tot t ks)), .lst (SqL.of gt) hPt.dp, .lst (SqL.of gd6) hPd6.dp, pd_shaped wd, pd_shaped wd, ?_⟩
    rw [pd_refl wd]
    refine ⟨_, rfl, iteF ?_⟩
    refine ⟨_, rfl, tl, rfl, ⟨_, SqL.of gt⟩, ?_⟩
    refine for_list (K := K) (a := tl) (xs := ys) (fun i σ' H' => ∃ x6 : Option V, σ' = [some (.ref p), some (.ref e), some (.ref q), some (.int (tot t ks)), some (.ref du), some (.ref tl), x6] ∧ H' = H6)
      ⟨_, rfl, rfl⟩ (fun i σ' H' _ ⟨_, _, z⟩ => by rw [z]; exact SqL.of gt) ?_ ?_
    · rintro i x σ' H' hi ⟨x6, rfl, rfl⟩
      obtain ⟨t9, q9, rfl, eq9, ht9⟩ := prl_get hPt hi
      refine ⟨_, rfl, _, _, _, _, true, rfl, .ty "tuple", .base (.tup ht9), kit_ty (by decide +kernel), _, rfl, iteF ?_⟩
      exact ⟨_, rfl, t9, _, 1, _, rfl, rfl, SqT.of ht9, rfl, .inl ⟨_, rfl, _, rfl, iteF ⟨_, rfl, rfl⟩⟩⟩
    rintro σ' H' ⟨x6, rfl, rfl⟩
    refine ⟨_, rfl, .inl ⟨rfl, _, SqL.of gt⟩, by show 2 ≤ sizeLine; decide, fun T hT => ?_⟩
    have v1 : Same H' (upd H' T (.tup [.str "few", .int 1])) := Same.new hT
    have gT : (upd H' T (.tup [.str "few", .int 1])) T = some (.tup [.str "few", .int 1]) := upd_same
    generalize upd H' T (.tup [.str "few", .int 1]) = H7 at v1 gT
    have hyl := hPt.length
    have hll := lk_len l m (tot t ks)
    refine ⟨tl, _, _, rfl, rfl, v1 _ _ gt, Nat.lt_of_le_of_lt (show ys.length ≤ 1 by omega) (by decide), ?_⟩
    have kq : ∀ b o, H7 b = some o → b ≠ tl → (upd H7 tl (.lst (ys ++ [.ref T]))) b = some o := fun b o z n => by rw [upd_ne n]; exact z
    generalize upd H7 tl (.lst (ys ++ [.ref T])) = H8 at kq
    have sB : Same H H8 := fun b o z => kq b o (v1 _ _ (s6 _ _ (s15 b o z))) (ne_of_none (s15 b o z) htl)
    have gd8 := kq _ _ (v1 _ _ gd6) ndt
    have hPd8 : PrL H8 xs (lkL l m (tot t ks)) := hPd5.mono fun x _ _ z => kq _ _ (v1 _ _ (s6 _ _ z)) (ne_of_none z htl)
    refine ⟨_, rfl, p, c, dx, fs, rfl, sB _ _ hp, f4 _ (by decide), _, rfl, p, q, l, m, ks, t, rfl, hR.same sB, hf.pm, fun zl H9 zs hzl s9 gz hPz => ?_⟩
    rw [kC_eq hf] at hPz
    have sC := sB.trans s9
    refine ⟨_, rfl, pd (lkL l m (tot t ks)), pd (lkL l m (tot t ks)), .lst (SqL.of gz) hPz.dp, .lst (SqL.of (s9 _ _ gd8)) (hPd8.mono fun _ _ _ z => s9 _ _ z).dp, pd_shaped wd, pd_shaped wd, ?_⟩
    rw [pd_refl wd]
    refine ⟨_, rfl, iteT ?_⟩
    have he9 := SqT.of (K := K) (sC _ _ he)
    refine ⟨_, rfl, p, _, dx, fs, _, rfl, sC _ _ hp, rc.cl, rc.nl, f2, _, rfl, e, _, 0, _, rfl, rfl, he9, rfl, rfl, ?_⟩
    rw [decide_eq_true (rfl : V.int l = V.int l)]
    refine ⟨_, rfl, iteT ?_⟩
    refine ⟨_, rfl, p, _, dx, fs, _, rfl, sC _ _ hp, rc.cl, rc.nm, f3, _, rfl, e, _, 1, _, rfl, rfl, he9, rfl, by cases m <;> rfl, ?_⟩
    rw [decide_eq_true (rfl : optV m = optV m)]
    exact k H9 sC
end
end Cs

set_option Elab.async false
set_option linter.all false
set_option maxRecDepth 100000
set_option maxHeartbeats 8000000
set_option pp.maxSteps 600
/-! The law of what rules hold for: the drawn counts. -/
namespace Cs
open PySem L2
def spCounts : Sp := fun vs H Q _ => ∃ (p c kl : Addr) (ks : List Str) (oz : Str) (lo hi : Int), vs = [.ref p, .ref kl, .str oz, .int lo, .int hi] ∧ Src H p c ∧ H kl = some (.lst (ks.map V.str)) ∧ kl ≠ p ∧ Kinds ks ∧ Word oz ∧ Bnd9 lo ∧ Bnd9 hi ∧
  ∀ (r : Addr) (H' : Hp) (xs : List V) (ns : List Int) (n : Int), H r = none → H' r = some (.lst xs) → ns.length = ks.length → PrL H' xs (ks.zip ns ++ [(oz, n)]) → (∀ x ∈ ns, Small x) → Small n → Src H' p c → Kp p H H' → Q (.ref r) H'
theorem cut1 (xs : List V) : cutV xs (some 1) none = xs.drop 1 := by
  cases xs with
  | nil => rfl
  | cons x r =>
    have h : HT.sIx (r.length + 1) 0 (some ((1 : Nat) : Int)) = 1 := by
      rw [HT.sIx_nat]
      omega
    show ((x :: r).drop (HT.sIx (r.length + 1) 0 (some ((1 : Nat) : Int)))).take (HT.sIx (r.length + 1) (r.length + 1) none - HT.sIx (r.length + 1) 0 (some ((1 : Nat) : Int))) = r
    rw [h, HT.sIx_none]
    simp
theorem small9 {n : Int} (h0 : -10 ≤ n) (h1 : n ≤ 10) : Small n := by
  unfold Small
  have : (10 : Int) ^ 30 = 1000000000000000000000000000000 := by decide
  rw [this]
  omega
theorem Small.neg {n : Int} (h : Small n) : Small (-n) := by
  unfold Small at *
  omega
section
variable {P : Program} {w : World} {K : PySem.W.Frag} {mg : Str → Option Value} {base : Heap}
theorem ok_counts {f fD fN : Addr} {fd fdD fdN : FuncData} (F : Fun K "_law_counts" "_law_counts" s_l_counts f fd) (g : Bi mg) (FD : Def P w K mg base CX0 2 "_law_draw" ["_law_source_here", "_law_size"] spDraw fD fdD) (FN : Def P w K mg base CX0 3 "_law_number" ["_law_source_here"] spNumber fN fdN) :
    FnOk P w K mg base CX0 4 f fd ["_law_source_here", "_law_kinds_here", "_law_other", "_law_low", "_law_high"] spCounts := by
  obtain ⟨GD, mD, _, bD⟩ := id FD
  obtain ⟨GN, mN, _, bN⟩ := id FN
  refine F.ok sc_l_counts (fun vs H Q E h => ?_) (fun cdv A outer s H vs Q E hr h => ?_)
  · obtain ⟨_, _, _, _, _, _, _, rfl, _⟩ := h
    rfl
  · obtain ⟨p, c, kl, ks, oz, lo, hi0, rfl, S0, hk, nkp, hK, ho, hlo, hhi, k⟩ := h
    have hrD : Room 2 _ := hr.mono (by decide)
    have hrN : Room 3 _ := hr
    have hk3 := hK.hi
    have hk1 := hK.lo
    refine ⟨_, (pss_cons (ps_set (i := 5) sc_l_counts.nd rfl (Or.inl rfl) (pe_lst pa_nil))
      (pss_cons (ps_for PassesOwn.never rfl (pi_list (pv 1)) (pg_name (i := 6) sc_l_counts.nd rfl (Or.inl rfl)) (pss_cons (ps_set (i := 7) sc_l_counts.nd rfl (Or.inl rfl) (pe_call GD hrD rfl mD FD.kp bD .nil pass0 (pa_cons (pv 0) (pa_cons pe_int pa_nil))))
      (C8.pss_cut (ps_set (i := 8) sc_l_counts.nd rfl (Or.inl rfl) (pe_ifExp (pt_cmpR op_eq (pv 7) pe_int (nomark _)) (pe_call GN hrN rfl mN FN.kp bN .nil pass0 (pa_cons (pv 0) pa_nil)) (pe_call GD hrD rfl mD FD.kp bD .nil pass0 (pa_cons (pv 0) (pa_cons pe_int pa_nil)))))
      (C8.pss_cut (ps_if (pt_cmpR op_eq (pv 7) pe_int (nomark _)) (pss_one (ps_set (i := 8) sc_l_counts.nd rfl (Or.inl rfl) (pe_un un_neg (pv 8)))) pss_nil)
      (pss_one (ps_expr (pe_bm PySem.F.plainAttrs_list PySem.F.slot_list_append PySem.F.type_list_append mt_append (pv 5) (pa_cons (pe_tup (pa_cons (pv 6) (pa_cons (pv 8) pa_nil))) pa_nil))))))))
      (pss_cons (ps_set (i := 9) sc_l_counts.nd rfl (Or.inl rfl) (pe_call GD hrD rfl mD FD.kp bD .nil pass0 (pa_cons (pv 0) (pa_cons pe_int pa_nil))))
      (pss_cons (ps_set (i := 10) sc_l_counts.nd rfl (Or.inl rfl) (pe_callB (cr_sum rfl) (by rfl) g.sum (by decide +kernel) (pa_cons (pe_lc (own := [("_law_pair", 12)]) (g := gName 12) (te := (tOp (rIxT K) _ _))  (by rfl) sc_l_counts.nd (pi_list (pe_slice sl_list (pv 5) (po_some pe_int) po_none)) (blkOk_by (own := [("_law_pair", 12)]) (N := ["_law_source_here", "_law_kinds_here", "_law_other", "_law_low", "_law_high", "_law_pairs", "_law_kind_here", "_law_mode", "_law_number_here", "_law_near", "_law_rest", "_law_end", "_law_pair"]) (sc := defScope s_l_counts) (by decide +kernel)) (fun _ _ _ _ _ => (pg_name (i := 12) sc_l_counts.nd rfl (Or.inl rfl))) (fun _ _ _ _ _ => pts_nil) (fun _ _ _ _ _ => (pe_ix ix_tup (pv 12) pe_int (fun _ _ => rfl)))) pa_nil)))
      (C8.pss_cut (ps_if (PW.pt (pw_and (pt_cmpR op_lt (pv 9) pe_int (nomark _)) (pw_and1 (pt_chain op_lt op_lt (pe_un un_neg (pe_op op_pow pe_int pe_int)) (pv 10) (pe_op op_pow pe_int pe_int))))) (pss_cons (ps_set (i := 11) sc_l_counts.nd rfl (Or.inl rfl) (pe_ix ix_list (pe_lst (pa_cons (pv 3) (pa_cons (pv 4) pa_nil))) (pv 9) (fun _ _ => rfl)))
      (pss_one (ps_asg (pe_tup (pa_cons (pe_ix ix_list (pv 1) pe_int (fun _ _ => rfl)) (pa_cons (pe_op op_sub (pe_op op_add (pe_op op_sub (pv 11) (pv 10)) (pe_call GD hrD rfl mD FD.kp bD .nil pass0 (pa_cons (pv 0) (pa_cons pe_int pa_nil)))) pe_int) pa_nil))) (pg_sub (pv 5) pe_int set_list)))) pss_nil)
      (pss_cons (ps_expr (pe_bm PySem.F.plainAttrs_list PySem.F.slot_list_append PySem.F.type_list_append mt_append (pv 5) (pa_cons (pe_tup (pa_cons (pv 2) (pa_cons (pe_call GN hrN rfl mN FN.kp bN .nil pass0 (pa_cons (pv 0) pa_nil)) pa_nil))) pa_nil)))
      (pss_one (ps_ret (pv 5))))))))), ?_⟩
    refine ⟨Nat.zero_le _, fun r hr0 => ?_⟩
    have s1 : Same H (upd H r (.lst [])) := Same.new hr0
    have g1 : (upd H r (.lst [])) r = some (.lst []) := upd_same
    have nrp : r ≠ p := S0.new_p hr0
    have nrc : r ≠ c := S0.new_c hr0
    have nrk : r ≠ kl := (ne_of_none hk hr0).symm
    generalize upd H r (.lst []) = H1 at s1 g1
    refine ⟨_, rfl, kl, rfl, ⟨_, SqL.of (s1 _ _ hk)⟩, ?_⟩
    refine for_list (K := K) (a := kl) (xs := ks.map V.str) (fun i σ' H' => ∃ (xs : List V) (ns : List Int) (x6 x7 x8 : Option V), σ' = [some (.ref p), some (.ref kl), some (.str oz), some (.int lo), some (.int hi0), some (.ref r), x6, x7, x8, none, none, none, none] ∧ H' r = some (.lst xs) ∧ ns.length = i ∧ PrL H' xs ((ks.take i).zip ns) ∧ (∀ x ∈ ns, Small x) ∧ H' kl = some (.lst (ks.map V.str)) ∧ Src H' p c ∧ Kp p H H')
      ⟨[], [], _, _, _, rfl, g1, rfl, .nil, (fun _ h => nomatch h), s1 _ _ hk, S0.same s1, Kp.of s1⟩ (fun i σ' H' _ ⟨_, _, _, _, _, _, _, _, _, _, z, _⟩ => SqL.of z) ?_ ?_
    · rintro i z σ' H' hi ⟨xs, ns, x6, x7, x8, rfl, hr', hnl, hP, hsm, hk', S', k'⟩
      rw [List.getElem?_map] at hi
      cases ez : ks[i]? with
      | none => rw [ez] at hi; cases hi
      | some z0 =>
      rw [ez] at hi
      obtain rfl := Option.some.inj hi
      have hik : i < ks.length := (List.getElem?_eq_some_iff.mp ez).1
      refine ⟨_, rfl, p, c, 4, rfl, S', by decide, by decide, fun v H2 v0 v1 S2 k2 => ?_⟩
      have step : ∀ {H2 H3 : Hp}, Src H2 p c → PrL H2 xs ((ks.take i).zip ns) → Kp p H2 H3 → PrL H3 xs ((ks.take i).zip ns) := fun S h k => h.mono fun t _ _ e => k _ _ e (S.tup_p e)
      let Iv : L2.St → Hp → Prop := fun σ H' => ∃ n : Int, σ = [some (.ref p), some (.ref kl), some (.str oz), some (.int lo), some (.int hi0), some (.ref r), some (.str z0), some (.int v), some (.int n), none, none, none, none] ∧ Small n ∧ H' r = some (.lst xs) ∧ PrL H' xs ((ks.take i).zip ns) ∧ H' kl = some (.lst (ks.map V.str)) ∧ Src H' p c ∧ Kp p H H'
      refine ⟨Iv, ?_, ?_⟩
      · have hr2 := k2 _ _ hr' nrp
        have hP2 := step S' hP k2
        have hk2 := k2 _ _ hk' nkp
        refine ⟨_, rfl, rfl, _, rfl, ite2 (fun z1 => ?_) (fun z1 => ?_)⟩
        · exact ⟨_, rfl, p, c, rfl, S2, fun n H3 hn S3 k3 => ⟨n, rfl, hn, k3 _ _ hr2 nrp, step S2 hP2 k3, k3 _ _ hk2 nkp, S3, (k'.trans k2).trans k3⟩⟩
        · exact ⟨_, rfl, p, c, 10, rfl, S2, by decide, by decide, fun n H3 n0 n1 S3 k3 => ⟨n, rfl, small9 (by omega) (by omega), k3 _ _ hr2 nrp, step S2 hP2 k3, k3 _ _ hk2 nkp, S3, (k'.trans k2).trans k3⟩⟩
      rintro σ1 H3 ⟨n, rfl, hn, hr3, hP3, hk3', S3, k3⟩
      refine ⟨Iv, ?_, ?_⟩
      · refine ⟨_, rfl, rfl, _, rfl, ite2 (fun z1 => ?_) (fun z1 => ?_)⟩
        · exact ⟨_, rfl, _, rfl, -n, rfl, hn.neg, hr3, hP3, hk3', S3, k3⟩
        · exact ⟨n, rfl, hn, hr3, hP3, hk3', S3, k3⟩
      clear hn hr3 hP3 hk3' S3 k3
      rintro σ1 H4 ⟨n, rfl, hn, hr4, hP4, hk4, S4, k4⟩
      refine ⟨_, rfl, .inl ⟨rfl, _, SqL.of hr4⟩, _, rfl, _, rfl, by show 2 ≤ sizeLine; decide, fun T hT => ?_⟩
      have u1 : Same H4 (upd H4 T (.tup [.str z0, .int n])) := Same.new hT
      have gT : (upd H4 T (.tup [.str z0, .int n])) T = some (.tup [.str z0, .int n]) := upd_same
      generalize upd H4 T (.tup [.str z0, .int n]) = H5 at u1 gT
      have hxl := hP4.length
      have hzl : ((ks.take i).zip ns).length ≤ 3 := by rw [List.length_zip, List.length_take]; omega
      refine ⟨r, _, _, rfl, rfl, u1 _ _ hr4, Nat.lt_of_le_of_lt (show xs.length ≤ 3 by omega) (by decide), ?_⟩
      have kq : ∀ b o, H5 b = some o → b ≠ r → (upd H5 r (.lst (xs ++ [.ref T]))) b = some o := fun b o e n => by rw [upd_ne n]; exact e
      have g6 : (upd H5 r (.lst (xs ++ [.ref T]))) r = some (.lst (xs ++ [.ref T])) := upd_same
      generalize upd H5 r (.lst (xs ++ [.ref T])) = H6 at kq g6
      have tr : ∀ {t : Addr} {ys : List V}, H5 t = some (.tup ys) → t ≠ r := fun e => ne_of e (u1 _ _ hr4) (by intro z; cases z)
      refine ⟨xs ++ [.ref T], ns ++ [n], _, _, _, rfl, g6, by rw [List.length_append, hnl]; rfl, ?_, fun x hx => ?_, kq _ _ (u1 _ _ hk4) nrk.symm, (S4.same u1).keep fun b o hb e => kq b o e (by rcases hb with rfl | rfl; exact nrp.symm; exact nrc.symm), fun b o e n => kq _ _ (u1 _ _ (k4 b o e n)) (ne_of_none e hr0)⟩
      · rw [List.take_succ, ez]
        show PrL H6 (xs ++ [.ref T]) ((ks.take i ++ [z0]).zip (ns ++ [n]))
        rw [List.zip_append (by rw [List.length_take]; omega)]
        exact PrL.snoc (hP4.mono fun t _ _ e => kq _ _ (u1 _ _ e) (tr (u1 _ _ e))) (kq _ _ gT (tr gT))
      · rcases List.mem_append.mp hx with q | q
        · exact hsm x q
        · rw [List.mem_singleton.mp q]
          exact hn
    rintro σ' H' ⟨xs, ns, x6, x7, x8, rfl, hr', hnl, hP, hsm, hk', S', k'⟩
    have hkl : (ks.map V.str).length = ks.length := List.length_map _
    rw [hkl, List.take_length] at hP
    rw [hkl] at hnl
    obtain ⟨k1, kr, rfl⟩ : ∃ a b, ks = a :: b := by
      cases ks with
      | nil => exact absurd hk1 (by decide)
      | cons a b => exact ⟨a, b, rfl⟩
    obtain ⟨n1, nr, rfl⟩ : ∃ a b, ns = a :: b := by
      cases ns with
      | nil => cases hnl
      | cons a b => exact ⟨a, b, rfl⟩
    have hnr : nr.length = kr.length := by
      simp only [List.length_cons] at hnl
      omega
    obtain ⟨x1, xr, rfl, ⟨t1, rfl, ht1⟩, hPr⟩ : ∃ a b, xs = a :: b ∧ (∃ t, a = .ref t ∧ H' t = some (.tup [.str k1, .int n1])) ∧ PrL H' b (kr.zip nr) := by
      cases hP with
      | cons h r => exact ⟨_, _, rfl, h, r⟩
    refine ⟨_, rfl, p, c, 4, rfl, S', by decide, by decide, fun nv H2 nv0 nv1 S2 k2 => ?_⟩
    have hr2 := k2 _ _ hr' nrp
    have hk2 := k2 _ _ hk' nkp
    have ht2 := k2 _ _ ht1 (S'.tup_p ht1)
    have hP2 : PrL H2 xr (kr.zip nr) := hPr.mono fun t _ _ e => k2 _ _ e (S'.tup_p e)
    have hrl : xr.length ≤ 2 := by
      rw [hP2.length, List.length_zip]
      simp only [List.length_cons] at hk3
      omega
    refine ⟨_, rfl, _, rfl, r, _, rfl, SqL.of hr2, fun sl hsl => ?_⟩
    rw [cut1]
    have u1 : Same H2 (upd H2 sl (.lst xr)) := Same.new hsl
    have gs : (upd H2 sl (.lst xr)) sl = some (.lst xr) := upd_same
    have eU : upd H2 sl (.lst ((V.ref t1 :: xr).drop 1)) = upd H2 sl (.lst xr) := rfl
    rw [eU]
    generalize upd H2 sl (.lst xr) = H3 at u1 gs
    have hP3 : PrL H3 xr (kr.zip nr) := hP2.mono fun _ _ _ e => u1 _ _ e
    refine ⟨sl, rfl, ⟨_, SqL.of gs⟩, fun D hD => lc_vals (ys := (kr.zip nr).map fun q => V.int q.2) (by rw [List.length_map, hP3.length]) gs hD (by omega) (fun _ => rfl) (fun j x y hx hy H' s' Qe qk => ?_) fun H4 s4 gD => ?_⟩
    · obtain ⟨t9, q9, rfl, eq9, ht9⟩ := prl_get hP3 hx
      rw [List.getElem?_map, eq9] at hy
      obtain rfl := Option.some.inj hy
      exact ⟨_, rfl, t9, _, 1, _, rfl, rfl, SqT.of (s' _ _ ht9), rfl, qk _ (Same.refl _)⟩
    refine ⟨D, (kr.zip nr).map (·.2), rfl, SqL.of (by rw [gD, List.map_map]; rfl), ?_⟩
    have u14 := u1.trans s4
    have S4 := S2.same u14
    have k4 := (k'.trans k2).trans (Kp.of u14)
    have hr4 := u14 _ _ hr2
    have hk4 := u14 _ _ hk2
    have ht4 := u14 _ _ ht2
    have hP4 : PrL H4 xr (kr.zip nr) := hP2.mono fun _ _ _ e => u14 _ _ e
    generalize ((kr.zip nr).map (·.2)).sum = R
    refine ⟨fun σ H' => ∃ (t1 : Addr) (n1 : Int) (x11 : Option V), σ = [some (.ref p), some (.ref kl), some (.str oz), some (.int lo), some (.int hi0), some (.ref r), x6, x7, x8, some (.int nv), some (.int R), x11, none] ∧ H' r = some (.lst (.ref t1 :: xr)) ∧ H' t1 = some (.tup [.str k1, .int n1]) ∧ Small n1 ∧ PrL H' xr (kr.zip nr) ∧ Src H' p c ∧ Kp p H H', ?_, ?_⟩
    · have same : ∃ (t1' : Addr) (n1 : Int) (x11 : Option V), ([some (.ref p), some (.ref kl), some (.str oz), some (.int lo), some (.int hi0), some (.ref r), x6, x7, x8, some (.int nv), some (.int R), none, none] : L2.St) = [some (.ref p), some (.ref kl), some (.str oz), some (.int lo), some (.int hi0), some (.ref r), x6, x7, x8, some (.int nv), some (.int R), x11, none] ∧ H4 r = some (.lst (.ref t1' :: xr)) ∧ H4 t1' = some (.tup [.str k1, .int n1]) ∧ Small n1 ∧ PrL H4 xr (kr.zip nr) ∧ Src H4 p c ∧ Kp p H H4 :=
        ⟨t1, n1, _, rfl, hr4, ht4, hsm n1 List.mem_cons_self, hP4, S4, k4⟩
      refine ⟨_, rfl, _, _, rfl, rfl, _, rfl, ite2 (fun z1 => ?_) (fun z1 => same)⟩
      refine ⟨_, _, rfl, rfl, ⟨by decide, by decide, by decide⟩, _, rfl, _, rfl, _, _, rfl, rfl, _, rfl, ite2 (fun z2 => ?_) (fun z2 => ⟨_, rfl, iteF same⟩)⟩
      refine ⟨_, _, rfl, rfl, ⟨by decide, by decide, by decide⟩, _, _, rfl, rfl, _, rfl, ite2 (fun z3 => ?_) (fun z3 => same)⟩
      have b1 : nv < 2 := of_decide_eq_true z1
      have b2 : -(10 ^ 29 : Int) < R := of_decide_eq_true z2
      have b3 : R < (10 ^ 29 : Int) := of_decide_eq_true z3
      obtain ⟨en, hen, hat⟩ : ∃ en : Int, Bnd9 en ∧ ([V.int lo, V.int hi0])[nv.toNat]? = some (.int en) := by
        rcases (show nv = 0 ∨ nv = 1 by omega) with e | e
        · rw [e]; exact ⟨lo, hlo, rfl⟩
        · rw [e]; exact ⟨hi0, hhi, rfl⟩
      refine ⟨_, rfl, _, rfl, by show 2 ≤ sizeLine; decide, fun b hb => ?_⟩
      have w1 : Same H4 (upd H4 b (.lst [.int lo, .int hi0])) := Same.new hb
      have gb : (upd H4 b (.lst [.int lo, .int hi0])) b = some (.lst [.int lo, .int hi0]) := upd_same
      generalize upd H4 b (.lst [.int lo, .int hi0]) = H5 at w1 gb
      refine ⟨_, rfl, b, _, _, _, rfl, rfl, SqL.of gb, at_of (z := nv) (j := nv.toNat) (by omega) hat, ?_⟩
      refine ⟨_, rfl, kl, _, _, _, rfl, rfl, SqL.of (w1 _ _ hk4), at_of (z := 0) (j := 0) (by omega) rfl, ?_⟩
      refine ⟨_, rfl, _, rfl, _, _, rfl, rfl, _, rfl, p, c, 3, rfl, S4.same w1, by decide, by decide, fun d H6 d0 d1 S6 k6 => ⟨_, _, rfl, rfl, _, _, rfl, rfl, ?_⟩⟩
      have hr6 := k6 _ _ (w1 _ _ hr4) nrp
      have hP6 : PrL H6 xr (kr.zip nr) := hP4.mono fun t _ _ e => k6 _ _ (w1 _ _ e) ((S4.same w1).tup_p (w1 _ _ e))
      refine ⟨by show 2 ≤ sizeLine; decide, fun T hT => ?_⟩
      have w2 : Same H6 (upd H6 T (.tup [.str k1, .int (en - R + d - 1)])) := Same.new hT
      have gT : (upd H6 T (.tup [.str k1, .int (en - R + d - 1)])) T = some (.tup [.str k1, .int (en - R + d - 1)]) := upd_same
      generalize upd H6 T (.tup [.str k1, .int (en - R + d - 1)]) = H7 at w2 gT
      refine ⟨_, rfl, r, _, 0, 0, rfl, rfl, w2 _ _ hr6, by unfold ixN; simp, ?_⟩
      have kq : ∀ b o, H7 b = some o → b ≠ r → (upd H7 r (.lst (.ref T :: xr))) b = some o := fun b o e n => by rw [upd_ne n]; exact e
      have g8 : (upd H7 r (.lst (.ref T :: xr))) r = some (.lst (.ref T :: xr)) := upd_same
      have eU : upd H7 r (.lst ((V.ref t1 :: xr).set 0 (.ref T))) = upd H7 r (.lst (.ref T :: xr)) := rfl
      rw [eU]
      generalize upd H7 r (.lst (.ref T :: xr)) = H8 at kq g8
      have tr : ∀ {t : Addr} {ys : List V}, H7 t = some (.tup ys) → t ≠ r := fun e => ne_of e (w2 _ _ hr6) (by intro z; cases z)
      have sm : Small (en - R + d - 1) := by
        have h1 := hen.1
        have h2 := hen.2
        unfold Small
        have e29 : (10 : Int) ^ 29 = 100000000000000000000000000000 := by decide
        have e30 : (10 : Int) ^ 30 = 1000000000000000000000000000000 := by decide
        rw [e29] at b2 b3
        rw [e30]
        omega
      exact ⟨T, _, _, rfl, g8, kq _ _ gT (tr gT), sm, hP6.mono fun t _ _ e => kq _ _ (w2 _ _ e) (tr (w2 _ _ e)), (S6.same w2).keep fun b o hb e => kq b o e (by rcases hb with rfl | rfl; exact nrp.symm; exact nrc.symm), fun b o e n => kq _ _ (w2 _ _ (k6 _ _ (w1 _ _ (k4 b o e n)) n)) (ne_of_none e hr0)⟩
    rintro σ' H5 ⟨t1, n1, x11, rfl, hr5, ht5, hn1, hP5, S5, k5⟩
    refine ⟨_, rfl, .inl ⟨rfl, _, SqL.of hr5⟩, _, rfl, _, rfl, p, c, rfl, S5, fun n H6 hn S6 k6 => ⟨by show 2 ≤ sizeLine; decide, fun T hT => ?_⟩⟩
    have hr6 := k6 _ _ hr5 nrp
    have ht6 := k6 _ _ ht5 (S5.tup_p ht5)
    have hP6 : PrL H6 xr (kr.zip nr) := hP5.mono fun t _ _ e => k6 _ _ e (S5.tup_p e)
    have w2 : Same H6 (upd H6 T (.tup [.str oz, .int n])) := Same.new hT
    have gT : (upd H6 T (.tup [.str oz, .int n])) T = some (.tup [.str oz, .int n]) := upd_same
    generalize upd H6 T (.tup [.str oz, .int n]) = H7 at w2 gT
    refine ⟨r, _, _, rfl, rfl, w2 _ _ hr6, Nat.lt_of_le_of_lt (show (V.ref t1 :: xr).length ≤ 3 by rw [List.length_cons]; omega) (by decide), ?_⟩
    have kq : ∀ b o, H7 b = some o → b ≠ r → (upd H7 r (.lst ((.ref t1 :: xr) ++ [.ref T]))) b = some o := fun b o e n => by rw [upd_ne n]; exact e
    have g8 : (upd H7 r (.lst ((.ref t1 :: xr) ++ [.ref T]))) r = some (.lst ((.ref t1 :: xr) ++ [.ref T])) := upd_same
    generalize upd H7 r (.lst ((.ref t1 :: xr) ++ [.ref T])) = H8 at kq g8
    have tr : ∀ {t : Addr} {ys : List V}, H7 t = some (.tup ys) → t ≠ r := fun e => ne_of e (w2 _ _ hr6) (by intro z; cases z)
    refine ⟨_, rfl, k r H8 _ (n1 :: nr) n hr0 g8 (by rw [List.length_cons, List.length_cons, hnr]) ?_ (fun x hx => ?_) hn ((S6.same w2).keep fun b o hb e => kq b o e (by rcases hb with rfl | rfl; exact nrp.symm; exact nrc.symm)) fun b o e n => kq _ _ (w2 _ _ (k6 _ _ (k5 b o e n) n)) (ne_of_none e hr0)⟩
    · refine PrL.snoc (.cons ⟨t1, rfl, kq _ _ (w2 _ _ ht6) (tr (w2 _ _ ht6))⟩ (hP6.mono fun t _ _ e => kq _ _ (w2 _ _ e) (tr (w2 _ _ e)))) (kq _ _ gT (tr gT))
    · rcases List.mem_cons.mp hx with q | q
      · rw [q]; exact hn1
      · exact hsm x (List.mem_cons_of_mem _ q)
end
end Cs

set_option Elab.async false
set_option linter.all false
set_option maxRecDepth 100000
set_option maxHeartbeats 16000000
set_option pp.maxSteps 600
/-! The law of what rules hold for. -/
namespace Cs
open PySem L2
theorem sumOf_app (l m : List (Str × Int)) (z : Str) : sumOf (l ++ m) z = sumOf l z + sumOf m z := by
  unfold sumOf
  rw [List.filter_append, List.map_append, List.sum_append]
theorem sumOf_cons (q : Str × Int) (l : List (Str × Int)) (z : Str) : sumOf (q :: l) z = (if q.1 = z then q.2 else 0) + sumOf l z := by
  unfold sumOf
  by_cases h : q.1 = z
  · rw [if_pos h, List.filter_cons_of_pos (by simpa using h)]
    rfl
  · rw [if_neg h, List.filter_cons_of_neg (by simpa using h)]
    omega
theorem sumOf_out : ∀ {l : List (Str × Int)} {z : Str}, z ∉ l.map (·.1) → sumOf l z = 0
  | [], _, _ => rfl
  | q :: l, z, h => by
    rw [List.map_cons, List.mem_cons, not_or] at h
    rw [sumOf_cons, if_neg (fun e => h.1 e.symm), sumOf_out h.2]
    rfl
theorem zip_keys : ∀ {ks : List Str} {ns : List Int}, ns.length = ks.length → (ks.zip ns).map (·.1) = ks
  | [], [], _ => rfl
  | k :: ks, n :: ns, h => by
    rw [List.zip_cons_cons, List.map_cons, zip_keys (by simpa using h)]
theorem zip_vals : ∀ {ks : List Str} {ns : List Int}, ns.length = ks.length → (ks.zip ns).map (·.2) = ns
  | [], [], _ => rfl
  | k :: ks, n :: ns, h => by
    rw [List.zip_cons_cons, List.map_cons, zip_vals (by simpa using h)]
theorem zip_sum : ∀ {ks : List Str} {ns : List Int}, ks.Nodup → ns.length = ks.length → ks.map (sumOf (ks.zip ns)) = ns
  | [], [], _, _ => rfl
  | k :: ks, n :: ns, hd, h => by
    obtain ⟨h1, h2⟩ := List.nodup_cons.mp hd
    have hl : ns.length = ks.length := by simpa using h
    rw [List.zip_cons_cons, List.map_cons, sumOf_cons, if_pos rfl, sumOf_out (by rw [zip_keys hl]; exact h1), Int.add_zero]
    congr 1
    refine Eq.trans (List.map_congr_left fun z hz => ?_) (zip_sum h2 hl)
    rw [sumOf_cons, if_neg (fun e => h1 (by rw [show k = z from e]; exact hz))]
    omega
theorem tot_pairs {ks : List Str} {ns : List Int} {oz : Str} {n : Int} {u : Tab} (hd : ks.Nodup) (hl : ns.length = ks.length) (ho : oz ∉ ks) (hu : ∀ z, val u z = sumOf (ks.zip ns ++ [(oz, n)]) z) : tot u ks = ns.sum := by
  unfold tot
  have e : ks.map (val u) = ks.map (sumOf (ks.zip ns)) := List.map_congr_left fun z hz => by
    rw [hu z, sumOf_app, sumOf_cons, if_neg (fun e => ho (by rw [show oz = z from e]; exact hz))]
    show _ + (0 + 0) = _
    omega
  rw [e, zip_sum hd hl]
theorem tot_zero {ks : List Str} {u : Tab} (hu : ∀ z, val u z = 0) : tot u ks = 0 := by
  unfold tot
  induction ks with
  | nil => rfl
  | cons k ks ih =>
    rw [List.map_cons, List.sum_cons, hu, ih]
    rfl
theorem prl_last {H : Hp} : ∀ {l : List (Str × Int)} {q : Str × Int} {xs : List V}, PrL H xs (l ++ [q]) → ∃ ys x, xs = ys ++ [x] ∧ PrL H ys l
  | [], q, _, .cons h .nil => ⟨[], _, rfl, .nil⟩
  | a :: l, q, _, .cons h r => by
    obtain ⟨ys, x, e, hp⟩ := prl_last (l := l) r
    exact ⟨_ :: ys, x, by rw [e]; rfl, .cons h hp⟩
theorem rowFit {lo hi : Int} (h' : Bnd9 hi) (hle : lo ≤ hi) (j : Nat) : Fit (rowC j) (rowL lo j) (rowM lo hi j) := by
  match j with
  | 0 => rfl
  | 1 => exact ⟨hi, rfl, h'.1⟩
  | 2 => exact ⟨hi, rfl, hle⟩
  | _ + 3 => exact ⟨lo, rfl, Int.le_refl _⟩
theorem refH_at {ps : List Addr} {i : Nat} (h : i < ps.length) : (ps.map V.ref)[i]? = some (.ref ps[i]) := by
  rw [List.getElem?_map, List.getElem?_eq_getElem h]
  rfl
section
variable {P : Program} {w : World} {K : PySem.W.Frag} {mg : Str → Option Value} {base : Heap}
theorem ok_law {C f fI fS fD fK fKs fFo fEn fCo fJu fEe qO fO : Addr} {fd fdS fdD fdK fdKs fdFo fdEn fdCo fdJu fdEe : FuncData} {mc : Value} {a : RAd} (F : Fun K "law" "law" s_law f fd) (g : Bi mg) (T : CT P w K mg base C fI)
    (FS : Def P w K mg base CX0 1 "_law_source" ["_law_script"] (spSource K) fS fdS) (FD : Def P w K mg base CX0 2 "_law_draw" ["_law_source_here", "_law_size"] spDraw fD fdD) (FK : Def P w K mg base CX0 3 "_law_kind" ["_law_source_here", "_law_taken"] spKind fK fdK) (FKs : Def P w K mg base CX0 4 "_law_kinds" ["_law_source_here", "_law_many"] spKinds fKs fdKs)
    (FFo : Def P w K mg base CX0 9 "_law_four" ["_law_low", "_law_high", "_law_kinds_here"] (spFour a) fFo fdFo) (FEn : Def P w K mg base CX0 1 "_law_ends" ["_law_low", "_law_high"] spEnds fEn fdEn)
    (FCo : Def P w K mg base CX0 4 "_law_counts" ["_law_source_here", "_law_kinds_here", "_law_other", "_law_low", "_law_high"] spCounts fCo fdCo) (FJu : Def P w K mg base CX0 10 "_law_judged" ["_law_rule", "_law_ends_here", "_law_counts_here", "_law_total"] (spJudged a C) fJu fdJu)
    (MOf : KDef P w K mg base CX0 4 C mc "of" (spOf K C) qO fO) (Ee : EDef P w K mg base CX0 1 C ["self", "other"] (spEq C) fEe fdEe) :
    FnOk P w K mg base CX0 11 f fd ["_law_script"] (spLawR K) := by
  obtain ⟨GS, mS, _, bS⟩ := id FS
  obtain ⟨GD, mD, _, bD⟩ := id FD
  obtain ⟨GK, mK, _, bK⟩ := id FK
  obtain ⟨GKs, mKs, _, bKs⟩ := id FKs
  obtain ⟨GFo, mFo, _, bFo⟩ := id FFo
  obtain ⟨GEn, mEn, _, bEn⟩ := id FEn
  obtain ⟨GCo, mCo, _, bCo⟩ := id FCo
  obtain ⟨GJu, mJu, _, bJu⟩ := id FJu
  refine F.ok sc_law (fun vs H Q E h => ?_) (fun cdv A outer s H vs Q E hr h => ?_)
  · obtain ⟨_, _, rfl, _⟩ := h
    rfl
  · obtain ⟨sc, ns, rfl, hS, hlen, k⟩ := h
    have hrS : Room 1 _ := hr.mono (by decide)
    have hrEn : Room 1 _ := hr.mono (by decide)
    have hrD : Room 2 _ := hr.mono (by decide)
    have hrEe : Room 2 _ := hr.mono (by decide)
    have hrI : Room 2 _ := hr.mono (by decide)
    have hrK : Room 3 _ := hr.mono (by decide)
    have hrKs : Room 4 _ := hr.mono (by decide)
    have hrCo : Room 4 _ := hr.mono (by decide)
    have hrOf : Room 4 _ := hr.mono (by decide)
    have hrFo : Room 9 _ := hr.mono (by decide)
    have hrJu : Room 10 _ := hr
    refine ⟨_, (pss_cons (ps_set (i := 1) sc_law.nd rfl (Or.inl rfl) (pe_call GS hrS rfl mS FS.kp bS .nil pass0 (pa_cons (pv 0) pa_nil)))
      (pss_cons (ps_set (i := 2) sc_law.nd rfl (Or.inl rfl) (pe_call GKs hrKs rfl mKs FKs.kp bKs .nil pass0 (pa_cons (pv 1) (pa_cons (pe_op op_add pe_int (pe_call GD hrD rfl mD FD.kp bD .nil pass0 (pa_cons (pv 1) (pa_cons pe_int pa_nil)))) pa_nil))))
      (pss_cons (ps_set (i := 3) sc_law.nd rfl (Or.inl rfl) (pe_call GK hrK rfl mK FK.kp bK .nil pass0 (pa_cons (pv 1) (pa_cons (pv 2) pa_nil))))
      (pss_cons (ps_set (i := 4) sc_law.nd rfl (Or.inl rfl) (pe_call GD hrD rfl mD FD.kp bD .nil pass0 (pa_cons (pv 1) (pa_cons pe_int pa_nil))))
      (pss_cons (ps_set (i := 5) sc_law.nd rfl (Or.inl rfl) (pe_op op_add (pv 4) (pe_call GD hrD rfl mD FD.kp bD .nil pass0 (pa_cons (pv 1) (pa_cons (pe_op op_sub pe_int (pv 4)) pa_nil)))))
      (pss_cons (ps_set (i := 6) sc_law.nd rfl (Or.inl rfl) (pe_call GFo hrFo rfl mFo FFo.kp bFo .nil pass0 (pa_cons (pv 4) (pa_cons (pv 5) (pa_cons (pv 2) pa_nil)))))
      (pss_cons (ps_set (i := 7) sc_law.nd rfl (Or.inl rfl) (pe_call GEn hrEn rfl mEn FEn.kp bEn .nil pass0 (pa_cons (pv 4) (pa_cons (pv 5) pa_nil))))
      (pss_cons (ps_for PassesOwn.never rfl (pi_range1 rfl g.range (pa_cons pe_int pa_nil)) (pg_name (i := 8) sc_law.nd rfl (Or.inl rfl)) (pss_cons (ps_set (i := 9) sc_law.nd rfl (Or.inl rfl) (pe_call GCo hrCo rfl mCo FCo.kp bCo .nil pass0 (pa_cons (pv 1) (pa_cons (pv 2) (pa_cons (pv 3) (pa_cons (pv 4) (pa_cons (pv 5) pa_nil)))))))
      (pss_cons (ps_set (i := 10) sc_law.nd rfl (Or.inl rfl) (ClX.pe_cmeth (pe_glob (v := .ref C) rfl T.mgC rfl) MOf.r MOf.c MOf.ok hrOf pass0 (pa_cons (pv 9) pa_nil)))
      (pss_cons (ps_set (i := 11) sc_law.nd rfl (Or.inl rfl) (pe_callB (cr_sum rfl) (by rfl) g.sum (by decide +kernel) (pa_cons (pe_lc (own := [("_law_pair", 14)]) (g := gName 14) (te := (tOp (rIxT K) _ _))  (by rfl) sc_law.nd (pi_list (pe_slice sl_list (pv 9) po_none (po_some (pe_un un_neg pe_int)))) (blkOk_by (own := [("_law_pair", 14)]) (N := ["_law_script", "_law_source_here", "_law_kinds_here", "_law_other", "_law_low", "_law_high", "_law_rules", "_law_ends_here", "_law_k", "_law_pairs", "_law_counts_here", "_law_total", "_law_at", "_law_empty", "_law_pair"]) (sc := defScope s_law) (by decide +kernel)) (fun _ _ _ _ _ => (pg_name (i := 14) sc_law.nd rfl (Or.inl rfl))) (fun _ _ _ _ _ => pts_nil) (fun _ _ _ _ _ => (pe_ix ix_tup (pv 14) pe_int (fun _ _ => rfl)))) pa_nil)))
      (pss_cons (ps_for PassesOwn.never rfl (pi_range1 rfl g.range (pa_cons pe_int pa_nil)) (pg_name (i := 12) sc_law.nd rfl (Or.inl rfl)) (pss_one (ps_if (pt_not (pt_val (pe_call GJu hrJu rfl mJu FJu.kp bJu .nil pass0 (pa_cons (pe_ix ix_list (pv 6) (pv 12) (fun _ _ => rfl)) (pa_cons (pe_ix ix_list (pv 7) (pv 12) (fun _ _ => rfl)) (pa_cons (pv 10) (pa_cons (pv 11) pa_nil))))))) (pss_one (ps_ret pe_bl)) pss_nil)))
      (pss_one (ps_if (pt_cmpR (op_neO Ee.c Ee.ok hrEe Ee.b pass0) (pv 10) (ClX.pe_cmeth (pe_glob (v := .ref C) rfl T.mgC rfl) MOf.r MOf.c MOf.ok hrOf pass0 (pa_cons (pv 9) pa_nil)) (nomark _)) (pss_one (ps_ret pe_bl)) pss_nil)))))))
      (pss_cons (ps_set (i := 13) sc_law.nd rfl (Or.inl rfl) (pe_mkR0 T.mke T.ini hrI rfl T.mgC pass0))
      (pss_one (ps_ret (pe_and (pe_call GJu hrJu rfl mJu FJu.kp bJu .nil pass0 (pa_cons (pe_ix ix_list (pv 6) pe_int (fun _ _ => rfl)) (pa_cons (pe_ix ix_list (pv 7) pe_int (fun _ _ => rfl)) (pa_cons (pv 13) (pa_cons pe_int pa_nil))))) (pe_one (pe_call GJu hrJu rfl mJu FJu.kp bJu .nil pass0 (pa_cons (pe_ix ix_list (pv 6) pe_int (fun _ _ => rfl)) (pa_cons (pe_ix ix_list (pv 7) pe_int (fun _ _ => rfl)) (pa_cons (pv 13) (pa_cons pe_int pa_nil)))))))))))))))))), ?_⟩
    refine ⟨_, rfl, sc, ns, rfl, hS, fun p c H1 hp hc s1 S1 => ?_⟩
    refine ⟨_, rfl, _, rfl, p, c, 3, rfl, S1, by decide, by decide, fun v1 H2 v10 v11 S2 k2 => ⟨_, _, rfl, rfl, ?_⟩⟩
    obtain ⟨m1, rfl⟩ : ∃ n : Nat, v1 = n := ⟨v1.toNat, by omega⟩
    refine ⟨p, c, 1 + m1, by show [V.ref p, V.int (1 + (m1 : Int))] = [V.ref p, V.int ((1 + m1 : Nat) : Int)]; rw [Int.natCast_add]; rfl, S2, by omega, fun kl H3 ks hkl hk3 hkn hknd hkk S3 k3 => ?_⟩
    have hK : Kinds ks := ⟨by omega, by omega, hknd, hkk⟩
    have nkp : kl ≠ p := S2.new_p hkl
    have hk9 := hK.hi
    refine ⟨_, rfl, _, rfl, p, c, kl, ks, rfl, S3, hk3, by omega, nkp, fun oz H4 hoz hon S4 k4 => ?_⟩
    refine ⟨_, rfl, p, c, 10, rfl, S4, by decide, by decide, fun lo H5 lo0 lo1 S5 k5 => ?_⟩
    refine ⟨_, rfl, _, rfl, _, rfl, _, _, rfl, rfl, p, c, 10 - lo, rfl, S5, by omega, by omega, fun v2 H6 v20 v21 S6 k6 => ⟨_, _, rfl, rfl, ?_⟩⟩
    have hlo : Bnd9 lo := ⟨lo0, by omega⟩
    have hhi : Bnd9 (lo + v2) := ⟨by omega, by omega⟩
    have hle : lo ≤ lo + v2 := by omega
    have hk6 : H6 kl = some (.lst (ks.map V.str)) := k6 _ _ (k5 _ _ (k4 _ _ hk3 nkp) nkp) nkp
    refine ⟨_, rfl, _, rfl, _, rfl, lo, lo + v2, kl, ks, rfl, hlo, hhi, hle, hk6, hK, fun rq H7 hrq s7 hF => ?_⟩
    refine ⟨_, rfl, _, rfl, lo, lo + v2, rfl, fun eq H9 heq s9 hE => ?_⟩
    have nrp : rq ≠ p := S6.new_p hrq
    have nep : eq ≠ p := (S6.same s7).new_p heq
    have S9 := (S6.same s7).same s9
    have hk := (s7.trans s9) _ _ hk6
    obtain ⟨rs, r1, r2, r3⟩ := hF.same s9
    obtain ⟨ts, t1, t2, t3⟩ := hE
    clear hk6 hk3 hkl hrq heq s7 s9 S1 S2 S3 S4 S5 S6 k2 k3 k4 k5 k6 s1 hp hc hS hF
    refine ⟨5, rfl, by decide, by decide, ?_⟩
    refine for_range (lo := 0) (n := 5) (fun i σ' H' => ∃ x8 x9 x10 x11 x12 : Option V, σ' = [some (.ref sc), some (.ref p), some (.ref kl), some (.str oz), some (.int lo), some (.int (lo + v2)), some (.ref rq), some (.ref eq), x8, x9, x10, x11, x12, none, none] ∧ Src H' p c ∧ Kp p H9 H')
      ⟨_, _, _, _, _, rfl, S9, Kp.of (Same.refl _)⟩ ?_ ?_
    · rintro i0 σ' H' hi5 ⟨x8, x9, x10, x11, x12, rfl, S', k'⟩
      refine ⟨_, rfl, _, rfl, _, rfl, _, rfl, _, rfl, p, c, kl, ks, oz, lo, lo + v2, rfl, S', k' _ _ hk nkp, nkp, hK, hoz.1, hlo, hhi, fun pl H10 xs nm n hpl gp hnl hP hsm hn S10 k10 => ?_⟩
      have good : GoodPs (ks.zip nm ++ [(oz, n)]) := by
        intro q hq
        rcases List.mem_append.mp hq with z | z
        · have h1 := List.of_mem_zip (show (q.1, q.2) ∈ ks.zip nm from z)
          exact ⟨(hK.kd _ h1.1).1, hsm _ h1.2⟩
        · rw [List.mem_singleton.mp z]
          exact ⟨hoz.1, hn⟩
      have hlen2 : (ks.zip nm ++ [(oz, n)]).length ≤ 4 := by
        rw [List.length_append, List.length_zip]
        simp only [List.length_singleton]
        omega
      refine ⟨rfl, _, rfl, pl, xs, _, rfl, gp, hP, good, by omega, fun cr ce H11 u hcr hce s11 hcu huv hul => ?_⟩
      obtain ⟨ys, xl, rfl, hPy⟩ := prl_last hP
      have gp11 := s11 _ _ gp
      have k90 := k'.trans k10
      have hPy11 : PrL H11 ys (ks.zip nm) := hPy.mono fun _ _ _ e => s11 _ _ e
      refine ⟨_, rfl, _, rfl, _, rfl, pl, _, rfl, SqL.of gp11, fun sl hsl => ?_⟩
      rw [cut_last]
      have w1 : Same H11 (upd H11 sl (.lst ys)) := Same.new hsl
      have gs : (upd H11 sl (.lst ys)) sl = some (.lst ys) := upd_same
      generalize upd H11 sl (.lst ys) = H12 at w1 gs
      have hPy12 : PrL H12 ys (ks.zip nm) := hPy11.mono fun _ _ _ e => w1 _ _ e
      have hyl : ys.length ≤ 3 := by
        rw [hPy12.length, List.length_zip]
        omega
      refine ⟨sl, rfl, ⟨_, SqL.of gs⟩, fun D hD => lc_vals (ys := (ks.zip nm).map fun q => V.int q.2) (by rw [List.length_map, hPy12.length]) gs hD (by omega) (fun _ => rfl) (fun j x y hx hy H' s' Qe qk => ?_) fun H13 s13 gD => ?_⟩
      · obtain ⟨t9, q9, rfl, eq9, ht9⟩ := prl_get hPy12 hx
        rw [List.getElem?_map, eq9] at hy
        obtain rfl := Option.some.inj hy
        exact ⟨_, rfl, t9, _, 1, _, rfl, rfl, SqT.of (s' _ _ ht9), rfl, qk _ (Same.refl _)⟩
      refine ⟨D, (ks.zip nm).map (·.2), rfl, SqL.of (by rw [gD, List.map_map]; rfl), ?_⟩
      have eT : ((ks.zip nm).map (·.2)).sum = tot u ks := by rw [zip_vals hnl, tot_pairs hK.nd hnl hon huv]
      rw [eT]
      have sA := s11.trans (w1.trans s13)
      have hcu13 := hcu.same (w1.trans s13)
      refine ⟨4, rfl, by decide, by decide, ?_⟩
      refine for_range (lo := 0) (n := 4) (fun j σ' H' => ∃ x12 : Option V, σ' = [some (.ref sc), some (.ref p), some (.ref kl), some (.str oz), some (.int lo), some (.int (lo + v2)), some (.ref rq), some (.ref eq), some (.int (0 + (i0 : Int))), some (.ref pl), some (.ref cr), some (.int (tot u ks)), x12, none, none] ∧ Same H13 H')
        ⟨_, rfl, Same.refl _⟩ ?_ ?_
      · rintro j σ' H' hj4 ⟨y12, rfl, s'⟩
        have hjr : j < rs.length := by omega
        have hjt : j < ts.length := by omega
        have sB := sA.trans s'
        have rr := ((r3 j _ (List.getElem?_eq_getElem hjr)).kp S9 k90).same sB
        have tt := t3 j _ (List.getElem?_eq_getElem hjt)
        refine ⟨_, rfl, _, rfl, rq, _, _, _, rfl, rfl, SqL.of (sB _ _ (k90 _ _ r1 nrp)), at_of (j := j) (by omega) (refH_at hjr), ?_⟩
        refine ⟨_, rfl, _, rfl, eq, _, _, _, rfl, rfl, SqL.of (sB _ _ (k90 _ _ t1 nep)), at_of (j := j) (by omega) (refH_at hjt), ?_⟩
        refine ⟨_, rfl, _, rfl, rs[j], ts[j], cr, rowC j, rowL lo j, rowM lo (lo + v2) j, ks, u, rfl, ⟨rr, ⟨ce, hcu13.same s'⟩, hK⟩, rowFit hhi hle j, sB _ _ (k90 _ _ tt (S9.tup_p tt)), fun H14 s14 => ⟨_, rfl, iteF ?_⟩⟩
        exact ⟨_, rfl, s'.trans s14⟩
      rintro σ' H' ⟨y12, rfl, s'⟩
      have sB := sA.trans s'
      have hP' : PrL H' (ys ++ [xl]) (ks.zip nm ++ [(oz, n)]) := hP.mono fun _ _ _ e => sB _ _ e
      refine ⟨_, rfl, rfl, _, rfl, pl, _, _, rfl, sB _ _ gp, hP', good, by omega, fun cr2 ce2 H15 u2 _ _ s15 hcu2 huv2 hul2 => ?_⟩
      refine cv_ne (d := ce) (e := ce2) ⟨u, (hcu13.same s').same s15, hul, huv⟩ ⟨u2, hcu2, hul2, huv2⟩ (fun z => rfl) ?_
      refine ⟨_, rfl, iteF ?_⟩
      exact ⟨_, _, _, _, _, rfl, S10.same (sB.trans s15), k90.trans (Kp.of (sB.trans s15))⟩
    · rintro σ' H' ⟨x8, x9, x10, x11, x12, rfl, S', k'⟩
      refine fun x4 dx4 hx4 hdx4 ne4 => cv_empty x4 dx4 hx4 hdx4 fun e4 H19 he4 s19 ⟨t4, c4, l4, v4⟩ => ⟨rfl, ?_⟩
      have tz := tot_zero (ks := ks) v4
      have h0r : 0 < rs.length := by omega
      have h0t : 0 < ts.length := by omega
      have h1r : 1 < rs.length := by omega
      have h1t : 1 < ts.length := by omega
      have rq0 := s19 _ _ (k' _ _ r1 nrp)
      have eq0 := s19 _ _ (k' _ _ t1 nep)
      refine ⟨_, rfl, rq, _, _, _, rfl, rfl, SqL.of rq0, at_of (z := 0) (j := 0) (by omega) (refH_at h0r), _, rfl, eq, _, _, _, rfl, rfl, SqL.of eq0, at_of (z := 0) (j := 0) (by omega) (refH_at h0t), _, rfl, ?_⟩
      have rr0 := ((r3 0 _ (List.getElem?_eq_getElem h0r)).kp S9 k').same s19
      have tt0 := t3 0 _ (List.getElem?_eq_getElem h0t)
      refine ⟨rs[0], ts[0], x4, rowC 0, rowL lo 0, rowM lo (lo + v2) 0, ks, t4, by rw [tz]; rfl, ⟨rr0, ⟨e4, c4⟩, hK⟩, rowFit hhi hle 0, s19 _ _ (k' _ _ tt0 (S9.tup_p tt0)), fun H20 s20 => ?_⟩
      refine ⟨_, rfl, iteT ?_⟩
      have sB := s19.trans s20
      have rr1 := ((r3 1 _ (List.getElem?_eq_getElem h1r)).kp S9 k').same sB
      have tt1 := t3 1 _ (List.getElem?_eq_getElem h1t)
      refine ⟨_, rfl, rq, _, _, _, rfl, rfl, SqL.of (s20 _ _ rq0), at_of (z := 1) (j := 1) (by omega) (refH_at h1r), _, rfl, eq, _, _, _, rfl, rfl, SqL.of (s20 _ _ eq0), at_of (z := 1) (j := 1) (by omega) (refH_at h1t), _, rfl, ?_⟩
      exact ⟨rs[1], ts[1], x4, rowC 1, rowL lo 1, rowM lo (lo + v2) 1, ks, t4, by rw [tz]; rfl, ⟨rr1, ⟨e4, c4.same s20⟩, hK⟩, rowFit hhi hle 1, sB _ _ (k' _ _ tt1 (S9.tup_p tt1)), fun H21 s21 => k _⟩
end
end Cs

set_option Elab.async false
set_option linter.all false
set_option maxRecDepth 100000
/-! What is handed on to super() keeps its promise. -/
namespace Cs
open PySem L2
variable {P : Program} {w : World} {K : PySem.W.Frag} {mg : Str → Option Value} {base : Heap} {k : Nat} {f C : Addr} {a : RAd} {c : RCl} {PM : Option Int → Prop}
theorem pass_H {G : Int → Option Int → Int → Bool} (F : FnR P w K mg base CX0 k f (spPass (a.at c) (spH a c C PM G))) : FnR P w K mg base CX0 k f (spH a c C PM G) := by
  refine F.imp fun vs H Q E h => ?_
  obtain ⟨p, q, l, m, ks, t, rfl, hR, hm, kk⟩ := h
  obtain ⟨⟨dx, kt, fs, hp, _⟩, _⟩ := id hR
  exact ⟨p, .ref q, dx, fs, rfl, hp, p, q, l, m, ks, t, rfl, hR, hm, kk⟩
theorem pass_L {G : Int → Option Int → Int → Tab} (F : FnR P w K mg base CX0 k f (spPass (a.at c) (spL a c C PM G))) : FnR P w K mg base CX0 k f (spL a c C PM G) := by
  refine F.imp fun vs H Q E h => ?_
  obtain ⟨p, q, l, m, ks, t, rfl, hR, hm, kk⟩ := h
  obtain ⟨⟨dx, kt, fs, hp, _⟩, _⟩ := id hR
  exact ⟨p, .ref q, dx, fs, rfl, hp, p, q, l, m, ks, t, rfl, hR, hm, kk⟩
end Cs

set_option Elab.async false
set_option linter.all false
set_option maxRecDepth 100000
set_option maxHeartbeats 8000000
namespace Cs
open PySem L2
theorem all_mk {l : PySem.W.OpenLaw} {w : World} {K : PySem.W.Frag} {h : Heap} {mg : Str → Option Value} {fa : Addr} (X : K.In h) (G : h.Ns mainGlobals mg) (hfa : mg "law" = some (.ref fa))
    {f_isint : Addr} {oc_isint kV_isint dc_isint pm_isint cd_isint ct_isint : Value} {od_isint an_isint : Option Addr} {sl_isint : Array (Option Value)}
    {f_isword : Addr} {oc_isword kV_isword dc_isword pm_isword cd_isword ct_isword : Value} {od_isword an_isword : Option Addr} {sl_isword : Array (Option Value)}
    {f_issmall : Addr} {oc_issmall kV_issmall dc_issmall pm_issmall cd_issmall ct_issmall : Value} {od_issmall an_issmall : Option Addr} {sl_issmall : Array (Option Value)}
    {f_ispair : Addr} {oc_ispair kV_ispair dc_ispair pm_ispair cd_ispair ct_ispair : Value} {od_ispair an_ispair : Option Addr} {sl_ispair : Array (Option Value)}
    {f_source : Addr} {oc_source kV_source dc_source pm_source cd_source ct_source : Value} {od_source an_source : Option Addr} {sl_source : Array (Option Value)}
    {f_mixed : Addr} {oc_mixed kV_mixed dc_mixed pm_mixed cd_mixed ct_mixed : Value} {od_mixed an_mixed : Option Addr} {sl_mixed : Array (Option Value)}
    {f_draw : Addr} {oc_draw kV_draw dc_draw pm_draw cd_draw ct_draw : Value} {od_draw an_draw : Option Addr} {sl_draw : Array (Option Value)}
    {f_number : Addr} {oc_number kV_number dc_number pm_number cd_number ct_number : Value} {od_number an_number : Option Addr} {sl_number : Array (Option Value)}
    {f_distinct : Addr} {oc_distinct kV_distinct dc_distinct pm_distinct cd_distinct ct_distinct : Value} {od_distinct an_distinct : Option Addr} {sl_distinct : Array (Option Value)}
    {f_iskind : Addr} {oc_iskind kV_iskind dc_iskind pm_iskind cd_iskind ct_iskind : Value} {od_iskind an_iskind : Option Addr} {sl_iskind : Array (Option Value)}
    {f_isbound : Addr} {oc_isbound kV_isbound dc_isbound pm_isbound cd_isbound ct_isbound : Value} {od_isbound an_isbound : Option Addr} {sl_isbound : Array (Option Value)}
    {f_kind : Addr} {oc_kind kV_kind dc_kind pm_kind cd_kind ct_kind : Value} {od_kind an_kind : Option Addr} {sl_kind : Array (Option Value)}
    {f_kinds : Addr} {oc_kinds kV_kinds dc_kinds pm_kinds cd_kinds ct_kinds : Value} {od_kinds an_kinds : Option Addr} {sl_kinds : Array (Option Value)}
    {f_four : Addr} {oc_four kV_four dc_four pm_four cd_four ct_four : Value} {od_four an_four : Option Addr} {sl_four : Array (Option Value)}
    {f_ends : Addr} {oc_ends kV_ends dc_ends pm_ends cd_ends ct_ends : Value} {od_ends an_ends : Option Addr} {sl_ends : Array (Option Value)}
    {f_lint : Addr} {oc_lint kV_lint dc_lint pm_lint cd_lint ct_lint : Value} {od_lint an_lint : Option Addr} {sl_lint : Array (Option Value)}
    {f_lk : Addr} {oc_lk kV_lk dc_lk pm_lk cd_lk ct_lk : Value} {od_lk an_lk : Option Addr} {sl_lk : Array (Option Value)}
    {f_judged : Addr} {oc_judged kV_judged dc_judged pm_judged cd_judged ct_judged : Value} {od_judged an_judged : Option Addr} {sl_judged : Array (Option Value)}
    {f_counts : Addr} {oc_counts kV_counts dc_counts pm_counts cd_counts ct_counts : Value} {od_counts an_counts : Option Addr} {sl_counts : Array (Option Value)}
    {f_law : Addr} {oc_law kV_law dc_law pm_law cd_law ct_law : Value} {od_law an_law : Option Addr} {sl_law : Array (Option Value)}
    {C : Addr}
    {f_init : Addr} {oc_init kV_init dc_init pm_init cd_init ct_init : Value} {od_init an_init : Option Addr} {sl_init : Array (Option Value)}
    {f_mget : Addr} {oc_mget kV_mget dc_mget pm_mget cd_mget ct_mget : Value} {od_mget an_mget : Option Addr} {sl_mget : Array (Option Value)}
    {f_meq : Addr} {oc_meq kV_meq dc_meq pm_meq cd_meq ct_meq : Value} {od_meq an_meq : Option Addr} {sl_meq : Array (Option Value)}
    {q_mof : Addr} {r_mof : List Value}
    {f_mof : Addr} {oc_mof kV_mof dc_mof pm_mof cd_mof ct_mof : Value} {od_mof an_mof : Option Addr} {sl_mof : Array (Option Value)}
    {tk_LET : Tok}
    
    {cl_R f_iR : Addr} {oc_iR kV_iR dc_iR pm_iR cd_iR ct_iR : Value} {od_iR an_iR : Option Addr} {sl_iR : Array (Option Value)}
    {cl_al f_ial cd_ial cc_ial : Addr} {oc_ial kV_ial dc_ial pm_ial ct_ial cl1_ial cl2_ial : Value} {od_ial an_ial dd1_ial dd2_ial : Option Addr} {sl_ial sl1_ial sl2_ial : Array (Option Value)} {vs_ial : Array Value} {file_ial : Str} {tk_ial : Tok}
    {cl_am f_iam cd_iam cc_iam : Addr} {oc_iam kV_iam dc_iam pm_iam ct_iam cl1_iam cl2_iam : Value} {od_iam an_iam dd1_iam dd2_iam : Option Addr} {sl_iam sl1_iam sl2_iam : Array (Option Value)} {vs_iam : Array Value} {file_iam : Str} {tk_iam : Tok}
    {cl_bt f_ibt cd_ibt cc_ibt : Addr} {oc_ibt kV_ibt dc_ibt pm_ibt ct_ibt cl1_ibt cl2_ibt : Value} {od_ibt an_ibt dd1_ibt dd2_ibt : Option Addr} {sl_ibt sl1_ibt sl2_ibt : Array (Option Value)} {vs_ibt : Array Value} {file_ibt : Str} {tk_ibt : Tok}
    {cl_ex f_iex cd_iex cc_iex : Addr} {oc_iex kV_iex dc_iex pm_iex ct_iex cl1_iex cl2_iex : Value} {od_iex an_iex dd1_iex dd2_iex : Option Addr} {sl_iex sl1_iex sl2_iex : Array (Option Value)} {vs_iex : Array Value} {file_iex : Str} {tk_iex : Tok}
    {rR : Addr} {dd_RES : Option Addr} {n_RES : Nat} {sl_RES : Array (Option Value)} {tr0 tr1 tr2 tr3 tr4 tr5 tr6 tr7 tr8 tr9 tr10 tr11 tr12 tr13 tr14 tr15 : Tok}
    {f_tof : Addr} {oc_tof kV_tof dc_tof pm_tof cd_tof ct_tof : Value} {od_tof an_tof : Option Addr} {sl_tof : Array (Option Value)}
    {f_hR : Addr} {oc_hR kV_hR dc_hR pm_hR cd_hR ct_hR : Value} {od_hR an_hR : Option Addr} {sl_hR : Array (Option Value)}
    {f_hal cd_hal cc_hal : Addr} {oc_hal kV_hal dc_hal pm_hal ct_hal cl1_hal cl2_hal : Value} {od_hal an_hal dd1_hal dd2_hal : Option Addr} {sl_hal sl1_hal sl2_hal : Array (Option Value)} {vs_hal : Array Value} {file_hal : Str} {tk_hal : Tok}
    {f_ham cd_ham cc_ham : Addr} {oc_ham kV_ham dc_ham pm_ham ct_ham cl1_ham cl2_ham : Value} {od_ham an_ham dd1_ham dd2_ham : Option Addr} {sl_ham sl1_ham sl2_ham : Array (Option Value)} {vs_ham : Array Value} {file_ham : Str} {tk_ham : Tok}
    {f_hbt cd_hbt cc_hbt : Addr} {oc_hbt kV_hbt dc_hbt pm_hbt ct_hbt cl1_hbt cl2_hbt : Value} {od_hbt an_hbt dd1_hbt dd2_hbt : Option Addr} {sl_hbt sl1_hbt sl2_hbt : Array (Option Value)} {vs_hbt : Array Value} {file_hbt : Str} {tk_hbt : Tok}
    {f_hex cd_hex cc_hex : Addr} {oc_hex kV_hex dc_hex pm_hex ct_hex cl1_hex cl2_hex : Value} {od_hex an_hex dd1_hex dd2_hex : Option Addr} {sl_hex sl1_hex sl2_hex : Array (Option Value)} {vs_hex : Array Value} {file_hex : Str} {tk_hex : Tok}
    {f_kR : Addr} {oc_kR kV_kR dc_kR pm_kR cd_kR ct_kR : Value} {od_kR an_kR : Option Addr} {sl_kR : Array (Option Value)}
    {f_kal cd_kal cc_kal : Addr} {oc_kal kV_kal dc_kal pm_kal ct_kal cl1_kal cl2_kal : Value} {od_kal an_kal dd1_kal dd2_kal : Option Addr} {sl_kal sl1_kal sl2_kal : Array (Option Value)} {vs_kal : Array Value} {file_kal : Str} {tk_kal : Tok}
    {f_kam cd_kam cc_kam : Addr} {oc_kam kV_kam dc_kam pm_kam ct_kam cl1_kam cl2_kam : Value} {od_kam an_kam dd1_kam dd2_kam : Option Addr} {sl_kam sl1_kam sl2_kam : Array (Option Value)} {vs_kam : Array Value} {file_kam : Str} {tk_kam : Tok}
    {f_kbt cd_kbt cc_kbt : Addr} {oc_kbt kV_kbt dc_kbt pm_kbt ct_kbt cl1_kbt cl2_kbt : Value} {od_kbt an_kbt dd1_kbt dd2_kbt : Option Addr} {sl_kbt sl1_kbt sl2_kbt : Array (Option Value)} {vs_kbt : Array Value} {file_kbt : Str} {tk_kbt : Tok}
    {f_kex cd_kex cc_kex : Addr} {oc_kex kV_kex dc_kex pm_kex ct_kex cl1_kex cl2_kex : Value} {od_kex an_kex dd1_kex dd2_kex : Option Addr} {sl_kex sl1_kex sl2_kex : Array (Option Value)} {vs_kex : Array Value} {file_kex : Str} {tk_kex : Tok}
    (a_isint : PySem.W.nsIn K mainGlobals "is_integer" = some (some (.ref f_isint)))
    (l_isint : K.lookup f_isint = some ⟨oc_isint, od_isint, .func (PySem.W.fnOf "is_integer" "is_integer" (defArgs s_is_integer) (defBody s_is_integer) (defScope s_is_integer) .none kV_isint dc_isint pm_isint an_isint cd_isint ct_isint), sl_isint⟩)
    (c_isint : PySem.W.codeIn K cd_isint "is_integer" = true)
    (k_isint : PySem.W.keepIn K (.ref f_isint) = true)
    (a_isword : PySem.W.nsIn K mainGlobals "is_word" = some (some (.ref f_isword)))
    (l_isword : K.lookup f_isword = some ⟨oc_isword, od_isword, .func (PySem.W.fnOf "is_word" "is_word" (defArgs s_is_word) (defBody s_is_word) (defScope s_is_word) .none kV_isword dc_isword pm_isword an_isword cd_isword ct_isword), sl_isword⟩)
    (c_isword : PySem.W.codeIn K cd_isword "is_word" = true)
    (k_isword : PySem.W.keepIn K (.ref f_isword) = true)
    (a_issmall : PySem.W.nsIn K mainGlobals "is_small" = some (some (.ref f_issmall)))
    (l_issmall : K.lookup f_issmall = some ⟨oc_issmall, od_issmall, .func (PySem.W.fnOf "is_small" "is_small" (defArgs s_is_small) (defBody s_is_small) (defScope s_is_small) .none kV_issmall dc_issmall pm_issmall an_issmall cd_issmall ct_issmall), sl_issmall⟩)
    (c_issmall : PySem.W.codeIn K cd_issmall "is_small" = true)
    (k_issmall : PySem.W.keepIn K (.ref f_issmall) = true)
    (a_ispair : PySem.W.nsIn K mainGlobals "is_pair" = some (some (.ref f_ispair)))
    (l_ispair : K.lookup f_ispair = some ⟨oc_ispair, od_ispair, .func (PySem.W.fnOf "is_pair" "is_pair" (defArgs s_is_pair) (defBody s_is_pair) (defScope s_is_pair) .none kV_ispair dc_ispair pm_ispair an_ispair cd_ispair ct_ispair), sl_ispair⟩)
    (c_ispair : PySem.W.codeIn K cd_ispair "is_pair" = true)
    (k_ispair : PySem.W.keepIn K (.ref f_ispair) = true)
    (a_source : PySem.W.nsIn K mainGlobals "_law_source" = some (some (.ref f_source)))
    (l_source : K.lookup f_source = some ⟨oc_source, od_source, .func (PySem.W.fnOf "_law_source" "_law_source" (defArgs s_l_source) (defBody s_l_source) (defScope s_l_source) .none kV_source dc_source pm_source an_source cd_source ct_source), sl_source⟩)
    (c_source : PySem.W.codeIn K cd_source "_law_source" = true)
    (k_source : PySem.W.keepIn K (.ref f_source) = true)
    (a_mixed : PySem.W.nsIn K mainGlobals "_law_mixed" = some (some (.ref f_mixed)))
    (l_mixed : K.lookup f_mixed = some ⟨oc_mixed, od_mixed, .func (PySem.W.fnOf "_law_mixed" "_law_mixed" (defArgs s_l_mixed) (defBody s_l_mixed) (defScope s_l_mixed) .none kV_mixed dc_mixed pm_mixed an_mixed cd_mixed ct_mixed), sl_mixed⟩)
    (c_mixed : PySem.W.codeIn K cd_mixed "_law_mixed" = true)
    (k_mixed : PySem.W.keepIn K (.ref f_mixed) = true)
    (a_draw : PySem.W.nsIn K mainGlobals "_law_draw" = some (some (.ref f_draw)))
    (l_draw : K.lookup f_draw = some ⟨oc_draw, od_draw, .func (PySem.W.fnOf "_law_draw" "_law_draw" (defArgs s_l_draw) (defBody s_l_draw) (defScope s_l_draw) .none kV_draw dc_draw pm_draw an_draw cd_draw ct_draw), sl_draw⟩)
    (c_draw : PySem.W.codeIn K cd_draw "_law_draw" = true)
    (k_draw : PySem.W.keepIn K (.ref f_draw) = true)
    (a_number : PySem.W.nsIn K mainGlobals "_law_number" = some (some (.ref f_number)))
    (l_number : K.lookup f_number = some ⟨oc_number, od_number, .func (PySem.W.fnOf "_law_number" "_law_number" (defArgs s_l_number) (defBody s_l_number) (defScope s_l_number) .none kV_number dc_number pm_number an_number cd_number ct_number), sl_number⟩)
    (c_number : PySem.W.codeIn K cd_number "_law_number" = true)
    (k_number : PySem.W.keepIn K (.ref f_number) = true)
    (a_distinct : PySem.W.nsIn K mainGlobals "distinct" = some (some (.ref f_distinct)))
    (l_distinct : K.lookup f_distinct = some ⟨oc_distinct, od_distinct, .func (PySem.W.fnOf "distinct" "distinct" (defArgs s_distinct) (defBody s_distinct) (defScope s_distinct) .none kV_distinct dc_distinct pm_distinct an_distinct cd_distinct ct_distinct), sl_distinct⟩)
    (c_distinct : PySem.W.codeIn K cd_distinct "distinct" = true)
    (k_distinct : PySem.W.keepIn K (.ref f_distinct) = true)
    (a_iskind : PySem.W.nsIn K mainGlobals "is_kind" = some (some (.ref f_iskind)))
    (l_iskind : K.lookup f_iskind = some ⟨oc_iskind, od_iskind, .func (PySem.W.fnOf "is_kind" "is_kind" (defArgs s_is_kind) (defBody s_is_kind) (defScope s_is_kind) .none kV_iskind dc_iskind pm_iskind an_iskind cd_iskind ct_iskind), sl_iskind⟩)
    (c_iskind : PySem.W.codeIn K cd_iskind "is_kind" = true)
    (k_iskind : PySem.W.keepIn K (.ref f_iskind) = true)
    (a_isbound : PySem.W.nsIn K mainGlobals "is_bound" = some (some (.ref f_isbound)))
    (l_isbound : K.lookup f_isbound = some ⟨oc_isbound, od_isbound, .func (PySem.W.fnOf "is_bound" "is_bound" (defArgs s_is_bound) (defBody s_is_bound) (defScope s_is_bound) .none kV_isbound dc_isbound pm_isbound an_isbound cd_isbound ct_isbound), sl_isbound⟩)
    (c_isbound : PySem.W.codeIn K cd_isbound "is_bound" = true)
    (k_isbound : PySem.W.keepIn K (.ref f_isbound) = true)
    (a_kind : PySem.W.nsIn K mainGlobals "_law_kind" = some (some (.ref f_kind)))
    (l_kind : K.lookup f_kind = some ⟨oc_kind, od_kind, .func (PySem.W.fnOf "_law_kind" "_law_kind" (defArgs s_l_kind) (defBody s_l_kind) (defScope s_l_kind) .none kV_kind dc_kind pm_kind an_kind cd_kind ct_kind), sl_kind⟩)
    (c_kind : PySem.W.codeIn K cd_kind "_law_kind" = true)
    (k_kind : PySem.W.keepIn K (.ref f_kind) = true)
    (a_kinds : PySem.W.nsIn K mainGlobals "_law_kinds" = some (some (.ref f_kinds)))
    (l_kinds : K.lookup f_kinds = some ⟨oc_kinds, od_kinds, .func (PySem.W.fnOf "_law_kinds" "_law_kinds" (defArgs s_l_kinds) (defBody s_l_kinds) (defScope s_l_kinds) .none kV_kinds dc_kinds pm_kinds an_kinds cd_kinds ct_kinds), sl_kinds⟩)
    (c_kinds : PySem.W.codeIn K cd_kinds "_law_kinds" = true)
    (k_kinds : PySem.W.keepIn K (.ref f_kinds) = true)
    (a_four : PySem.W.nsIn K mainGlobals "_law_four" = some (some (.ref f_four)))
    (l_four : K.lookup f_four = some ⟨oc_four, od_four, .func (PySem.W.fnOf "_law_four" "_law_four" (defArgs s_l_four) (defBody s_l_four) (defScope s_l_four) .none kV_four dc_four pm_four an_four cd_four ct_four), sl_four⟩)
    (c_four : PySem.W.codeIn K cd_four "_law_four" = true)
    (k_four : PySem.W.keepIn K (.ref f_four) = true)
    (a_ends : PySem.W.nsIn K mainGlobals "_law_ends" = some (some (.ref f_ends)))
    (l_ends : K.lookup f_ends = some ⟨oc_ends, od_ends, .func (PySem.W.fnOf "_law_ends" "_law_ends" (defArgs s_l_ends) (defBody s_l_ends) (defScope s_l_ends) .none kV_ends dc_ends pm_ends an_ends cd_ends ct_ends), sl_ends⟩)
    (c_ends : PySem.W.codeIn K cd_ends "_law_ends" = true)
    (k_ends : PySem.W.keepIn K (.ref f_ends) = true)
    (a_lint : PySem.W.nsIn K mainGlobals "_law_is_integer" = some (some (.ref f_lint)))
    (l_lint : K.lookup f_lint = some ⟨oc_lint, od_lint, .func (PySem.W.fnOf "_law_is_integer" "_law_is_integer" (defArgs s_l_is_integer) (defBody s_l_is_integer) (defScope s_l_is_integer) .none kV_lint dc_lint pm_lint an_lint cd_lint ct_lint), sl_lint⟩)
    (c_lint : PySem.W.codeIn K cd_lint "_law_is_integer" = true)
    (k_lint : PySem.W.keepIn K (.ref f_lint) = true)
    (a_lk : PySem.W.nsIn K mainGlobals "_law_lacks" = some (some (.ref f_lk)))
    (l_lk : K.lookup f_lk = some ⟨oc_lk, od_lk, .func (PySem.W.fnOf "_law_lacks" "_law_lacks" (defArgs s_l_lacks) (defBody s_l_lacks) (defScope s_l_lacks) .none kV_lk dc_lk pm_lk an_lk cd_lk ct_lk), sl_lk⟩)
    (c_lk : PySem.W.codeIn K cd_lk "_law_lacks" = true)
    (k_lk : PySem.W.keepIn K (.ref f_lk) = true)
    (a_judged : PySem.W.nsIn K mainGlobals "_law_judged" = some (some (.ref f_judged)))
    (l_judged : K.lookup f_judged = some ⟨oc_judged, od_judged, .func (PySem.W.fnOf "_law_judged" "_law_judged" (defArgs s_l_judged) (defBody s_l_judged) (defScope s_l_judged) .none kV_judged dc_judged pm_judged an_judged cd_judged ct_judged), sl_judged⟩)
    (c_judged : PySem.W.codeIn K cd_judged "_law_judged" = true)
    (k_judged : PySem.W.keepIn K (.ref f_judged) = true)
    (a_counts : PySem.W.nsIn K mainGlobals "_law_counts" = some (some (.ref f_counts)))
    (l_counts : K.lookup f_counts = some ⟨oc_counts, od_counts, .func (PySem.W.fnOf "_law_counts" "_law_counts" (defArgs s_l_counts) (defBody s_l_counts) (defScope s_l_counts) .none kV_counts dc_counts pm_counts an_counts cd_counts ct_counts), sl_counts⟩)
    (c_counts : PySem.W.codeIn K cd_counts "_law_counts" = true)
    (k_counts : PySem.W.keepIn K (.ref f_counts) = true)
    (a_law : PySem.W.nsIn K mainGlobals "law" = some (some (.ref f_law)))
    (l_law : K.lookup f_law = some ⟨oc_law, od_law, .func (PySem.W.fnOf "law" "law" (defArgs s_law) (defBody s_law) (defScope s_law) .none kV_law dc_law pm_law an_law cd_law ct_law), sl_law⟩)
    (c_law : PySem.W.codeIn K cd_law "law" = true)
    (k_law : PySem.W.keepIn K (.ref f_law) = true)
    (a_C : PySem.W.nsIn K mainGlobals "Counts" = some (some (.ref C)))
    (pg_C : PySem.W.plainGet K C Str.empty = true)
    (hd_C : PySem.W.hasDictIn K C = true)
    (po_C : PySem.W.plainOver K C = true)
    (sa_C : PySem.W.findIn K (.ref C) "__setattr__" = some (some (.builtin "object.__setattr__")))
    (mk_C : PySem.W.makesIn K C = true)
    (kc_C : PySem.W.keepIn K (.ref C) = true)
    (ns_C : PySem.W.noSeq K C = true)
    (n_C_held : PySem.W.findIn K (.ref C) "held" = some none)
    (sf_C : PySem.W.selfFirst K C = true)
    (cc_C : PySem.W.findIn K (.ref C) "__class__" = some (some (.builtin "object.__class__")))
    (ch_C : PySem.W.specialIn K (.builtin "object.__class__") "__get__" = some (some (.builtin "getset_descriptor.__get__")))
    (ct_C : PySem.W.takesIn K (.builtin "object.__class__") = some true)
    (cm_C : PySem.W.mroIn K C (.type "object") = some true)
    (ne_C : PySem.W.findIn K (.ref C) "__ne__" = some (some (.builtin "object.__ne__")))
    (a_init : PySem.W.findIn K (.ref C) "__init__" = some (some (.ref f_init)))
    (i_init : PySem.W.isFn K (.ref f_init) = true)
    (l_init : K.lookup f_init = some ⟨oc_init, od_init, .func (PySem.W.fnOf "__init__" "Counts.__init__" (defArgs s_Counts_init) (defBody s_Counts_init) (defScope s_Counts_init) .none kV_init dc_init pm_init an_init cd_init ct_init), sl_init⟩)
    (c_init : PySem.W.codeIn K cd_init "Counts.__init__" = true)
    (k_init : PySem.W.keepIn K (.ref f_init) = true)
    (a_mget : PySem.W.findIn K (.ref C) "__getitem__" = some (some (.ref f_mget)))
    (i_mget : PySem.W.isFn K (.ref f_mget) = true)
    (l_mget : K.lookup f_mget = some ⟨oc_mget, od_mget, .func (PySem.W.fnOf "__getitem__" "Counts.__getitem__" (defArgs s_Counts_getitem) (defBody s_Counts_getitem) (defScope s_Counts_getitem) .none kV_mget dc_mget pm_mget an_mget cd_mget ct_mget), sl_mget⟩)
    (c_mget : PySem.W.codeIn K cd_mget "Counts.__getitem__" = true)
    (k_mget : PySem.W.keepIn K (.ref f_mget) = true)
    (a_meq : PySem.W.findIn K (.ref C) "__eq__" = some (some (.ref f_meq)))
    (i_meq : PySem.W.isFn K (.ref f_meq) = true)
    (l_meq : K.lookup f_meq = some ⟨oc_meq, od_meq, .func (PySem.W.fnOf "__eq__" "Counts.__eq__" (defArgs s_Counts_eq) (defBody s_Counts_eq) (defScope s_Counts_eq) .none kV_meq dc_meq pm_meq an_meq cd_meq ct_meq), sl_meq⟩)
    (c_meq : PySem.W.codeIn K cd_meq "Counts.__eq__" = true)
    (k_meq : PySem.W.keepIn K (.ref f_meq) = true)
    (a_mof : PySem.W.findCls K (.ref C) (.type "type") "of" = some (.get (.builtin "classmethod.__get__") (.ref q_mof) .none (.ref C)))
    (rc_mof : PySem.W.recIn K q_mof "classmethod" = some (.ref f_mof :: r_mof))
    (l_mof : K.lookup f_mof = some ⟨oc_mof, od_mof, .func (PySem.W.fnOf "of" "Counts.of" (defArgs s_Counts_of) (defBody s_Counts_of) (defScope s_Counts_of) .none kV_mof dc_mof pm_mof an_mof cd_mof ct_mof), sl_mof⟩)
    (c_mof : PySem.W.codeIn K cd_mof "Counts.of" = true)
    (fi_mof : PySem.W.fnIn K f_mof = true)
    (k_mof : PySem.W.keepIn K (.ref f_mof) = true)
    (rd_C : PySem.W.readsIn K C (.type "type") = true)
    (ga_C : PySem.W.specialIn K (.ref C) "__getattribute__" = some (some (.builtin "type.__getattribute__")))
    (a_LET : PySem.W.nsIn K mainGlobals "LETTERS" = some (some (.str LET tk_LET)))
    (fi_mget : PySem.W.fnIn K f_mget = true)
    (a_R : PySem.W.nsIn K mainGlobals "Rule" = some (some (.ref cl_R)))
    (is_R : PySem.W.isClsIn K cl_R = true)
    (ty_R : PySem.W.typeIn K (.ref cl_R) = some (.type "type"))
    (ai_R : PySem.W.findIn K (.ref cl_R) "__init__" = some (some (.ref f_iR)))
    (l_iR : K.lookup f_iR = some ⟨oc_iR, od_iR, .func (PySem.W.fnOf "__init__" "Rule.__init__" (defArgs s_Rule_init) (defBody s_Rule_init) (defScope s_Rule_init) .none kV_iR dc_iR pm_iR an_iR cd_iR ct_iR), sl_iR⟩)
    (c_iR : PySem.W.codeIn K cd_iR "Rule.__init__" = true)
    (tf_R : PySem.W.typeIn K (.ref f_iR) = some (.type "function"))
    (fi_R : PySem.W.fnIn K f_iR = true)
    (a_al : PySem.W.nsIn K mainGlobals "AtLeast" = some (some (.ref cl_al)))
    (pg_al : PySem.W.plainGet K cl_al Str.empty = true)
    (hd_al : PySem.W.hasDictIn K cl_al = true)
    (po_al : PySem.W.plainOver K cl_al = true)
    (sa_al : PySem.W.findIn K (.ref cl_al) "__setattr__" = some (some (.builtin "object.__setattr__")))
    (mk_al : PySem.W.makesIn K cl_al = true)
    (kc_al : PySem.W.keepIn K (.ref cl_al) = true)
    (nk_al : PySem.W.findIn K (.ref cl_al) "kinds" = some none)
    (nl_al : PySem.W.findIn K (.ref cl_al) "least" = some none)
    (nm_al : PySem.W.findIn K (.ref cl_al) "most" = some none)
    (ca_al : PySem.W.findIn K (.ref cl_al) "__class__" = some (some (.builtin "object.__class__")))
    (cm_al : PySem.W.mroIn K cl_al (.type "object") = some true)
    (is_al : PySem.W.isClsIn K cl_al = true)
    (ty_al : PySem.W.typeIn K (.ref cl_al) = some (.type "type"))
    (ai_al : PySem.W.findIn K (.ref cl_al) "__init__" = some (some (.ref f_ial)))
    (if_al : PySem.W.isFn K (.ref f_ial) = true)
    (l_ial : K.lookup f_ial = some ⟨oc_ial, od_ial, .func (PySem.W.ksFn "__init__" "AtLeast.__init__" (defArgs s_AtLeast_init) (defBody s_AtLeast_init) (defScope s_AtLeast_init) .none kV_ial dc_ial pm_ial an_ial (.ref cd_ial) ct_ial cc_ial), sl_ial⟩)
    (c_ial : PySem.W.codeIn K (.ref cd_ial) "AtLeast.__init__" = true)
    (e_ial : K.lookup cc_ial = some ⟨cl1_ial, dd1_ial, .cell (some (.ref cl_al)), sl1_ial⟩)
    (o_ial : K.lookup cd_ial = some ⟨cl2_ial, dd2_ial, .fields vs_ial, sl2_ial⟩)
    (v_ial : vs_ial[2]? = some (.str file_ial tk_ial))
    (p_ial : ((l.prog.main.file : Str) == file_ial) = true)
    (tf_al : PySem.W.typeIn K (.ref f_ial) = some (.type "function"))
    (fi_al : PySem.W.fnIn K f_ial = true)
    (a_am : PySem.W.nsIn K mainGlobals "AtMost" = some (some (.ref cl_am)))
    (pg_am : PySem.W.plainGet K cl_am Str.empty = true)
    (hd_am : PySem.W.hasDictIn K cl_am = true)
    (po_am : PySem.W.plainOver K cl_am = true)
    (sa_am : PySem.W.findIn K (.ref cl_am) "__setattr__" = some (some (.builtin "object.__setattr__")))
    (mk_am : PySem.W.makesIn K cl_am = true)
    (kc_am : PySem.W.keepIn K (.ref cl_am) = true)
    (nk_am : PySem.W.findIn K (.ref cl_am) "kinds" = some none)
    (nl_am : PySem.W.findIn K (.ref cl_am) "least" = some none)
    (nm_am : PySem.W.findIn K (.ref cl_am) "most" = some none)
    (ca_am : PySem.W.findIn K (.ref cl_am) "__class__" = some (some (.builtin "object.__class__")))
    (cm_am : PySem.W.mroIn K cl_am (.type "object") = some true)
    (is_am : PySem.W.isClsIn K cl_am = true)
    (ty_am : PySem.W.typeIn K (.ref cl_am) = some (.type "type"))
    (ai_am : PySem.W.findIn K (.ref cl_am) "__init__" = some (some (.ref f_iam)))
    (if_am : PySem.W.isFn K (.ref f_iam) = true)
    (l_iam : K.lookup f_iam = some ⟨oc_iam, od_iam, .func (PySem.W.ksFn "__init__" "AtMost.__init__" (defArgs s_AtMost_init) (defBody s_AtMost_init) (defScope s_AtMost_init) .none kV_iam dc_iam pm_iam an_iam (.ref cd_iam) ct_iam cc_iam), sl_iam⟩)
    (c_iam : PySem.W.codeIn K (.ref cd_iam) "AtMost.__init__" = true)
    (e_iam : K.lookup cc_iam = some ⟨cl1_iam, dd1_iam, .cell (some (.ref cl_am)), sl1_iam⟩)
    (o_iam : K.lookup cd_iam = some ⟨cl2_iam, dd2_iam, .fields vs_iam, sl2_iam⟩)
    (v_iam : vs_iam[2]? = some (.str file_iam tk_iam))
    (p_iam : ((l.prog.main.file : Str) == file_iam) = true)
    (tf_am : PySem.W.typeIn K (.ref f_iam) = some (.type "function"))
    (fi_am : PySem.W.fnIn K f_iam = true)
    (a_bt : PySem.W.nsIn K mainGlobals "Between" = some (some (.ref cl_bt)))
    (pg_bt : PySem.W.plainGet K cl_bt Str.empty = true)
    (hd_bt : PySem.W.hasDictIn K cl_bt = true)
    (po_bt : PySem.W.plainOver K cl_bt = true)
    (sa_bt : PySem.W.findIn K (.ref cl_bt) "__setattr__" = some (some (.builtin "object.__setattr__")))
    (mk_bt : PySem.W.makesIn K cl_bt = true)
    (kc_bt : PySem.W.keepIn K (.ref cl_bt) = true)
    (nk_bt : PySem.W.findIn K (.ref cl_bt) "kinds" = some none)
    (nl_bt : PySem.W.findIn K (.ref cl_bt) "least" = some none)
    (nm_bt : PySem.W.findIn K (.ref cl_bt) "most" = some none)
    (ca_bt : PySem.W.findIn K (.ref cl_bt) "__class__" = some (some (.builtin "object.__class__")))
    (cm_bt : PySem.W.mroIn K cl_bt (.type "object") = some true)
    (is_bt : PySem.W.isClsIn K cl_bt = true)
    (ty_bt : PySem.W.typeIn K (.ref cl_bt) = some (.type "type"))
    (ai_bt : PySem.W.findIn K (.ref cl_bt) "__init__" = some (some (.ref f_ibt)))
    (if_bt : PySem.W.isFn K (.ref f_ibt) = true)
    (l_ibt : K.lookup f_ibt = some ⟨oc_ibt, od_ibt, .func (PySem.W.ksFn "__init__" "Between.__init__" (defArgs s_Between_init) (defBody s_Between_init) (defScope s_Between_init) .none kV_ibt dc_ibt pm_ibt an_ibt (.ref cd_ibt) ct_ibt cc_ibt), sl_ibt⟩)
    (c_ibt : PySem.W.codeIn K (.ref cd_ibt) "Between.__init__" = true)
    (e_ibt : K.lookup cc_ibt = some ⟨cl1_ibt, dd1_ibt, .cell (some (.ref cl_bt)), sl1_ibt⟩)
    (o_ibt : K.lookup cd_ibt = some ⟨cl2_ibt, dd2_ibt, .fields vs_ibt, sl2_ibt⟩)
    (v_ibt : vs_ibt[2]? = some (.str file_ibt tk_ibt))
    (p_ibt : ((l.prog.main.file : Str) == file_ibt) = true)
    (tf_bt : PySem.W.typeIn K (.ref f_ibt) = some (.type "function"))
    (fi_bt : PySem.W.fnIn K f_ibt = true)
    (a_ex : PySem.W.nsIn K mainGlobals "Exactly" = some (some (.ref cl_ex)))
    (pg_ex : PySem.W.plainGet K cl_ex Str.empty = true)
    (hd_ex : PySem.W.hasDictIn K cl_ex = true)
    (po_ex : PySem.W.plainOver K cl_ex = true)
    (sa_ex : PySem.W.findIn K (.ref cl_ex) "__setattr__" = some (some (.builtin "object.__setattr__")))
    (mk_ex : PySem.W.makesIn K cl_ex = true)
    (kc_ex : PySem.W.keepIn K (.ref cl_ex) = true)
    (nk_ex : PySem.W.findIn K (.ref cl_ex) "kinds" = some none)
    (nl_ex : PySem.W.findIn K (.ref cl_ex) "least" = some none)
    (nm_ex : PySem.W.findIn K (.ref cl_ex) "most" = some none)
    (ca_ex : PySem.W.findIn K (.ref cl_ex) "__class__" = some (some (.builtin "object.__class__")))
    (cm_ex : PySem.W.mroIn K cl_ex (.type "object") = some true)
    (is_ex : PySem.W.isClsIn K cl_ex = true)
    (ty_ex : PySem.W.typeIn K (.ref cl_ex) = some (.type "type"))
    (ai_ex : PySem.W.findIn K (.ref cl_ex) "__init__" = some (some (.ref f_iex)))
    (if_ex : PySem.W.isFn K (.ref f_iex) = true)
    (l_iex : K.lookup f_iex = some ⟨oc_iex, od_iex, .func (PySem.W.ksFn "__init__" "Exactly.__init__" (defArgs s_Exactly_init) (defBody s_Exactly_init) (defScope s_Exactly_init) .none kV_iex dc_iex pm_iex an_iex (.ref cd_iex) ct_iex cc_iex), sl_iex⟩)
    (c_iex : PySem.W.codeIn K (.ref cd_iex) "Exactly.__init__" = true)
    (e_iex : K.lookup cc_iex = some ⟨cl1_iex, dd1_iex, .cell (some (.ref cl_ex)), sl1_iex⟩)
    (o_iex : K.lookup cd_iex = some ⟨cl2_iex, dd2_iex, .fields vs_iex, sl2_iex⟩)
    (v_iex : vs_iex[2]? = some (.str file_iex tk_iex))
    (p_iex : ((l.prog.main.file : Str) == file_iex) = true)
    (tf_ex : PySem.W.typeIn K (.ref f_iex) = some (.type "function"))
    (fi_ex : PySem.W.fnIn K f_iex = true)
    (ch_R : PySem.W.specialIn K (.builtin "object.__class__") "__get__" = some (some (.builtin "getset_descriptor.__get__")))
    (ct_R : PySem.W.takesIn K (.builtin "object.__class__") = some true)
    (sR_al : PySem.W.subIn K (.ref cl_al) (.ref cl_R) = some true)
    (s_al_am : PySem.W.subIn K (.ref cl_al) (.ref cl_am) = some false)
    (ne_al_am : cl_al ≠ cl_am)
    (s_al_bt : PySem.W.subIn K (.ref cl_al) (.ref cl_bt) = some false)
    (ne_al_bt : cl_al ≠ cl_bt)
    (s_al_ex : PySem.W.subIn K (.ref cl_al) (.ref cl_ex) = some false)
    (ne_al_ex : cl_al ≠ cl_ex)
    (sR_am : PySem.W.subIn K (.ref cl_am) (.ref cl_R) = some true)
    (s_am_al : PySem.W.subIn K (.ref cl_am) (.ref cl_al) = some false)
    (ne_am_al : cl_am ≠ cl_al)
    (s_am_bt : PySem.W.subIn K (.ref cl_am) (.ref cl_bt) = some false)
    (ne_am_bt : cl_am ≠ cl_bt)
    (s_am_ex : PySem.W.subIn K (.ref cl_am) (.ref cl_ex) = some false)
    (ne_am_ex : cl_am ≠ cl_ex)
    (sR_bt : PySem.W.subIn K (.ref cl_bt) (.ref cl_R) = some true)
    (s_bt_al : PySem.W.subIn K (.ref cl_bt) (.ref cl_al) = some true)
    (ne_bt_al : cl_bt ≠ cl_al)
    (s_bt_am : PySem.W.subIn K (.ref cl_bt) (.ref cl_am) = some true)
    (ne_bt_am : cl_bt ≠ cl_am)
    (s_bt_ex : PySem.W.subIn K (.ref cl_bt) (.ref cl_ex) = some false)
    (ne_bt_ex : cl_bt ≠ cl_ex)
    (sR_ex : PySem.W.subIn K (.ref cl_ex) (.ref cl_R) = some true)
    (s_ex_al : PySem.W.subIn K (.ref cl_ex) (.ref cl_al) = some true)
    (ne_ex_al : cl_ex ≠ cl_al)
    (s_ex_am : PySem.W.subIn K (.ref cl_ex) (.ref cl_am) = some true)
    (ne_ex_am : cl_ex ≠ cl_am)
    (s_ex_bt : PySem.W.subIn K (.ref cl_ex) (.ref cl_bt) = some true)
    (ne_ex_bt : cl_ex ≠ cl_bt)
    (m_al_al : PySem.W.mroIn K cl_al (.ref cl_al) = some true)
    (u_al_al : PySem.W.ks_superIn K cl_al cl_al "__init__" = some (some (.ref f_iR)))
    (m_am_am : PySem.W.mroIn K cl_am (.ref cl_am) = some true)
    (u_am_am : PySem.W.ks_superIn K cl_am cl_am "__init__" = some (some (.ref f_iR)))
    (m_bt_bt : PySem.W.mroIn K cl_bt (.ref cl_bt) = some true)
    (u_bt_bt : PySem.W.ks_superIn K cl_bt cl_bt "__init__" = some (some (.ref f_ial)))
    (m_bt_al : PySem.W.mroIn K cl_bt (.ref cl_al) = some true)
    (u_bt_al : PySem.W.ks_superIn K cl_bt cl_al "__init__" = some (some (.ref f_iam)))
    (m_bt_am : PySem.W.mroIn K cl_bt (.ref cl_am) = some true)
    (u_bt_am : PySem.W.ks_superIn K cl_bt cl_am "__init__" = some (some (.ref f_iR)))
    (m_ex_ex : PySem.W.mroIn K cl_ex (.ref cl_ex) = some true)
    (u_ex_ex : PySem.W.ks_superIn K cl_ex cl_ex "__init__" = some (some (.ref f_ibt)))
    (m_ex_bt : PySem.W.mroIn K cl_ex (.ref cl_bt) = some true)
    (u_ex_bt : PySem.W.ks_superIn K cl_ex cl_bt "__init__" = some (some (.ref f_ial)))
    (m_ex_al : PySem.W.mroIn K cl_ex (.ref cl_al) = some true)
    (u_ex_al : PySem.W.ks_superIn K cl_ex cl_al "__init__" = some (some (.ref f_iam)))
    (m_ex_am : PySem.W.mroIn K cl_ex (.ref cl_am) = some true)
    (u_ex_am : PySem.W.ks_superIn K cl_ex cl_am "__init__" = some (some (.ref f_iR)))
    (sg_top : (l.prog.main.scope.names.lookup ("super" : Str)).isSome = false)
    (z_super : PySem.W.nsIn K mainGlobals "super" = some none)
    (sg_opq : PySem.W.nsIn K cStatics "thirdparty.any" = some none)
    (a_RES : PySem.W.nsIn K mainGlobals "RESERVED" = some (some (.ref rR)))
    (t_RES : K.lookup rR = some ⟨.type "tuple", dd_RES, .seq #[.str ("hold" : Str) tr0, .str ("look" : Str) tr1, .str ("do" : Str) tr2, .str ("row" : Str) tr3, .str ("one" : Str) tr4, .str ("all" : Str) tr5, .str ("new" : Str) tr6, .str ("give" : Str) tr7, .str ("take" : Str) tr8, .str ("join" : Str) tr9, .str ("other" : Str) tr10, .str ("if" : Str) tr11, .str ("and" : Str) tr12, .str ("or" : Str) tr13, .str ("then" : Str) tr14, .str ("gone" : Str) tr15] n_RES, sl_RES⟩)
    (a_tof_al : PySem.W.findIn K (.ref cl_al) "total_of" = some (some (.ref f_tof)))
    (a_tof_am : PySem.W.findIn K (.ref cl_am) "total_of" = some (some (.ref f_tof)))
    (a_tof_bt : PySem.W.findIn K (.ref cl_bt) "total_of" = some (some (.ref f_tof)))
    (a_tof_ex : PySem.W.findIn K (.ref cl_ex) "total_of" = some (some (.ref f_tof)))
    (i_tof : PySem.W.isFn K (.ref f_tof) = true)
    (l_tof : K.lookup f_tof = some ⟨oc_tof, od_tof, .func (PySem.W.fnOf "total_of" "Rule.total_of" (defArgs s_Rule_total_of) (defBody s_Rule_total_of) (defScope s_Rule_total_of) .none kV_tof dc_tof pm_tof an_tof cd_tof ct_tof), sl_tof⟩)
    (c_tof : PySem.W.codeIn K cd_tof "Rule.total_of" = true)
    (k_tof : PySem.W.keepIn K (.ref f_tof) = true)
    (a_hR_R : PySem.W.findIn K (.ref cl_R) "holds" = some (some (.ref f_hR)))
    (i_hR : PySem.W.isFn K (.ref f_hR) = true)
    (l_hR : K.lookup f_hR = some ⟨oc_hR, od_hR, .func (PySem.W.fnOf "holds" "Rule.holds" (defArgs s_Rule_holds) (defBody s_Rule_holds) (defScope s_Rule_holds) .none kV_hR dc_hR pm_hR an_hR cd_hR ct_hR), sl_hR⟩)
    (c_hR : PySem.W.codeIn K cd_hR "Rule.holds" = true)
    (k_hR : PySem.W.keepIn K (.ref f_hR) = true)
    (tf_hR : PySem.W.typeIn K (.ref f_hR) = some (.type "function"))
    (fi_hR : PySem.W.fnIn K f_hR = true)
    (a_hal : PySem.W.findIn K (.ref cl_al) "holds" = some (some (.ref f_hal)))
    (i_hal : PySem.W.isFn K (.ref f_hal) = true)
    (k_hal : PySem.W.keepIn K (.ref f_hal) = true)
    (l_hal : K.lookup f_hal = some ⟨oc_hal, od_hal, .func (PySem.W.ksFn "holds" "AtLeast.holds" (defArgs s_AtLeast_holds) (defBody s_AtLeast_holds) (defScope s_AtLeast_holds) .none kV_hal dc_hal pm_hal an_hal (.ref cd_hal) ct_hal cc_hal), sl_hal⟩)
    (c_hal : PySem.W.codeIn K (.ref cd_hal) "AtLeast.holds" = true)
    (e_hal : K.lookup cc_hal = some ⟨cl1_hal, dd1_hal, .cell (some (.ref cl_al)), sl1_hal⟩)
    (o_hal : K.lookup cd_hal = some ⟨cl2_hal, dd2_hal, .fields vs_hal, sl2_hal⟩)
    (v_hal : vs_hal[2]? = some (.str file_hal tk_hal))
    (p_hal : ((l.prog.main.file : Str) == file_hal) = true)
    (tf_hal : PySem.W.typeIn K (.ref f_hal) = some (.type "function"))
    (fi_hal : PySem.W.fnIn K f_hal = true)
    (a_ham : PySem.W.findIn K (.ref cl_am) "holds" = some (some (.ref f_ham)))
    (i_ham : PySem.W.isFn K (.ref f_ham) = true)
    (k_ham : PySem.W.keepIn K (.ref f_ham) = true)
    (l_ham : K.lookup f_ham = some ⟨oc_ham, od_ham, .func (PySem.W.ksFn "holds" "AtMost.holds" (defArgs s_AtMost_holds) (defBody s_AtMost_holds) (defScope s_AtMost_holds) .none kV_ham dc_ham pm_ham an_ham (.ref cd_ham) ct_ham cc_ham), sl_ham⟩)
    (c_ham : PySem.W.codeIn K (.ref cd_ham) "AtMost.holds" = true)
    (e_ham : K.lookup cc_ham = some ⟨cl1_ham, dd1_ham, .cell (some (.ref cl_am)), sl1_ham⟩)
    (o_ham : K.lookup cd_ham = some ⟨cl2_ham, dd2_ham, .fields vs_ham, sl2_ham⟩)
    (v_ham : vs_ham[2]? = some (.str file_ham tk_ham))
    (p_ham : ((l.prog.main.file : Str) == file_ham) = true)
    (tf_ham : PySem.W.typeIn K (.ref f_ham) = some (.type "function"))
    (fi_ham : PySem.W.fnIn K f_ham = true)
    (a_hbt : PySem.W.findIn K (.ref cl_bt) "holds" = some (some (.ref f_hbt)))
    (i_hbt : PySem.W.isFn K (.ref f_hbt) = true)
    (k_hbt : PySem.W.keepIn K (.ref f_hbt) = true)
    (l_hbt : K.lookup f_hbt = some ⟨oc_hbt, od_hbt, .func (PySem.W.ksFn "holds" "Between.holds" (defArgs s_Between_holds) (defBody s_Between_holds) (defScope s_Between_holds) .none kV_hbt dc_hbt pm_hbt an_hbt (.ref cd_hbt) ct_hbt cc_hbt), sl_hbt⟩)
    (c_hbt : PySem.W.codeIn K (.ref cd_hbt) "Between.holds" = true)
    (e_hbt : K.lookup cc_hbt = some ⟨cl1_hbt, dd1_hbt, .cell (some (.ref cl_bt)), sl1_hbt⟩)
    (o_hbt : K.lookup cd_hbt = some ⟨cl2_hbt, dd2_hbt, .fields vs_hbt, sl2_hbt⟩)
    (v_hbt : vs_hbt[2]? = some (.str file_hbt tk_hbt))
    (p_hbt : ((l.prog.main.file : Str) == file_hbt) = true)
    (tf_hbt : PySem.W.typeIn K (.ref f_hbt) = some (.type "function"))
    (fi_hbt : PySem.W.fnIn K f_hbt = true)
    (a_hex : PySem.W.findIn K (.ref cl_ex) "holds" = some (some (.ref f_hex)))
    (i_hex : PySem.W.isFn K (.ref f_hex) = true)
    (k_hex : PySem.W.keepIn K (.ref f_hex) = true)
    (l_hex : K.lookup f_hex = some ⟨oc_hex, od_hex, .func (PySem.W.ksFn "holds" "Exactly.holds" (defArgs s_Exactly_holds) (defBody s_Exactly_holds) (defScope s_Exactly_holds) .none kV_hex dc_hex pm_hex an_hex (.ref cd_hex) ct_hex cc_hex), sl_hex⟩)
    (c_hex : PySem.W.codeIn K (.ref cd_hex) "Exactly.holds" = true)
    (e_hex : K.lookup cc_hex = some ⟨cl1_hex, dd1_hex, .cell (some (.ref cl_ex)), sl1_hex⟩)
    (o_hex : K.lookup cd_hex = some ⟨cl2_hex, dd2_hex, .fields vs_hex, sl2_hex⟩)
    (v_hex : vs_hex[2]? = some (.str file_hex tk_hex))
    (p_hex : ((l.prog.main.file : Str) == file_hex) = true)
    (tf_hex : PySem.W.typeIn K (.ref f_hex) = some (.type "function"))
    (fi_hex : PySem.W.fnIn K f_hex = true)
    (uh_al_al : PySem.W.ks_superIn K cl_al cl_al "holds" = some (some (.ref f_hR)))
    (uh_am_am : PySem.W.ks_superIn K cl_am cl_am "holds" = some (some (.ref f_hR)))
    (uh_bt_bt : PySem.W.ks_superIn K cl_bt cl_bt "holds" = some (some (.ref f_hal)))
    (uh_bt_al : PySem.W.ks_superIn K cl_bt cl_al "holds" = some (some (.ref f_ham)))
    (uh_bt_am : PySem.W.ks_superIn K cl_bt cl_am "holds" = some (some (.ref f_hR)))
    (uh_ex_ex : PySem.W.ks_superIn K cl_ex cl_ex "holds" = some (some (.ref f_hbt)))
    (uh_ex_bt : PySem.W.ks_superIn K cl_ex cl_bt "holds" = some (some (.ref f_hal)))
    (uh_ex_al : PySem.W.ks_superIn K cl_ex cl_al "holds" = some (some (.ref f_ham)))
    (uh_ex_am : PySem.W.ks_superIn K cl_ex cl_am "holds" = some (some (.ref f_hR)))
    (a_kR_R : PySem.W.findIn K (.ref cl_R) "lacks" = some (some (.ref f_kR)))
    (i_kR : PySem.W.isFn K (.ref f_kR) = true)
    (l_kR : K.lookup f_kR = some ⟨oc_kR, od_kR, .func (PySem.W.fnOf "lacks" "Rule.lacks" (defArgs s_Rule_lacks) (defBody s_Rule_lacks) (defScope s_Rule_lacks) .none kV_kR dc_kR pm_kR an_kR cd_kR ct_kR), sl_kR⟩)
    (c_kR : PySem.W.codeIn K cd_kR "Rule.lacks" = true)
    (k_kR : PySem.W.keepIn K (.ref f_kR) = true)
    (tf_kR : PySem.W.typeIn K (.ref f_kR) = some (.type "function"))
    (fi_kR : PySem.W.fnIn K f_kR = true)
    (a_kal : PySem.W.findIn K (.ref cl_al) "lacks" = some (some (.ref f_kal)))
    (i_kal : PySem.W.isFn K (.ref f_kal) = true)
    (k_kal : PySem.W.keepIn K (.ref f_kal) = true)
    (l_kal : K.lookup f_kal = some ⟨oc_kal, od_kal, .func (PySem.W.ksFn "lacks" "AtLeast.lacks" (defArgs s_AtLeast_lacks) (defBody s_AtLeast_lacks) (defScope s_AtLeast_lacks) .none kV_kal dc_kal pm_kal an_kal (.ref cd_kal) ct_kal cc_kal), sl_kal⟩)
    (c_kal : PySem.W.codeIn K (.ref cd_kal) "AtLeast.lacks" = true)
    (e_kal : K.lookup cc_kal = some ⟨cl1_kal, dd1_kal, .cell (some (.ref cl_al)), sl1_kal⟩)
    (o_kal : K.lookup cd_kal = some ⟨cl2_kal, dd2_kal, .fields vs_kal, sl2_kal⟩)
    (v_kal : vs_kal[2]? = some (.str file_kal tk_kal))
    (p_kal : ((l.prog.main.file : Str) == file_kal) = true)
    (tf_kal : PySem.W.typeIn K (.ref f_kal) = some (.type "function"))
    (fi_kal : PySem.W.fnIn K f_kal = true)
    (a_kam : PySem.W.findIn K (.ref cl_am) "lacks" = some (some (.ref f_kam)))
    (i_kam : PySem.W.isFn K (.ref f_kam) = true)
    (k_kam : PySem.W.keepIn K (.ref f_kam) = true)
    (l_kam : K.lookup f_kam = some ⟨oc_kam, od_kam, .func (PySem.W.ksFn "lacks" "AtMost.lacks" (defArgs s_AtMost_lacks) (defBody s_AtMost_lacks) (defScope s_AtMost_lacks) .none kV_kam dc_kam pm_kam an_kam (.ref cd_kam) ct_kam cc_kam), sl_kam⟩)
    (c_kam : PySem.W.codeIn K (.ref cd_kam) "AtMost.lacks" = true)
    (e_kam : K.lookup cc_kam = some ⟨cl1_kam, dd1_kam, .cell (some (.ref cl_am)), sl1_kam⟩)
    (o_kam : K.lookup cd_kam = some ⟨cl2_kam, dd2_kam, .fields vs_kam, sl2_kam⟩)
    (v_kam : vs_kam[2]? = some (.str file_kam tk_kam))
    (p_kam : ((l.prog.main.file : Str) == file_kam) = true)
    (tf_kam : PySem.W.typeIn K (.ref f_kam) = some (.type "function"))
    (fi_kam : PySem.W.fnIn K f_kam = true)
    (a_kbt : PySem.W.findIn K (.ref cl_bt) "lacks" = some (some (.ref f_kbt)))
    (i_kbt : PySem.W.isFn K (.ref f_kbt) = true)
    (k_kbt : PySem.W.keepIn K (.ref f_kbt) = true)
    (l_kbt : K.lookup f_kbt = some ⟨oc_kbt, od_kbt, .func (PySem.W.ksFn "lacks" "Between.lacks" (defArgs s_Between_lacks) (defBody s_Between_lacks) (defScope s_Between_lacks) .none kV_kbt dc_kbt pm_kbt an_kbt (.ref cd_kbt) ct_kbt cc_kbt), sl_kbt⟩)
    (c_kbt : PySem.W.codeIn K (.ref cd_kbt) "Between.lacks" = true)
    (e_kbt : K.lookup cc_kbt = some ⟨cl1_kbt, dd1_kbt, .cell (some (.ref cl_bt)), sl1_kbt⟩)
    (o_kbt : K.lookup cd_kbt = some ⟨cl2_kbt, dd2_kbt, .fields vs_kbt, sl2_kbt⟩)
    (v_kbt : vs_kbt[2]? = some (.str file_kbt tk_kbt))
    (p_kbt : ((l.prog.main.file : Str) == file_kbt) = true)
    (tf_kbt : PySem.W.typeIn K (.ref f_kbt) = some (.type "function"))
    (fi_kbt : PySem.W.fnIn K f_kbt = true)
    (a_kex : PySem.W.findIn K (.ref cl_ex) "lacks" = some (some (.ref f_kex)))
    (i_kex : PySem.W.isFn K (.ref f_kex) = true)
    (k_kex : PySem.W.keepIn K (.ref f_kex) = true)
    (l_kex : K.lookup f_kex = some ⟨oc_kex, od_kex, .func (PySem.W.ksFn "lacks" "Exactly.lacks" (defArgs s_Exactly_lacks) (defBody s_Exactly_lacks) (defScope s_Exactly_lacks) .none kV_kex dc_kex pm_kex an_kex (.ref cd_kex) ct_kex cc_kex), sl_kex⟩)
    (c_kex : PySem.W.codeIn K (.ref cd_kex) "Exactly.lacks" = true)
    (e_kex : K.lookup cc_kex = some ⟨cl1_kex, dd1_kex, .cell (some (.ref cl_ex)), sl1_kex⟩)
    (o_kex : K.lookup cd_kex = some ⟨cl2_kex, dd2_kex, .fields vs_kex, sl2_kex⟩)
    (v_kex : vs_kex[2]? = some (.str file_kex tk_kex))
    (p_kex : ((l.prog.main.file : Str) == file_kex) = true)
    (tf_kex : PySem.W.typeIn K (.ref f_kex) = some (.type "function"))
    (fi_kex : PySem.W.fnIn K f_kex = true)
    (uk_al_al : PySem.W.ks_superIn K cl_al cl_al "lacks" = some (some (.ref f_kR)))
    (uk_am_am : PySem.W.ks_superIn K cl_am cl_am "lacks" = some (some (.ref f_kR)))
    (uk_bt_bt : PySem.W.ks_superIn K cl_bt cl_bt "lacks" = some (some (.ref f_kal)))
    (uk_bt_al : PySem.W.ks_superIn K cl_bt cl_al "lacks" = some (some (.ref f_kam)))
    (uk_bt_am : PySem.W.ks_superIn K cl_bt cl_am "lacks" = some (some (.ref f_kR)))
    (uk_ex_ex : PySem.W.ks_superIn K cl_ex cl_ex "lacks" = some (some (.ref f_kbt)))
    (uk_ex_bt : PySem.W.ks_superIn K cl_ex cl_bt "lacks" = some (some (.ref f_kal)))
    (uk_ex_al : PySem.W.ks_superIn K cl_ex cl_al "lacks" = some (some (.ref f_kam)))
    (uk_ex_am : PySem.W.ks_superIn K cl_ex cl_am "lacks" = some (some (.ref f_kR)))
    (z_len : PySem.W.nsIn K mainGlobals "len" = some none)
    (z_int : PySem.W.nsIn K mainGlobals "int" = some none)
    (z_abs : PySem.W.nsIn K mainGlobals "abs" = some none)
    (z_list : PySem.W.nsIn K mainGlobals "list" = some none)
    (z_range : PySem.W.nsIn K mainGlobals "range" = some none)
    (z_sorted : PySem.W.nsIn K mainGlobals "sorted" = some none)
    (z_str : PySem.W.nsIn K mainGlobals "str" = some none)
    (z_isinstance : PySem.W.nsIn K mainGlobals "isinstance" = some none)
    (z_sum : PySem.W.nsIn K mainGlobals "sum" = some none)
    (z_tuple : PySem.W.nsIn K mainGlobals "tuple" = some none)
    (z_dict : PySem.W.nsIn K mainGlobals "dict" = some none)
    (z_all : PySem.W.nsIn K mainGlobals "all" = some none)
    (z_bool : PySem.W.nsIn K mainGlobals "bool" = some none)
    (z_enumerate : PySem.W.nsIn K mainGlobals "enumerate" = some none)
    : ∃ fd : FuncData, (∀ (s : Shared) (v : Value), BindsTo s fd ⟨[v], []⟩ [("_law_script", v)]) ∧ ∀ base : Heap, K.In base → base.Ns mainGlobals mg → FnOk l.prog w K mg base CX0 11 fa fd ["_law_script"] (spLawR K) := by
  have e := hfa.symm.trans (PySem.W.mg_of X G a_law)
  cases e
  have g : Bi mg := ⟨PySem.W.mg_none_of X G z_len, PySem.W.mg_none_of X G z_int, PySem.W.mg_none_of X G z_abs, PySem.W.mg_none_of X G z_list, PySem.W.mg_none_of X G z_range, PySem.W.mg_none_of X G z_sorted, PySem.W.mg_none_of X G z_str, PySem.W.mg_none_of X G z_isinstance, PySem.W.mg_none_of X G z_sum, PySem.W.mg_none_of X G z_tuple, PySem.W.mg_none_of X G z_dict, PySem.W.mg_none_of X G z_all, PySem.W.mg_none_of X G z_bool, PySem.W.mg_none_of X G z_enumerate⟩
  have F_isint := fun_mk (st := s_is_integer) l_isint c_isint k_isint
  have b_isint := F_isint.binds (ps := ["thing"]) fun _ _ _ _ _ _ us hl => match us, hl with | [_], _ => rfl
  have F_isword := fun_mk (st := s_is_word) l_isword c_isword k_isword
  have b_isword := F_isword.binds (ps := ["thing"]) fun _ _ _ _ _ _ us hl => match us, hl with | [_], _ => rfl
  have F_issmall := fun_mk (st := s_is_small) l_issmall c_issmall k_issmall
  have b_issmall := F_issmall.binds (ps := ["thing"]) fun _ _ _ _ _ _ us hl => match us, hl with | [_], _ => rfl
  have F_ispair := fun_mk (st := s_is_pair) l_ispair c_ispair k_ispair
  have b_ispair := F_ispair.binds (ps := ["thing"]) fun _ _ _ _ _ _ us hl => match us, hl with | [_], _ => rfl
  have F_source := fun_mk (st := s_l_source) l_source c_source k_source
  have b_source := F_source.binds (ps := ["_law_script"]) fun _ _ _ _ _ _ us hl => match us, hl with | [_], _ => rfl
  have F_mixed := fun_mk (st := s_l_mixed) l_mixed c_mixed k_mixed
  have b_mixed := F_mixed.binds (ps := ["_law_cell", "_law_count"]) fun _ _ _ _ _ _ us hl => match us, hl with | [_, _], _ => rfl
  have F_draw := fun_mk (st := s_l_draw) l_draw c_draw k_draw
  have b_draw := F_draw.binds (ps := ["_law_source_here", "_law_size"]) fun _ _ _ _ _ _ us hl => match us, hl with | [_, _], _ => rfl
  have F_number := fun_mk (st := s_l_number) l_number c_number k_number
  have b_number := F_number.binds (ps := ["_law_source_here"]) fun _ _ _ _ _ _ us hl => match us, hl with | [_], _ => rfl
  have F_distinct := fun_mk (st := s_distinct) l_distinct c_distinct k_distinct
  have b_distinct := F_distinct.binds (ps := ["words"]) fun _ _ _ _ _ _ us hl => match us, hl with | [_], _ => rfl
  have F_iskind := fun_mk (st := s_is_kind) l_iskind c_iskind k_iskind
  have b_iskind := F_iskind.binds (ps := ["thing"]) fun _ _ _ _ _ _ us hl => match us, hl with | [_], _ => rfl
  have F_isbound := fun_mk (st := s_is_bound) l_isbound c_isbound k_isbound
  have b_isbound := F_isbound.binds (ps := ["thing"]) fun _ _ _ _ _ _ us hl => match us, hl with | [_], _ => rfl
  have F_kind := fun_mk (st := s_l_kind) l_kind c_kind k_kind
  have b_kind := F_kind.binds (ps := ["_law_source_here", "_law_taken"]) fun _ _ _ _ _ _ us hl => match us, hl with | [_, _], _ => rfl
  have F_kinds := fun_mk (st := s_l_kinds) l_kinds c_kinds k_kinds
  have b_kinds := F_kinds.binds (ps := ["_law_source_here", "_law_many"]) fun _ _ _ _ _ _ us hl => match us, hl with | [_, _], _ => rfl
  have F_four := fun_mk (st := s_l_four) l_four c_four k_four
  have b_four := F_four.binds (ps := ["_law_low", "_law_high", "_law_kinds_here"]) fun _ _ _ _ _ _ us hl => match us, hl with | [_, _, _], _ => rfl
  have F_ends := fun_mk (st := s_l_ends) l_ends c_ends k_ends
  have b_ends := F_ends.binds (ps := ["_law_low", "_law_high"]) fun _ _ _ _ _ _ us hl => match us, hl with | [_, _], _ => rfl
  have F_lint := fun_mk (st := s_l_is_integer) l_lint c_lint k_lint
  have b_lint := F_lint.binds (ps := ["_law_thing"]) fun _ _ _ _ _ _ us hl => match us, hl with | [_], _ => rfl
  have F_lk := fun_mk (st := s_l_lacks) l_lk c_lk k_lk
  have b_lk := F_lk.binds (ps := ["_law_total", "_law_ends_here"]) fun _ _ _ _ _ _ us hl => match us, hl with | [_, _], _ => rfl
  have F_judged := fun_mk (st := s_l_judged) l_judged c_judged k_judged
  have b_judged := F_judged.binds (ps := ["_law_rule", "_law_ends_here", "_law_counts_here", "_law_total"]) fun _ _ _ _ _ _ us hl => match us, hl with | [_, _, _, _], _ => rfl
  have F_counts := fun_mk (st := s_l_counts) l_counts c_counts k_counts
  have b_counts := F_counts.binds (ps := ["_law_source_here", "_law_kinds_here", "_law_other", "_law_low", "_law_high"]) fun _ _ _ _ _ _ us hl => match us, hl with | [_, _, _, _, _], _ => rfl
  have F_law := fun_mk (st := s_law) l_law c_law k_law
  have b_law := F_law.binds (ps := ["_law_script"]) fun _ _ _ _ _ _ us hl => match us, hl with | [_], _ => rfl
  have F_init := fun_mk (st := s_Counts_init) l_init c_init k_init
  have F_mget := fun_mk (st := s_Counts_getitem) l_mget c_mget k_mget
  have b_mget := F_mget.binds (ps := ["self", "word"]) fun _ _ _ _ _ _ us hl => match us, hl with | [_, _], _ => rfl
  have F_meq := fun_mk (st := s_Counts_eq) l_meq c_meq k_meq
  have b_meq := F_meq.binds (ps := ["self", "other"]) fun _ _ _ _ _ _ us hl => match us, hl with | [_, _], _ => rfl
  have F_tof := fun_mk (st := s_Rule_total_of) l_tof c_tof k_tof
  have b_tof := F_tof.binds (ps := ["self", "counts"]) fun _ _ _ _ _ _ us hl => match us, hl with | [_, _], _ => rfl
  have F_hR := fun_mk (st := s_Rule_holds) l_hR c_hR k_hR
  have b_hR := F_hR.binds (ps := ["self", "counts"]) fun _ _ _ _ _ _ us hl => match us, hl with | [_, _], _ => rfl
  have F_kR := fun_mk (st := s_Rule_lacks) l_kR c_kR k_kR
  have b_kR := F_kR.binds (ps := ["self", "counts"]) fun _ _ _ _ _ _ us hl => match us, hl with | [_, _], _ => rfl
  have F_mof := fun_mk (st := s_Counts_of) l_mof c_mof k_mof
  have b_mof := F_mof.binds (ps := ["cls", "pairs"]) fun _ _ _ _ _ _ us hl => match us, hl with | [_, _], _ => rfl
  refine ⟨PySem.W.fnOf "law" "law" (defArgs s_law) (defBody s_law) (defScope s_law) .none kV_law dc_law pm_law an_law cd_law ct_law, fun s v => .of_eq rfl, fun base _ _ => ?_⟩
  have M := fun {x : Str} {v : Value} (a : PySem.W.nsIn K mainGlobals x = some (some v)) => PySem.W.mg_of X G a
  have FII : Def l.prog w K mg base CX0 1 "is_integer" ["thing"] (spIsInteger K) f_isint _ := ⟨ok_is_integer F_isint g, M a_isint, k_isint, b_isint⟩
  have FIW : Def l.prog w K mg base CX0 1 "is_word" ["thing"] (spIsWord K) f_isword _ := ⟨ok_is_word F_isword g (M a_LET), M a_isword, k_isword, b_isword⟩
  have FIS : Def l.prog w K mg base CX0 2 "is_small" ["thing"] (spIsSmall K) f_issmall _ := ⟨ok_is_small F_issmall g FII, M a_issmall, k_issmall, b_issmall⟩
  have FIP : Def l.prog w K mg base CX0 3 "is_pair" ["thing"] (spIsPair K) f_ispair _ := ⟨ok_is_pair F_ispair g FIW FIS, M a_ispair, k_ispair, b_ispair⟩
  have FSO : Def l.prog w K mg base CX0 1 "_law_source" ["_law_script"] (spSource K) f_source _ := ⟨ok_source F_source g, M a_source, k_source, b_source⟩
  have FDR : Def l.prog w K mg base CX0 2 "_law_draw" ["_law_source_here", "_law_size"] spDraw f_draw _ := ⟨ok_draw F_draw g F_mixed (M a_mixed) b_mixed, M a_draw, k_draw, b_draw⟩
  have FNU : Def l.prog w K mg base CX0 3 "_law_number" ["_law_source_here"] spNumber f_number _ := ⟨ok_number F_number g FDR, M a_number, k_number, b_number⟩
  have hRES : ResAt K rR := fun H => .inr ⟨_, _, _, t_RES, rfl, rfl, by show 16 ≤ sizeLine; decide, .cons ⟨tr0, rfl⟩ (.cons ⟨tr1, rfl⟩ (.cons ⟨tr2, rfl⟩ (.cons ⟨tr3, rfl⟩ (.cons ⟨tr4, rfl⟩ (.cons ⟨tr5, rfl⟩ (.cons ⟨tr6, rfl⟩ (.cons ⟨tr7, rfl⟩ (.cons ⟨tr8, rfl⟩ (.cons ⟨tr9, rfl⟩ (.cons ⟨tr10, rfl⟩ (.cons ⟨tr11, rfl⟩ (.cons ⟨tr12, rfl⟩ (.cons ⟨tr13, rfl⟩ (.cons ⟨tr14, rfl⟩ (.cons ⟨tr15, rfl⟩ (.nil))))))))))))))))⟩
  have FIK : Def l.prog w K mg base CX0 2 "is_kind" ["thing"] (spIsKind K) f_iskind _ := ⟨ok_is_kind F_iskind g FIW (M a_RES) hRES, M a_iskind, k_iskind, b_iskind⟩
  have FIB : Def l.prog w K mg base CX0 2 "is_bound" ["thing"] (spIsBound K) f_isbound _ := ⟨ok_is_bound F_isbound g FII, M a_isbound, k_isbound, b_isbound⟩
  have FDT : Def l.prog w K mg base CX0 1 "distinct" ["words"] (spDistinctT K) f_distinct _ := ⟨ok_distinctT F_distinct g, M a_distinct, k_distinct, b_distinct⟩
  have SG : SupG l.prog K mg := ⟨sg_top, PySem.W.mg_none_of X G z_super, sg_opq⟩
  have clal : Cls K cl_al := ⟨pg_al, hd_al, po_al, sa_al⟩
  have rcal : RC K cl_al := ⟨clal, nk_al, nl_al, nm_al⟩
  have fsal : FunS K "__init__" "AtLeast.__init__" s_AtLeast_init f_ial cd_ial cc_ial cl_al _ _ _ _ _ := ⟨⟨_, _, _, l_ial⟩, c_ial, ⟨_, _, _, e_ial⟩⟩
  have sdal : SupD l.prog K cd_ial cl_al := ⟨⟨_, _, _, _, _, _, o_ial, v_ial, p_ial⟩, is_al⟩
  have rual := ok_rule (P := l.prog) (w := w) (mg := mg) (base := base) (C := cl_al) g rcal FIK FDT l_iR c_iR
  have clam : Cls K cl_am := ⟨pg_am, hd_am, po_am, sa_am⟩
  have rcam : RC K cl_am := ⟨clam, nk_am, nl_am, nm_am⟩
  have fsam : FunS K "__init__" "AtMost.__init__" s_AtMost_init f_iam cd_iam cc_iam cl_am _ _ _ _ _ := ⟨⟨_, _, _, l_iam⟩, c_iam, ⟨_, _, _, e_iam⟩⟩
  have sdam : SupD l.prog K cd_iam cl_am := ⟨⟨_, _, _, _, _, _, o_iam, v_iam, p_iam⟩, is_am⟩
  have ruam := ok_rule (P := l.prog) (w := w) (mg := mg) (base := base) (C := cl_am) g rcam FIK FDT l_iR c_iR
  have clbt : Cls K cl_bt := ⟨pg_bt, hd_bt, po_bt, sa_bt⟩
  have rcbt : RC K cl_bt := ⟨clbt, nk_bt, nl_bt, nm_bt⟩
  have fsbt : FunS K "__init__" "Between.__init__" s_Between_init f_ibt cd_ibt cc_ibt cl_bt _ _ _ _ _ := ⟨⟨_, _, _, l_ibt⟩, c_ibt, ⟨_, _, _, e_ibt⟩⟩
  have sdbt : SupD l.prog K cd_ibt cl_bt := ⟨⟨_, _, _, _, _, _, o_ibt, v_ibt, p_ibt⟩, is_bt⟩
  have rubt := ok_rule (P := l.prog) (w := w) (mg := mg) (base := base) (C := cl_bt) g rcbt FIK FDT l_iR c_iR
  have clex : Cls K cl_ex := ⟨pg_ex, hd_ex, po_ex, sa_ex⟩
  have rcex : RC K cl_ex := ⟨clex, nk_ex, nl_ex, nm_ex⟩
  have fsex : FunS K "__init__" "Exactly.__init__" s_Exactly_init f_iex cd_iex cc_iex cl_ex _ _ _ _ _ := ⟨⟨_, _, _, l_iex⟩, c_iex, ⟨_, _, _, e_iex⟩⟩
  have sdex : SupD l.prog K cd_iex cl_ex := ⟨⟨_, _, _, _, _, _, o_iex, v_iex, p_iex⟩, is_ex⟩
  have ruex := ok_rule (P := l.prog) (w := w) (mg := mg) (base := base) (C := cl_ex) g rcex FIK FDT l_iR c_iR
  have NAL := ok_atleast1 g rcal FIB fsal SG sdal ⟨m_al_al, u_al_al, tf_R, fi_R⟩ rual
  have NAM := ok_atmost g rcam FIB fsam SG sdam ⟨m_am_am, u_am_am, tf_R, fi_R⟩ ruam
  have Nbt1 := ok_atmost g rcbt FIB fsam SG sdam ⟨m_bt_am, u_bt_am, tf_R, fi_R⟩ rubt
  have Nbt2 := ok_atleast2 g rcbt FIB fsal SG sdal ⟨m_bt_al, u_bt_al, tf_am, fi_am⟩ Nbt1
  have Nbt3 := ok_between g rcbt FIB fsbt SG sdbt ⟨m_bt_bt, u_bt_bt, tf_al, fi_al⟩ Nbt2
  have Nex1 := ok_atmost g rcex FIB fsam SG sdam ⟨m_ex_am, u_ex_am, tf_R, fi_R⟩ ruex
  have Nex2 := ok_atleast2 g rcex FIB fsal SG sdal ⟨m_ex_al, u_ex_al, tf_am, fi_am⟩ Nex1
  have Nex3 := ok_between g rcex FIB fsbt SG sdbt ⟨m_ex_bt, u_ex_bt, tf_al, fi_al⟩ Nex2
  have Nex4 := ok_exactly g fsex SG sdex ⟨m_ex_ex, u_ex_ex, tf_bt, fi_bt⟩ Nex3
  have WO : RWo K mg ⟨cl_R, cl_al, cl_am, cl_bt, cl_ex⟩ := ⟨M a_R, M a_al, M a_am, M a_bt, M a_ex, fun c => by cases c <;> assumption, fun c => by cases c; exact ⟨clal, ca_al, ch_R, ct_R, cm_al⟩; exact ⟨clam, ca_am, ch_R, ct_R, cm_am⟩; exact ⟨clbt, ca_bt, ch_R, ct_R, cm_bt⟩; exact ⟨clex, ca_ex, ch_R, ct_R, cm_ex⟩, fun c => by cases c; exact kitR_yes is_R ty_R sR_al; exact kitR_yes is_R ty_R sR_am; exact kitR_yes is_R ty_R sR_bt; exact kitR_yes is_R ty_R sR_ex, fun c d => by cases c <;> cases d; exact kitR_self; exact kitR_no is_am ty_am s_al_am ne_al_am; exact kitR_no is_bt ty_bt s_al_bt ne_al_bt; exact kitR_no is_ex ty_ex s_al_ex ne_al_ex; exact kitR_no is_al ty_al s_am_al ne_am_al; exact kitR_self; exact kitR_no is_bt ty_bt s_am_bt ne_am_bt; exact kitR_no is_ex ty_ex s_am_ex ne_am_ex; exact kitR_yes is_al ty_al s_bt_al; exact kitR_yes is_am ty_am s_bt_am; exact kitR_self; exact kitR_no is_ex ty_ex s_bt_ex ne_bt_ex; exact kitR_yes is_al ty_al s_ex_al; exact kitR_yes is_am ty_am s_ex_am; exact kitR_yes is_bt ty_bt s_ex_bt; exact kitR_self⟩
  have WM : RMk l.prog w K mg base ⟨cl_R, cl_al, cl_am, cl_bt, cl_ex⟩ := ⟨WO, ⟨_, ⟨mk_al, ai_al, if_al, kc_al⟩, FnR.up (FnR.less NAL (by decide)) (by decide)⟩, ⟨_, ⟨mk_am, ai_am, if_am, kc_am⟩, FnR.up (FnR.less NAM (by decide)) (by decide)⟩, ⟨_, ⟨mk_bt, ai_bt, if_bt, kc_bt⟩, FnR.up Nbt3 (by decide)⟩, ⟨_, ⟨mk_ex, ai_ex, if_ex, kc_ex⟩, Nex4⟩⟩
  have cl : Cls K C := ⟨pg_C, hd_C, po_C, sa_C⟩
  have ci : CI K C := ⟨cl, cc_C, ch_C, ct_C, cm_C⟩
  have T : CT l.prog w K mg base C f_init := ⟨cl, n_C_held, M a_C, ⟨mk_C, a_init, i_init, kc_C⟩, ok_init g cl n_C_held l_init c_init⟩
  have SGE : GDef l.prog w K mg base CX0 2 C "__getitem__" ["self", "word"] (spGet C) f_mget _ := ⟨⟨a_mget, i_mget⟩, fi_mget, ok_get F_mget g T FIW, b_mget⟩
  have EEQ : EDef l.prog w K mg base CX0 1 C ["self", "other"] (spEq C) f_meq _ := ⟨⟨a_meq, i_meq, ne_C, cm_C⟩, ok_eq F_meq g T ci, b_meq⟩
  have MOF : KDef l.prog w K mg base CX0 4 C (.type "type") "of" (spOf K C) q_mof f_mof := ⟨⟨rd_C, ga_C⟩, ⟨a_mof, ⟨_, rc_mof⟩, fi_mof⟩, fnR_of (ok_of F_mof g T FIP) b_mof⟩
  have Toal : MTo l.prog w K mg base ⟨cl_R, cl_al, cl_am, cl_bt, cl_ex⟩ .al C f_tof _ := ⟨⟨a_tof_al, i_tof, k_tof⟩, ok_total_of F_tof g WO T SGE, b_tof⟩
  have Toam : MTo l.prog w K mg base ⟨cl_R, cl_al, cl_am, cl_bt, cl_ex⟩ .am C f_tof _ := ⟨⟨a_tof_am, i_tof, k_tof⟩, ok_total_of F_tof g WO T SGE, b_tof⟩
  have Tobt : MTo l.prog w K mg base ⟨cl_R, cl_al, cl_am, cl_bt, cl_ex⟩ .bt C f_tof _ := ⟨⟨a_tof_bt, i_tof, k_tof⟩, ok_total_of F_tof g WO T SGE, b_tof⟩
  have Toex : MTo l.prog w K mg base ⟨cl_R, cl_al, cl_am, cl_bt, cl_ex⟩ .ex C f_tof _ := ⟨⟨a_tof_ex, i_tof, k_tof⟩, ok_total_of F_tof g WO T SGE, b_tof⟩
  have fshal : FunS K "holds" "AtLeast.holds" s_AtLeast_holds f_hal cd_hal cc_hal cl_al _ _ _ _ _ := ⟨⟨_, _, _, l_hal⟩, c_hal, ⟨_, _, _, e_hal⟩⟩
  have sdhal : SupD l.prog K cd_hal cl_al := ⟨⟨_, _, _, _, _, _, o_hal, v_hal, p_hal⟩, is_al⟩
  have Zhal : FnR l.prog w K mg base CX0 5 f_hR (spH ⟨cl_R, cl_al, cl_am, cl_bt, cl_ex⟩ .al C (fun _ => True) g0) := fnR_of (ok_holds0 F_hR g WO Toal) b_hR
  have fsham : FunS K "holds" "AtMost.holds" s_AtMost_holds f_ham cd_ham cc_ham cl_am _ _ _ _ _ := ⟨⟨_, _, _, l_ham⟩, c_ham, ⟨_, _, _, e_ham⟩⟩
  have sdham : SupD l.prog K cd_ham cl_am := ⟨⟨_, _, _, _, _, _, o_ham, v_ham, p_ham⟩, is_am⟩
  have Zham : FnR l.prog w K mg base CX0 5 f_hR (spH ⟨cl_R, cl_al, cl_am, cl_bt, cl_ex⟩ .am C (fun _ => True) g0) := fnR_of (ok_holds0 F_hR g WO Toam) b_hR
  have fshbt : FunS K "holds" "Between.holds" s_Between_holds f_hbt cd_hbt cc_hbt cl_bt _ _ _ _ _ := ⟨⟨_, _, _, l_hbt⟩, c_hbt, ⟨_, _, _, e_hbt⟩⟩
  have sdhbt : SupD l.prog K cd_hbt cl_bt := ⟨⟨_, _, _, _, _, _, o_hbt, v_hbt, p_hbt⟩, is_bt⟩
  have Zhbt : FnR l.prog w K mg base CX0 5 f_hR (spH ⟨cl_R, cl_al, cl_am, cl_bt, cl_ex⟩ .bt C (fun _ => True) g0) := fnR_of (ok_holds0 F_hR g WO Tobt) b_hR
  have fshex : FunS K "holds" "Exactly.holds" s_Exactly_holds f_hex cd_hex cc_hex cl_ex _ _ _ _ _ := ⟨⟨_, _, _, l_hex⟩, c_hex, ⟨_, _, _, e_hex⟩⟩
  have sdhex : SupD l.prog K cd_hex cl_ex := ⟨⟨_, _, _, _, _, _, o_hex, v_hex, p_hex⟩, is_ex⟩
  have Zhex : FnR l.prog w K mg base CX0 5 f_hR (spH ⟨cl_R, cl_al, cl_am, cl_bt, cl_ex⟩ .ex C (fun _ => True) g0) := fnR_of (ok_holds0 F_hR g WO Toex) b_hR
  have Yhal : FnR l.prog w K mg base CX0 6 f_hal (spH ⟨cl_R, cl_al, cl_am, cl_bt, cl_ex⟩ .al C (PMc .al) (gC .al)) := pass_H (ok_holds_al fshal SG sdhal ⟨m_al_al, uh_al_al, tf_hR, fi_hR⟩ Zhal)
  have Yham : FnR l.prog w K mg base CX0 6 f_ham (spH ⟨cl_R, cl_al, cl_am, cl_bt, cl_ex⟩ .am C (PMc .am) (gC .am)) := ok_holds_am WO Toam fsham SG sdham ⟨m_am_am, uh_am_am, tf_hR, fi_hR⟩ Zham
  have Yhbt : FnR l.prog w K mg base CX0 6 f_ham (spH ⟨cl_R, cl_al, cl_am, cl_bt, cl_ex⟩ .bt C (PMc .bt) (gC .bt)) := ok_holds_am WO Tobt fsham SG sdham ⟨m_bt_am, uh_bt_am, tf_hR, fi_hR⟩ Zhbt
  have Yhex : FnR l.prog w K mg base CX0 6 f_ham (spH ⟨cl_R, cl_al, cl_am, cl_bt, cl_ex⟩ .ex C (PMc .ex) (gC .ex)) := ok_holds_am WO Toex fsham SG sdham ⟨m_ex_am, uh_ex_am, tf_hR, fi_hR⟩ Zhex
  have Yhbt2 : FnR l.prog w K mg base CX0 7 f_hal (spH ⟨cl_R, cl_al, cl_am, cl_bt, cl_ex⟩ .bt C (PMc .bt) (gC .bt)) := pass_H (ok_holds_al fshal SG sdhal ⟨m_bt_al, uh_bt_al, tf_ham, fi_ham⟩ Yhbt)
  have Yhbt3 : FnR l.prog w K mg base CX0 8 f_hbt (spH ⟨cl_R, cl_al, cl_am, cl_bt, cl_ex⟩ .bt C (PMc .bt) (gC .bt)) := pass_H (ok_holds_bt fshbt SG sdhbt ⟨m_bt_bt, uh_bt_bt, tf_hal, fi_hal⟩ Yhbt2)
  have Yhex2 : FnR l.prog w K mg base CX0 7 f_hal (spH ⟨cl_R, cl_al, cl_am, cl_bt, cl_ex⟩ .ex C (PMc .ex) (gC .ex)) := pass_H (ok_holds_al fshal SG sdhal ⟨m_ex_al, uh_ex_al, tf_ham, fi_ham⟩ Yhex)
  have Yhex3 : FnR l.prog w K mg base CX0 8 f_hbt (spH ⟨cl_R, cl_al, cl_am, cl_bt, cl_ex⟩ .ex C (PMc .ex) (gC .ex)) := pass_H (ok_holds_bt fshbt SG sdhbt ⟨m_ex_bt, uh_ex_bt, tf_hal, fi_hal⟩ Yhex2)
  have Yhex4 : FnR l.prog w K mg base CX0 9 f_hex (spH ⟨cl_R, cl_al, cl_am, cl_bt, cl_ex⟩ .ex C (PMc .ex) (gC .ex)) := pass_H (ok_holds_ex fshex SG sdhex ⟨m_ex_ex, uh_ex_ex, tf_hbt, fi_hbt⟩ Yhex3)
  have Wh : MW l.prog w K mg base CX0 9 ⟨cl_R, cl_al, cl_am, cl_bt, cl_ex⟩ "holds" (fun c => spH ⟨cl_R, cl_al, cl_am, cl_bt, cl_ex⟩ c C (PMc c) (gC c)) := ⟨fun c => by cases c; exact ⟨_, clal, ⟨a_hal, i_hal, k_hal⟩, FnR.up Yhal (by decide)⟩; exact ⟨_, clam, ⟨a_ham, i_ham, k_ham⟩, FnR.up Yham (by decide)⟩; exact ⟨_, clbt, ⟨a_hbt, i_hbt, k_hbt⟩, FnR.up Yhbt3 (by decide)⟩; exact ⟨_, clex, ⟨a_hex, i_hex, k_hex⟩, FnR.up Yhex4 (by decide)⟩⟩
  have fskal : FunS K "lacks" "AtLeast.lacks" s_AtLeast_lacks f_kal cd_kal cc_kal cl_al _ _ _ _ _ := ⟨⟨_, _, _, l_kal⟩, c_kal, ⟨_, _, _, e_kal⟩⟩
  have sdkal : SupD l.prog K cd_kal cl_al := ⟨⟨_, _, _, _, _, _, o_kal, v_kal, p_kal⟩, is_al⟩
  have Zkal : FnR l.prog w K mg base CX0 5 f_kR (spL ⟨cl_R, cl_al, cl_am, cl_bt, cl_ex⟩ .al C (fun _ => True) k0) := fnR_of (ok_lacks0 F_kR g WO Toal) b_kR
  have fskam : FunS K "lacks" "AtMost.lacks" s_AtMost_lacks f_kam cd_kam cc_kam cl_am _ _ _ _ _ := ⟨⟨_, _, _, l_kam⟩, c_kam, ⟨_, _, _, e_kam⟩⟩
  have sdkam : SupD l.prog K cd_kam cl_am := ⟨⟨_, _, _, _, _, _, o_kam, v_kam, p_kam⟩, is_am⟩
  have Zkam : FnR l.prog w K mg base CX0 5 f_kR (spL ⟨cl_R, cl_al, cl_am, cl_bt, cl_ex⟩ .am C (fun _ => True) k0) := fnR_of (ok_lacks0 F_kR g WO Toam) b_kR
  have fskbt : FunS K "lacks" "Between.lacks" s_Between_lacks f_kbt cd_kbt cc_kbt cl_bt _ _ _ _ _ := ⟨⟨_, _, _, l_kbt⟩, c_kbt, ⟨_, _, _, e_kbt⟩⟩
  have sdkbt : SupD l.prog K cd_kbt cl_bt := ⟨⟨_, _, _, _, _, _, o_kbt, v_kbt, p_kbt⟩, is_bt⟩
  have Zkbt : FnR l.prog w K mg base CX0 5 f_kR (spL ⟨cl_R, cl_al, cl_am, cl_bt, cl_ex⟩ .bt C (fun _ => True) k0) := fnR_of (ok_lacks0 F_kR g WO Tobt) b_kR
  have fskex : FunS K "lacks" "Exactly.lacks" s_Exactly_lacks f_kex cd_kex cc_kex cl_ex _ _ _ _ _ := ⟨⟨_, _, _, l_kex⟩, c_kex, ⟨_, _, _, e_kex⟩⟩
  have sdkex : SupD l.prog K cd_kex cl_ex := ⟨⟨_, _, _, _, _, _, o_kex, v_kex, p_kex⟩, is_ex⟩
  have Zkex : FnR l.prog w K mg base CX0 5 f_kR (spL ⟨cl_R, cl_al, cl_am, cl_bt, cl_ex⟩ .ex C (fun _ => True) k0) := fnR_of (ok_lacks0 F_kR g WO Toex) b_kR
  have Ykal : FnR l.prog w K mg base CX0 6 f_kal (spL ⟨cl_R, cl_al, cl_am, cl_bt, cl_ex⟩ .al C (PMc .al) (kC .al)) := pass_L (ok_lacks_al fskal SG sdkal ⟨m_al_al, uk_al_al, tf_kR, fi_kR⟩ Zkal)
  have Ykam : FnR l.prog w K mg base CX0 6 f_kam (spL ⟨cl_R, cl_al, cl_am, cl_bt, cl_ex⟩ .am C (PMc .am) (kC .am)) := ok_lacks_am WO Toam fskam SG sdkam ⟨m_am_am, uk_am_am, tf_kR, fi_kR⟩ Zkam
  have Ykbt : FnR l.prog w K mg base CX0 6 f_kam (spL ⟨cl_R, cl_al, cl_am, cl_bt, cl_ex⟩ .bt C (PMc .bt) (kC .bt)) := ok_lacks_am WO Tobt fskam SG sdkam ⟨m_bt_am, uk_bt_am, tf_kR, fi_kR⟩ Zkbt
  have Ykex : FnR l.prog w K mg base CX0 6 f_kam (spL ⟨cl_R, cl_al, cl_am, cl_bt, cl_ex⟩ .ex C (PMc .ex) (kC .ex)) := ok_lacks_am WO Toex fskam SG sdkam ⟨m_ex_am, uk_ex_am, tf_kR, fi_kR⟩ Zkex
  have Ykbt2 : FnR l.prog w K mg base CX0 7 f_kal (spL ⟨cl_R, cl_al, cl_am, cl_bt, cl_ex⟩ .bt C (PMc .bt) (kC .bt)) := pass_L (ok_lacks_al fskal SG sdkal ⟨m_bt_al, uk_bt_al, tf_kam, fi_kam⟩ Ykbt)
  have Ykbt3 : FnR l.prog w K mg base CX0 8 f_kbt (spL ⟨cl_R, cl_al, cl_am, cl_bt, cl_ex⟩ .bt C (PMc .bt) (kC .bt)) := pass_L (ok_lacks_bt fskbt SG sdkbt ⟨m_bt_bt, uk_bt_bt, tf_kal, fi_kal⟩ Ykbt2)
  have Ykex2 : FnR l.prog w K mg base CX0 7 f_kal (spL ⟨cl_R, cl_al, cl_am, cl_bt, cl_ex⟩ .ex C (PMc .ex) (kC .ex)) := pass_L (ok_lacks_al fskal SG sdkal ⟨m_ex_al, uk_ex_al, tf_kam, fi_kam⟩ Ykex)
  have Ykex3 : FnR l.prog w K mg base CX0 8 f_kbt (spL ⟨cl_R, cl_al, cl_am, cl_bt, cl_ex⟩ .ex C (PMc .ex) (kC .ex)) := pass_L (ok_lacks_bt fskbt SG sdkbt ⟨m_ex_bt, uk_ex_bt, tf_kal, fi_kal⟩ Ykex2)
  have Ykex4 : FnR l.prog w K mg base CX0 9 f_kex (spL ⟨cl_R, cl_al, cl_am, cl_bt, cl_ex⟩ .ex C (PMc .ex) (kC .ex)) := pass_L (ok_lacks_ex fskex SG sdkex ⟨m_ex_ex, uk_ex_ex, tf_kbt, fi_kbt⟩ Ykex3)
  have Wk : MW l.prog w K mg base CX0 9 ⟨cl_R, cl_al, cl_am, cl_bt, cl_ex⟩ "lacks" (fun c => spL ⟨cl_R, cl_al, cl_am, cl_bt, cl_ex⟩ c C (PMc c) (kC c)) := ⟨fun c => by cases c; exact ⟨_, clal, ⟨a_kal, i_kal, k_kal⟩, FnR.up Ykal (by decide)⟩; exact ⟨_, clam, ⟨a_kam, i_kam, k_kam⟩, FnR.up Ykam (by decide)⟩; exact ⟨_, clbt, ⟨a_kbt, i_kbt, k_kbt⟩, FnR.up Ykbt3 (by decide)⟩; exact ⟨_, clex, ⟨a_kex, i_kex, k_kex⟩, FnR.up Ykex4 (by decide)⟩⟩
  have WT : MW l.prog w K mg base CX0 4 ⟨cl_R, cl_al, cl_am, cl_bt, cl_ex⟩ "total_of" (fun c => spTot ⟨cl_R, cl_al, cl_am, cl_bt, cl_ex⟩ c C) := ⟨fun c => by cases c; exact ⟨_, clal, Toal.me, fnR_of Toal.ok b_tof⟩; exact ⟨_, clam, Toam.me, fnR_of Toam.ok b_tof⟩; exact ⟨_, clbt, Tobt.me, fnR_of Tobt.ok b_tof⟩; exact ⟨_, clex, Toex.me, fnR_of Toex.ok b_tof⟩⟩
  have FKI : Def l.prog w K mg base CX0 3 "_law_kind" ["_law_source_here", "_law_taken"] spKind f_kind _ := ⟨ok_kind F_kind g FDR, M a_kind, k_kind, b_kind⟩
  have FKS : Def l.prog w K mg base CX0 4 "_law_kinds" ["_law_source_here", "_law_many"] spKinds f_kinds _ := ⟨ok_kinds F_kinds g FKI, M a_kinds, k_kinds, b_kinds⟩
  have FFO : Def l.prog w K mg base CX0 9 "_law_four" ["_law_low", "_law_high", "_law_kinds_here"] (spFour ⟨cl_R, cl_al, cl_am, cl_bt, cl_ex⟩) f_four _ := ⟨ok_four F_four g WM, M a_four, k_four, b_four⟩
  have FEN : Def l.prog w K mg base CX0 1 "_law_ends" ["_law_low", "_law_high"] spEnds f_ends _ := ⟨ok_ends F_ends g, M a_ends, k_ends, b_ends⟩
  have FLI : Def l.prog w K mg base CX0 1 "_law_is_integer" ["_law_thing"] (spIsInteger K) f_lint _ := ⟨ok_lint F_lint g, M a_lint, k_lint, b_lint⟩
  have FLK : Def l.prog w K mg base CX0 1 "_law_lacks" ["_law_total", "_law_ends_here"] spLk f_lk _ := ⟨ok_lk F_lk g, M a_lk, k_lk, b_lk⟩
  have FJU : Def l.prog w K mg base CX0 10 "_law_judged" ["_law_rule", "_law_ends_here", "_law_counts_here", "_law_total"] (spJudged ⟨cl_R, cl_al, cl_am, cl_bt, cl_ex⟩ C) f_judged _ := ⟨ok_judged F_judged g WO WT Wh Wk FLI FLK, M a_judged, k_judged, b_judged⟩
  have FCO : Def l.prog w K mg base CX0 4 "_law_counts" ["_law_source_here", "_law_kinds_here", "_law_other", "_law_low", "_law_high"] spCounts f_counts _ := ⟨ok_counts F_counts g FDR FNU, M a_counts, k_counts, b_counts⟩
  exact ok_law F_law g T FSO FDR FKI FKS FFO FEN FCO FJU MOF EEQ
theorem walk {l : PySem.W.OpenLaw} {q : Program} {loose : List Str} {XP : (Str → Option Value) → Heap → Prop} {YP : World → Heap → Prop} {d : DefRec} {K : Params → PySem.W.Frag} (hn : l.most = some 63) (hdf : d.params.defaults = [])
    (hY : ∀ (w : World) (h : Heap), YP w h → (K w.params).In h)
    (F : ∀ (w : World) (mg : Str → Option Value) (fa : Addr) (h : Heap), (K w.params).In h → h.Ns mainGlobals mg → mg d.name = some (.ref fa) →
      ∃ fd : FuncData, (∀ (s : Shared) (u : Value), BindsTo s fd ⟨[u], []⟩ [("_law_script", u)]) ∧ ∀ base : Heap, (K w.params).In base → base.Ns mainGlobals mg → FnOk l.prog w (K w.params) mg base CX0 11 fa fd ["_law_script"] (spLawR (K w.params))) :
    PySem.W.WalkO q loose XP YP l.row.toRowW d [] (fun f vs => PySem.call f vs) :=
  L2.walk_of (n := 63) (k := 11) (x := "_law_script") (CX := fun _ => CX0) (sp := fun w => spLawR (K w.params)) hn (by decide) hdf ⟨rfl, by decide, by decide⟩ hY F (fun _ _ a ns hl _ hS => ⟨a, ns, rfl, hS, hl, fun _ => rfl⟩) fun _ _ _ _ _ z => z
end Cs
open PySem PySem.W PyProof.Rows
set_option maxRecDepth 100000 in
set_option maxHeartbeats 0 in
theorem PySem.Challenge.cw_countsheld_k14_rules_hold_holds : PySem.Challenge.rw_countsheld_k14_rules_hold.Holds := by
  w_on; o_law; k_head; (case hw => w_witness2)
  k_fill
  refine Cs.walk (l := PySem.Challenge.rw_countsheld_k14_rules_hold) rfl rfl (fun w h Y => PySem.W.kIn_of Y) ?F
  case F =>
    intro w mg fa h KX G hmg
    refine' Cs.all_mk KX G hmg ?a_isint ?l_isint ?c_isint ?k_isint ?a_isword ?l_isword ?c_isword ?k_isword ?a_issmall ?l_issmall ?c_issmall ?k_issmall ?a_ispair ?l_ispair ?c_ispair ?k_ispair ?a_source ?l_source ?c_source ?k_source ?a_mixed ?l_mixed ?c_mixed ?k_mixed ?a_draw ?l_draw ?c_draw ?k_draw ?a_number ?l_number ?c_number ?k_number ?a_distinct ?l_distinct ?c_distinct ?k_distinct ?a_iskind ?l_iskind ?c_iskind ?k_iskind ?a_isbound ?l_isbound ?c_isbound ?k_isbound ?a_kind ?l_kind ?c_kind ?k_kind ?a_kinds ?l_kinds ?c_kinds ?k_kinds ?a_four ?l_four ?c_four ?k_four ?a_ends ?l_ends ?c_ends ?k_ends ?a_lint ?l_lint ?c_lint ?k_lint ?a_lk ?l_lk ?c_lk ?k_lk ?a_judged ?l_judged ?c_judged ?k_judged ?a_counts ?l_counts ?c_counts ?k_counts ?a_law ?l_law ?c_law ?k_law ?a_C ?pg_C ?hd_C ?po_C ?sa_C ?mk_C ?kc_C ?ns_C ?n_C_held ?sf_C ?cc_C ?ch_C ?ct_C ?cm_C ?ne_C ?a_init ?i_init ?l_init ?c_init ?k_init ?a_mget ?i_mget ?l_mget ?c_mget ?k_mget ?a_meq ?i_meq ?l_meq ?c_meq ?k_meq ?a_mof ?rc_mof ?l_mof ?c_mof ?fi_mof ?k_mof ?rd_C ?ga_C ?a_LET ?fi_mget ?a_R ?is_R ?ty_R ?ai_R ?l_iR ?c_iR ?tf_R ?fi_R ?a_al ?pg_al ?hd_al ?po_al ?sa_al ?mk_al ?kc_al ?nk_al ?nl_al ?nm_al ?ca_al ?cm_al ?is_al ?ty_al ?ai_al ?if_al ?l_ial ?c_ial ?e_ial ?o_ial ?v_ial ?p_ial ?tf_al ?fi_al ?a_am ?pg_am ?hd_am ?po_am ?sa_am ?mk_am ?kc_am ?nk_am ?nl_am ?nm_am ?ca_am ?cm_am ?is_am ?ty_am ?ai_am ?if_am ?l_iam ?c_iam ?e_iam ?o_iam ?v_iam ?p_iam ?tf_am ?fi_am ?a_bt ?pg_bt ?hd_bt ?po_bt ?sa_bt ?mk_bt ?kc_bt ?nk_bt ?nl_bt ?nm_bt ?ca_bt ?cm_bt ?is_bt ?ty_bt ?ai_bt ?if_bt ?l_ibt ?c_ibt ?e_ibt ?o_ibt ?v_ibt ?p_ibt ?tf_bt ?fi_bt ?a_ex ?pg_ex ?hd_ex ?po_ex ?sa_ex ?mk_ex ?kc_ex ?nk_ex ?nl_ex ?nm_ex ?ca_ex ?cm_ex ?is_ex ?ty_ex ?ai_ex ?if_ex ?l_iex ?c_iex ?e_iex ?o_iex ?v_iex ?p_iex ?tf_ex ?fi_ex ?ch_R ?ct_R ?sR_al ?s_al_am ?ne_al_am ?s_al_bt ?ne_al_bt ?s_al_ex ?ne_al_ex ?sR_am ?s_am_al ?ne_am_al ?s_am_bt ?ne_am_bt ?s_am_ex ?ne_am_ex ?sR_bt ?s_bt_al ?ne_bt_al ?s_bt_am ?ne_bt_am ?s_bt_ex ?ne_bt_ex ?sR_ex ?s_ex_al ?ne_ex_al ?s_ex_am ?ne_ex_am ?s_ex_bt ?ne_ex_bt ?m_al_al ?u_al_al ?m_am_am ?u_am_am ?m_bt_bt ?u_bt_bt ?m_bt_al ?u_bt_al ?m_bt_am ?u_bt_am ?m_ex_ex ?u_ex_ex ?m_ex_bt ?u_ex_bt ?m_ex_al ?u_ex_al ?m_ex_am ?u_ex_am ?sg_top ?z_super ?sg_opq ?a_RES ?t_RES ?a_tof_al ?a_tof_am ?a_tof_bt ?a_tof_ex ?i_tof ?l_tof ?c_tof ?k_tof ?a_hR_R ?i_hR ?l_hR ?c_hR ?k_hR ?tf_hR ?fi_hR ?a_hal ?i_hal ?k_hal ?l_hal ?c_hal ?e_hal ?o_hal ?v_hal ?p_hal ?tf_hal ?fi_hal ?a_ham ?i_ham ?k_ham ?l_ham ?c_ham ?e_ham ?o_ham ?v_ham ?p_ham ?tf_ham ?fi_ham ?a_hbt ?i_hbt ?k_hbt ?l_hbt ?c_hbt ?e_hbt ?o_hbt ?v_hbt ?p_hbt ?tf_hbt ?fi_hbt ?a_hex ?i_hex ?k_hex ?l_hex ?c_hex ?e_hex ?o_hex ?v_hex ?p_hex ?tf_hex ?fi_hex ?uh_al_al ?uh_am_am ?uh_bt_bt ?uh_bt_al ?uh_bt_am ?uh_ex_ex ?uh_ex_bt ?uh_ex_al ?uh_ex_am ?a_kR_R ?i_kR ?l_kR ?c_kR ?k_kR ?tf_kR ?fi_kR ?a_kal ?i_kal ?k_kal ?l_kal ?c_kal ?e_kal ?o_kal ?v_kal ?p_kal ?tf_kal ?fi_kal ?a_kam ?i_kam ?k_kam ?l_kam ?c_kam ?e_kam ?o_kam ?v_kam ?p_kam ?tf_kam ?fi_kam ?a_kbt ?i_kbt ?k_kbt ?l_kbt ?c_kbt ?e_kbt ?o_kbt ?v_kbt ?p_kbt ?tf_kbt ?fi_kbt ?a_kex ?i_kex ?k_kex ?l_kex ?c_kex ?e_kex ?o_kex ?v_kex ?p_kex ?tf_kex ?fi_kex ?uk_al_al ?uk_am_am ?uk_bt_bt ?uk_bt_al ?uk_bt_am ?uk_ex_ex ?uk_ex_bt ?uk_ex_al ?uk_ex_am ?z_len ?z_int ?z_abs ?z_list ?z_range ?z_sorted ?z_str ?z_isinstance ?z_sum ?z_tuple ?z_dict ?z_all ?z_bool ?z_enumerate
    (case a_isint => k_is)
    (case l_isint => k_is)
    (case c_isint => k_is)
    (case k_isint => k_is)
    (case a_isword => k_is)
    (case l_isword => k_is)
    (case c_isword => k_is)
    (case k_isword => k_is)
    (case a_issmall => k_is)
    (case l_issmall => k_is)
    (case c_issmall => k_is)
    (case k_issmall => k_is)
    (case a_ispair => k_is)
    (case l_ispair => k_is)
    (case c_ispair => k_is)
    (case k_ispair => k_is)
    (case a_source => k_is)
    (case l_source => k_is)
    (case c_source => k_is)
    (case k_source => k_is)
    (case a_mixed => k_is)
    (case l_mixed => k_is)
    (case c_mixed => k_is)
    (case k_mixed => k_is)
    (case a_draw => k_is)
    (case l_draw => k_is)
    (case c_draw => k_is)
    (case k_draw => k_is)
    (case a_number => k_is)
    (case l_number => k_is)
    (case c_number => k_is)
    (case k_number => k_is)
    (case a_distinct => k_is)
    (case l_distinct => k_is)
    (case c_distinct => k_is)
    (case k_distinct => k_is)
    (case a_iskind => k_is)
    (case l_iskind => k_is)
    (case c_iskind => k_is)
    (case k_iskind => k_is)
    (case a_isbound => k_is)
    (case l_isbound => k_is)
    (case c_isbound => k_is)
    (case k_isbound => k_is)
    (case a_kind => k_is)
    (case l_kind => k_is)
    (case c_kind => k_is)
    (case k_kind => k_is)
    (case a_kinds => k_is)
    (case l_kinds => k_is)
    (case c_kinds => k_is)
    (case k_kinds => k_is)
    (case a_four => k_is)
    (case l_four => k_is)
    (case c_four => k_is)
    (case k_four => k_is)
    (case a_ends => k_is)
    (case l_ends => k_is)
    (case c_ends => k_is)
    (case k_ends => k_is)
    (case a_lint => k_is)
    (case l_lint => k_is)
    (case c_lint => k_is)
    (case k_lint => k_is)
    (case a_lk => k_is)
    (case l_lk => k_is)
    (case c_lk => k_is)
    (case k_lk => k_is)
    (case a_judged => k_is)
    (case l_judged => k_is)
    (case c_judged => k_is)
    (case k_judged => k_is)
    (case a_counts => k_is)
    (case l_counts => k_is)
    (case c_counts => k_is)
    (case k_counts => k_is)
    (case a_law => k_is)
    (case l_law => k_is)
    (case c_law => k_is)
    (case k_law => k_is)
    (case a_C => k_is)
    (case pg_C => k_is)
    (case hd_C => k_is)
    (case po_C => k_is)
    (case sa_C => k_is)
    (case mk_C => k_is)
    (case kc_C => k_is)
    (case ns_C => k_is)
    (case n_C_held => k_is)
    (case sf_C => k_is)
    (case cc_C => k_is)
    (case ch_C => k_is)
    (case ct_C => k_is)
    (case cm_C => k_is)
    (case ne_C => k_is)
    (case a_init => k_is)
    (case i_init => k_is)
    (case l_init => k_is)
    (case c_init => k_is)
    (case k_init => k_is)
    (case a_mget => k_is)
    (case i_mget => k_is)
    (case l_mget => k_is)
    (case c_mget => k_is)
    (case k_mget => k_is)
    (case a_meq => k_is)
    (case i_meq => k_is)
    (case l_meq => k_is)
    (case c_meq => k_is)
    (case k_meq => k_is)
    (case a_mof => k_is)
    (case rc_mof => k_is)
    (case l_mof => k_is)
    (case c_mof => k_is)
    (case fi_mof => k_is)
    (case k_mof => k_is)
    (case rd_C => k_is)
    (case ga_C => k_is)
    (case a_LET => k_is)
    (case fi_mget => k_is)
    (case a_R => k_is)
    (case is_R => k_is)
    (case ty_R => k_is)
    (case ai_R => k_is)
    (case l_iR => k_is)
    (case c_iR => k_is)
    (case tf_R => k_is)
    (case fi_R => k_is)
    (case a_al => k_is)
    (case pg_al => k_is)
    (case hd_al => k_is)
    (case po_al => k_is)
    (case sa_al => k_is)
    (case mk_al => k_is)
    (case kc_al => k_is)
    (case nk_al => k_is)
    (case nl_al => k_is)
    (case nm_al => k_is)
    (case ca_al => k_is)
    (case cm_al => k_is)
    (case is_al => k_is)
    (case ty_al => k_is)
    (case ai_al => k_is)
    (case if_al => k_is)
    (case l_ial => k_is)
    (case c_ial => k_is)
    (case e_ial => k_is)
    (case o_ial => k_is)
    (case v_ial => rfl)
    (case p_ial => first | rfl | decide +kernel)
    (case tf_al => k_is)
    (case fi_al => k_is)
    (case a_am => k_is)
    (case pg_am => k_is)
    (case hd_am => k_is)
    (case po_am => k_is)
    (case sa_am => k_is)
    (case mk_am => k_is)
    (case kc_am => k_is)
    (case nk_am => k_is)
    (case nl_am => k_is)
    (case nm_am => k_is)
    (case ca_am => k_is)
    (case cm_am => k_is)
    (case is_am => k_is)
    (case ty_am => k_is)
    (case ai_am => k_is)
    (case if_am => k_is)
    (case l_iam => k_is)
    (case c_iam => k_is)
    (case e_iam => k_is)
    (case o_iam => k_is)
    (case v_iam => rfl)
    (case p_iam => first | rfl | decide +kernel)
    (case tf_am => k_is)
    (case fi_am => k_is)
    (case a_bt => k_is)
    (case pg_bt => k_is)
    (case hd_bt => k_is)
    (case po_bt => k_is)
    (case sa_bt => k_is)
    (case mk_bt => k_is)
    (case kc_bt => k_is)
    (case nk_bt => k_is)
    (case nl_bt => k_is)
    (case nm_bt => k_is)
    (case ca_bt => k_is)
    (case cm_bt => k_is)
    (case is_bt => k_is)
    (case ty_bt => k_is)
    (case ai_bt => k_is)
    (case if_bt => k_is)
    (case l_ibt => k_is)
    (case c_ibt => k_is)
    (case e_ibt => k_is)
    (case o_ibt => k_is)
    (case v_ibt => rfl)
    (case p_ibt => first | rfl | decide +kernel)
    (case tf_bt => k_is)
    (case fi_bt => k_is)
    (case a_ex => k_is)
    (case pg_ex => k_is)
    (case hd_ex => k_is)
    (case po_ex => k_is)
    (case sa_ex => k_is)
    (case mk_ex => k_is)
    (case kc_ex => k_is)
    (case nk_ex => k_is)
    (case nl_ex => k_is)
    (case nm_ex => k_is)
    (case ca_ex => k_is)
    (case cm_ex => k_is)
    (case is_ex => k_is)
    (case ty_ex => k_is)
    (case ai_ex => k_is)
    (case if_ex => k_is)
    (case l_iex => k_is)
    (case c_iex => k_is)
    (case e_iex => k_is)
    (case o_iex => k_is)
    (case v_iex => rfl)
    (case p_iex => first | rfl | decide +kernel)
    (case tf_ex => k_is)
    (case fi_ex => k_is)
    (case ch_R => k_is)
    (case ct_R => k_is)
    (case sR_al => k_is)
    (case s_al_am => k_is)
    (case ne_al_am => decide)
    (case s_al_bt => k_is)
    (case ne_al_bt => decide)
    (case s_al_ex => k_is)
    (case ne_al_ex => decide)
    (case sR_am => k_is)
    (case s_am_al => k_is)
    (case ne_am_al => decide)
    (case s_am_bt => k_is)
    (case ne_am_bt => decide)
    (case s_am_ex => k_is)
    (case ne_am_ex => decide)
    (case sR_bt => k_is)
    (case s_bt_al => k_is)
    (case ne_bt_al => decide)
    (case s_bt_am => k_is)
    (case ne_bt_am => decide)
    (case s_bt_ex => k_is)
    (case ne_bt_ex => decide)
    (case sR_ex => k_is)
    (case s_ex_al => k_is)
    (case ne_ex_al => decide)
    (case s_ex_am => k_is)
    (case ne_ex_am => decide)
    (case s_ex_bt => k_is)
    (case ne_ex_bt => decide)
    (case m_al_al => k_is)
    (case u_al_al => ks_is)
    (case m_am_am => k_is)
    (case u_am_am => ks_is)
    (case m_bt_bt => k_is)
    (case u_bt_bt => ks_is)
    (case m_bt_al => k_is)
    (case u_bt_al => ks_is)
    (case m_bt_am => k_is)
    (case u_bt_am => ks_is)
    (case m_ex_ex => k_is)
    (case u_ex_ex => ks_is)
    (case m_ex_bt => k_is)
    (case u_ex_bt => ks_is)
    (case m_ex_al => k_is)
    (case u_ex_al => ks_is)
    (case m_ex_am => k_is)
    (case u_ex_am => ks_is)
    (case sg_top => first | rfl | decide +kernel)
    (case z_super => k_is)
    (case sg_opq => k_is)
    (case a_RES => k_is)
    (case t_RES => k_is)
    (case a_tof_al => k_is)
    (case a_tof_am => k_is)
    (case a_tof_bt => k_is)
    (case a_tof_ex => k_is)
    (case i_tof => k_is)
    (case l_tof => k_is)
    (case c_tof => k_is)
    (case k_tof => k_is)
    (case a_hR_R => k_is)
    (case i_hR => k_is)
    (case l_hR => k_is)
    (case c_hR => k_is)
    (case k_hR => k_is)
    (case tf_hR => k_is)
    (case fi_hR => k_is)
    (case a_hal => k_is)
    (case i_hal => k_is)
    (case k_hal => k_is)
    (case l_hal => k_is)
    (case c_hal => k_is)
    (case e_hal => k_is)
    (case o_hal => k_is)
    (case v_hal => rfl)
    (case p_hal => first | rfl | decide +kernel)
    (case tf_hal => k_is)
    (case fi_hal => k_is)
    (case a_ham => k_is)
    (case i_ham => k_is)
    (case k_ham => k_is)
    (case l_ham => k_is)
    (case c_ham => k_is)
    (case e_ham => k_is)
    (case o_ham => k_is)
    (case v_ham => rfl)
    (case p_ham => first | rfl | decide +kernel)
    (case tf_ham => k_is)
    (case fi_ham => k_is)
    (case a_hbt => k_is)
    (case i_hbt => k_is)
    (case k_hbt => k_is)
    (case l_hbt => k_is)
    (case c_hbt => k_is)
    (case e_hbt => k_is)
    (case o_hbt => k_is)
    (case v_hbt => rfl)
    (case p_hbt => first | rfl | decide +kernel)
    (case tf_hbt => k_is)
    (case fi_hbt => k_is)
    (case a_hex => k_is)
    (case i_hex => k_is)
    (case k_hex => k_is)
    (case l_hex => k_is)
    (case c_hex => k_is)
    (case e_hex => k_is)
    (case o_hex => k_is)
    (case v_hex => rfl)
    (case p_hex => first | rfl | decide +kernel)
    (case tf_hex => k_is)
    (case fi_hex => k_is)
    (case uh_al_al => ks_is)
    (case uh_am_am => ks_is)
    (case uh_bt_bt => ks_is)
    (case uh_bt_al => ks_is)
    (case uh_bt_am => ks_is)
    (case uh_ex_ex => ks_is)
    (case uh_ex_bt => ks_is)
    (case uh_ex_al => ks_is)
    (case uh_ex_am => ks_is)
    (case a_kR_R => k_is)
    (case i_kR => k_is)
    (case l_kR => k_is)
    (case c_kR => k_is)
    (case k_kR => k_is)
    (case tf_kR => k_is)
    (case fi_kR => k_is)
    (case a_kal => k_is)
    (case i_kal => k_is)
    (case k_kal => k_is)
    (case l_kal => k_is)
    (case c_kal => k_is)
    (case e_kal => k_is)
    (case o_kal => k_is)
    (case v_kal => rfl)
    (case p_kal => first | rfl | decide +kernel)
    (case tf_kal => k_is)
    (case fi_kal => k_is)
    (case a_kam => k_is)
    (case i_kam => k_is)
    (case k_kam => k_is)
    (case l_kam => k_is)
    (case c_kam => k_is)
    (case e_kam => k_is)
    (case o_kam => k_is)
    (case v_kam => rfl)
    (case p_kam => first | rfl | decide +kernel)
    (case tf_kam => k_is)
    (case fi_kam => k_is)
    (case a_kbt => k_is)
    (case i_kbt => k_is)
    (case k_kbt => k_is)
    (case l_kbt => k_is)
    (case c_kbt => k_is)
    (case e_kbt => k_is)
    (case o_kbt => k_is)
    (case v_kbt => rfl)
    (case p_kbt => first | rfl | decide +kernel)
    (case tf_kbt => k_is)
    (case fi_kbt => k_is)
    (case a_kex => k_is)
    (case i_kex => k_is)
    (case k_kex => k_is)
    (case l_kex => k_is)
    (case c_kex => k_is)
    (case e_kex => k_is)
    (case o_kex => k_is)
    (case v_kex => rfl)
    (case p_kex => first | rfl | decide +kernel)
    (case tf_kex => k_is)
    (case fi_kex => k_is)
    (case uk_al_al => ks_is)
    (case uk_am_am => ks_is)
    (case uk_bt_bt => ks_is)
    (case uk_bt_al => ks_is)
    (case uk_bt_am => ks_is)
    (case uk_ex_ex => ks_is)
    (case uk_ex_bt => ks_is)
    (case uk_ex_al => ks_is)
    (case uk_ex_am => ks_is)
    (case z_len => k_is)
    (case z_int => k_is)
    (case z_abs => k_is)
    (case z_list => k_is)
    (case z_range => k_is)
    (case z_sorted => k_is)
    (case z_str => k_is)
    (case z_isinstance => k_is)
    (case z_sum => k_is)
    (case z_tuple => k_is)
    (case z_dict => k_is)
    (case z_all => k_is)
    (case z_bool => k_is)
    (case z_enumerate => k_is)
