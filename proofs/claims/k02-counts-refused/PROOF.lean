import PyProof.Rows.All
import Wide.All
import OpenK.AllK
import Wide.FinOn
import HandS.ForMost
import KE.KStateDown
import KE.KSuper
import HandS.Base
import HandS.Call
import HandS.ExcInit
import HandS.Defaults
import HandS.Words
import HandS.Head0
import HandS.Head1
import HandS.Head2
import HandS.HeadEnd
import HandS.HeadHook1
import HandS.HeadHook2
import HandS.Set
import HandS.SetBool
import PyProof.Rows.SortShellAny
import KE.KOpsOwn
import HandS.Star
import HandS.ClsMeth
import HandS.Property
import HandS.CallRecv
import HandS.Codes
import HandS.Wide
import HandS.IsInst
import HandS.RaiseMore
import HandS.Walk
import HandS.ListItems
import HandS.DictComp
import HandS.FStr
import PyProof.ListStr
import KE.KParD
import HandS.TryOnly
import HandS.WordsExc
import HandS.ExcOwn
import HandS.ExcIs
import HandS.ExcField
import HandS.HotCalls
import HandS.MakeKwOnly
import HandS.TryMany
import HandS.Exc
import HandS.Style
import PySem.Challenge.RW_countsheld_k02_counts_refused
set_option Elab.async false
set_option linter.all false
set_option maxRecDepth 100000
set_option maxHeartbeats 4000000
namespace Cs
open PySem L2
def top (i : Nat) : Stmt := PySem.Challenge.pw_countsheld_k02_counts_refused.main.body.getD i (.Pass ⟨0, 0, 0, 0⟩)
abbrev s_BadWord_init : Stmt := inClass (top 3) 0
theorem sc_BadWord_init : FnScope ["self", "word"] ["self", "word"] (defScope s_BadWord_init) :=
  ⟨rfl, rfl, rfl, by decide +kernel, rfl, by decide +kernel, by decide +kernel⟩
abbrev s_BadNumber_init : Stmt := inClass (top 4) 0
theorem sc_BadNumber_init : FnScope ["self", "number"] ["self", "number"] (defScope s_BadNumber_init) :=
  ⟨rfl, rfl, rfl, by decide +kernel, rfl, by decide +kernel, by decide +kernel⟩
abbrev s_BadCounts_init : Stmt := inClass (top 5) 0
theorem sc_BadCounts_init : FnScope ["self", "at"] ["self", "at"] (defScope s_BadCounts_init) :=
  ⟨rfl, rfl, rfl, by decide +kernel, rfl, by decide +kernel, by decide +kernel⟩
abbrev s_NoDivisor_init : Stmt := inClass (top 6) 0
theorem sc_NoDivisor_init : FnScope ["self", "word"] ["self", "word"] (defScope s_NoDivisor_init) :=
  ⟨rfl, rfl, rfl, by decide +kernel, rfl, by decide +kernel, by decide +kernel⟩
abbrev s_is_integer : Stmt := top 8
theorem sc_is_integer : FnScope ["thing"] ["thing"] (defScope s_is_integer) :=
  ⟨rfl, rfl, rfl, by decide +kernel, rfl, by decide +kernel, by decide +kernel⟩
abbrev s_is_word : Stmt := top 11
theorem sc_is_word : FnScope ["thing", "sign"] ["thing"] (defScope s_is_word) :=
  ⟨rfl, rfl, rfl, by decide +kernel, rfl, by decide +kernel, by decide +kernel⟩
abbrev s_is_small : Stmt := top 12
theorem sc_is_small : FnScope ["thing"] ["thing"] (defScope s_is_small) :=
  ⟨rfl, rfl, rfl, by decide +kernel, rfl, by decide +kernel, by decide +kernel⟩
abbrev s_distinct : Stmt := top 13
theorem sc_distinct : FnScope ["words", "word"] ["words"] (defScope s_distinct) :=
  ⟨rfl, rfl, rfl, by decide +kernel, rfl, by decide +kernel, by decide +kernel⟩
abbrev s_is_pair : Stmt := top 15
theorem sc_is_pair : FnScope ["thing"] ["thing"] (defScope s_is_pair) :=
  ⟨rfl, rfl, rfl, by decide +kernel, rfl, by decide +kernel, by decide +kernel⟩
abbrev s_joint_words : Stmt := top 16
theorem sc_joint_words : FnScope ["one", "other"] ["one", "other"] (defScope s_joint_words) :=
  ⟨rfl, rfl, rfl, by decide +kernel, rfl, by decide +kernel, by decide +kernel⟩
abbrev s_Counts_init : Stmt := inClass (top 17) 0
theorem sc_Counts_init : FnScope ["self", "pairs", "numbers", "word", "held", "number"] ["self", "pairs", "numbers"] (defScope s_Counts_init) :=
  ⟨rfl, rfl, rfl, by decide +kernel, rfl, by decide +kernel, by decide +kernel⟩
abbrev s_Counts_of : Stmt := inClass (top 17) 1
theorem sc_Counts_of : FnScope ["cls", "pairs", "at", "pair"] ["cls", "pairs"] (defScope s_Counts_of) :=
  ⟨rfl, rfl, rfl, by decide +kernel, rfl, by decide +kernel, by decide +kernel⟩
abbrev s_Counts_words : Stmt := inClass (top 17) 3
theorem sc_Counts_words : FnScope ["self"] ["self"] (defScope s_Counts_words) :=
  ⟨rfl, rfl, rfl, by decide +kernel, rfl, by decide +kernel, by decide +kernel⟩
abbrev s_Counts_pairs : Stmt := inClass (top 17) 4
theorem sc_Counts_pairs : FnScope ["self", "word"] ["self"] (defScope s_Counts_pairs) :=
  ⟨rfl, rfl, rfl, by decide +kernel, rfl, by decide +kernel, by decide +kernel⟩
abbrev s_Counts_getitem : Stmt := inClass (top 17) 9
theorem sc_Counts_getitem : FnScope ["self", "word"] ["self", "word"] (defScope s_Counts_getitem) :=
  ⟨rfl, rfl, rfl, by decide +kernel, rfl, by decide +kernel, by decide +kernel⟩
abbrev s_Counts_setitem : Stmt := inClass (top 17) 10
theorem sc_Counts_setitem : FnScope ["self", "word", "number"] ["self", "word", "number"] (defScope s_Counts_setitem) :=
  ⟨rfl, rfl, rfl, by decide +kernel, rfl, by decide +kernel, by decide +kernel⟩
abbrev s_Counts_iter : Stmt := inClass (top 17) 11
theorem sc_Counts_iter : FnScope ["self"] ["self"] (defScope s_Counts_iter) :=
  ⟨rfl, rfl, rfl, by decide +kernel, rfl, by decide +kernel, by decide +kernel⟩
abbrev s_Counts_contains : Stmt := inClass (top 17) 12
theorem sc_Counts_contains : FnScope ["self", "word"] ["self", "word"] (defScope s_Counts_contains) :=
  ⟨rfl, rfl, rfl, by decide +kernel, rfl, by decide +kernel, by decide +kernel⟩
abbrev s_Counts_len : Stmt := inClass (top 17) 13
theorem sc_Counts_len : FnScope ["self"] ["self"] (defScope s_Counts_len) :=
  ⟨rfl, rfl, rfl, by decide +kernel, rfl, by decide +kernel, by decide +kernel⟩
abbrev s_Counts_bool : Stmt := inClass (top 17) 14
theorem sc_Counts_bool : FnScope ["self"] ["self"] (defScope s_Counts_bool) :=
  ⟨rfl, rfl, rfl, by decide +kernel, rfl, by decide +kernel, by decide +kernel⟩
abbrev s_Counts_eq : Stmt := inClass (top 17) 15
theorem sc_Counts_eq : FnScope ["self", "other"] ["self", "other"] (defScope s_Counts_eq) :=
  ⟨rfl, rfl, rfl, by decide +kernel, rfl, by decide +kernel, by decide +kernel⟩
abbrev s_Counts_le : Stmt := inClass (top 17) 16
theorem sc_Counts_le : FnScope ["self", "other", "word"] ["self", "other"] (defScope s_Counts_le) :=
  ⟨rfl, rfl, rfl, by decide +kernel, rfl, by decide +kernel, by decide +kernel⟩
abbrev s_Counts_lt : Stmt := inClass (top 17) 17
theorem sc_Counts_lt : FnScope ["self", "other"] ["self", "other"] (defScope s_Counts_lt) :=
  ⟨rfl, rfl, rfl, by decide +kernel, rfl, by decide +kernel, by decide +kernel⟩
abbrev s_Counts_add : Stmt := inClass (top 17) 18
theorem sc_Counts_add : FnScope ["self", "other", "pairs"] ["self", "other"] (defScope s_Counts_add) :=
  ⟨rfl, rfl, rfl, by decide +kernel, rfl, by decide +kernel, by decide +kernel⟩
abbrev s_Counts_neg : Stmt := inClass (top 17) 19
theorem sc_Counts_neg : FnScope ["self", "pairs", "word"] ["self"] (defScope s_Counts_neg) :=
  ⟨rfl, rfl, rfl, by decide +kernel, rfl, by decide +kernel, by decide +kernel⟩
abbrev s_Counts_abs : Stmt := inClass (top 17) 20
theorem sc_Counts_abs : FnScope ["self", "pairs", "word"] ["self"] (defScope s_Counts_abs) :=
  ⟨rfl, rfl, rfl, by decide +kernel, rfl, by decide +kernel, by decide +kernel⟩
abbrev s_Counts_sub : Stmt := inClass (top 17) 21
theorem sc_Counts_sub : FnScope ["self", "other", "pairs", "word"] ["self", "other"] (defScope s_Counts_sub) :=
  ⟨rfl, rfl, rfl, by decide +kernel, rfl, by decide +kernel, by decide +kernel⟩
abbrev s_Counts_and : Stmt := inClass (top 17) 22
theorem sc_Counts_and : FnScope ["self", "other", "pairs", "word"] ["self", "other"] (defScope s_Counts_and) :=
  ⟨rfl, rfl, rfl, by decide +kernel, rfl, by decide +kernel, by decide +kernel⟩
abbrev s_Counts_or : Stmt := inClass (top 17) 23
theorem sc_Counts_or : FnScope ["self", "other", "pairs", "word"] ["self", "other"] (defScope s_Counts_or) :=
  ⟨rfl, rfl, rfl, by decide +kernel, rfl, by decide +kernel, by decide +kernel⟩
abbrev s_Counts_xor : Stmt := inClass (top 17) 24
theorem sc_Counts_xor : FnScope ["self", "other"] ["self", "other"] (defScope s_Counts_xor) :=
  ⟨rfl, rfl, rfl, by decide +kernel, rfl, by decide +kernel, by decide +kernel⟩
abbrev s_Counts_mul : Stmt := inClass (top 17) 25
theorem sc_Counts_mul : FnScope ["self", "times", "pairs", "word"] ["self", "times"] (defScope s_Counts_mul) :=
  ⟨rfl, rfl, rfl, by decide +kernel, rfl, by decide +kernel, by decide +kernel⟩
abbrev s_Counts_rmul : Stmt := inClass (top 17) 26
theorem sc_Counts_rmul : FnScope ["self", "times"] ["self", "times"] (defScope s_Counts_rmul) :=
  ⟨rfl, rfl, rfl, by decide +kernel, rfl, by decide +kernel, by decide +kernel⟩
abbrev s_Counts_floordiv : Stmt := inClass (top 17) 27
theorem sc_Counts_floordiv : FnScope ["self", "other", "word"] ["self", "other"] (defScope s_Counts_floordiv) :=
  ⟨rfl, rfl, rfl, by decide +kernel, rfl, by decide +kernel, by decide +kernel⟩
abbrev s_Counts_mod : Stmt := inClass (top 17) 28
theorem sc_Counts_mod : FnScope ["self", "other", "times"] ["self", "other"] (defScope s_Counts_mod) :=
  ⟨rfl, rfl, rfl, by decide +kernel, rfl, by decide +kernel, by decide +kernel⟩
abbrev s_Counts_iadd : Stmt := inClass (top 17) 29
theorem sc_Counts_iadd : FnScope ["self", "other", "result"] ["self", "other"] (defScope s_Counts_iadd) :=
  ⟨rfl, rfl, rfl, by decide +kernel, rfl, by decide +kernel, by decide +kernel⟩
abbrev s_Counts_isub : Stmt := inClass (top 17) 30
theorem sc_Counts_isub : FnScope ["self", "other", "result"] ["self", "other"] (defScope s_Counts_isub) :=
  ⟨rfl, rfl, rfl, by decide +kernel, rfl, by decide +kernel, by decide +kernel⟩
abbrev s_Counts_iand : Stmt := inClass (top 17) 31
theorem sc_Counts_iand : FnScope ["self", "other", "result"] ["self", "other"] (defScope s_Counts_iand) :=
  ⟨rfl, rfl, rfl, by decide +kernel, rfl, by decide +kernel, by decide +kernel⟩
abbrev s_Counts_ior : Stmt := inClass (top 17) 32
theorem sc_Counts_ior : FnScope ["self", "other", "result"] ["self", "other"] (defScope s_Counts_ior) :=
  ⟨rfl, rfl, rfl, by decide +kernel, rfl, by decide +kernel, by decide +kernel⟩
abbrev s_Counts_imul : Stmt := inClass (top 17) 33
theorem sc_Counts_imul : FnScope ["self", "times", "result"] ["self", "times"] (defScope s_Counts_imul) :=
  ⟨rfl, rfl, rfl, by decide +kernel, rfl, by decide +kernel, by decide +kernel⟩
abbrev s_Counts_repr : Stmt := inClass (top 17) 34
theorem sc_Counts_repr : FnScope ["self", "parts", "inside", "word"] ["self"] (defScope s_Counts_repr) :=
  ⟨rfl, rfl, rfl, by decide +kernel, rfl, by decide +kernel, by decide +kernel⟩
abbrev s_l_source : Stmt := top 19
theorem sc_l_source : FnScope ["_law_script"] ["_law_script"] (defScope s_l_source) :=
  ⟨rfl, rfl, rfl, by decide +kernel, rfl, by decide +kernel, by decide +kernel⟩
abbrev s_l_mixed : Stmt := top 20
theorem sc_l_mixed : FnScope ["_law_cell", "_law_count", "_law_first"] ["_law_cell", "_law_count"] (defScope s_l_mixed) :=
  ⟨rfl, rfl, rfl, by decide +kernel, rfl, by decide +kernel, by decide +kernel⟩
abbrev s_l_draw : Stmt := top 21
theorem sc_l_draw : FnScope ["_law_source_here", "_law_size", "_law_at", "_law_cell", "_law_value"] ["_law_source_here", "_law_size"] (defScope s_l_draw) :=
  ⟨rfl, rfl, rfl, by decide +kernel, rfl, by decide +kernel, by decide +kernel⟩
abbrev s_l_word : Stmt := top 22
theorem sc_l_word : FnScope ["_law_source_here", "_law_words", "_law_word_here", "_law_k"] ["_law_source_here"] (defScope s_l_word) :=
  ⟨rfl, rfl, rfl, by decide +kernel, rfl, by decide +kernel, by decide +kernel⟩
abbrev s_l_number : Stmt := top 23
theorem sc_l_number : FnScope ["_law_source_here", "_law_mode", "_law_number_here", "_law_k"] ["_law_source_here"] (defScope s_l_number) :=
  ⟨rfl, rfl, rfl, by decide +kernel, rfl, by decide +kernel, by decide +kernel⟩
abbrev s_l_pairs : Stmt := top 24
theorem sc_l_pairs : FnScope ["_law_source_here", "_law_most", "_law_pairs_here", "_law_k", "_law_word_here"] ["_law_source_here", "_law_most"] (defScope s_l_pairs) :=
  ⟨rfl, rfl, rfl, by decide +kernel, rfl, by decide +kernel, by decide +kernel⟩
abbrev s_l_model : Stmt := top 25
theorem sc_l_model : FnScope ["_law_pairs_here", "_law_model_here", "_law_word_here", "_law_number_here"] ["_law_pairs_here"] (defScope s_l_model) :=
  ⟨rfl, rfl, rfl, by decide +kernel, rfl, by decide +kernel, by decide +kernel⟩
abbrev s_l_told : Stmt := top 26
theorem sc_l_told : FnScope ["_law_model_here", "_law_words", "_law_word_here"] ["_law_model_here"] (defScope s_l_told) :=
  ⟨rfl, rfl, rfl, by decide +kernel, rfl, by decide +kernel, by decide +kernel⟩
abbrev s_l_is_integer : Stmt := top 27
theorem sc_l_is_integer : FnScope ["_law_thing"] ["_law_thing"] (defScope s_l_is_integer) :=
  ⟨rfl, rfl, rfl, by decide +kernel, rfl, by decide +kernel, by decide +kernel⟩
abbrev s_l_equal : Stmt := top 28
theorem sc_l_equal : FnScope ["_law_counts", "_law_model_here", "_law_told_here", "_law_pair"] ["_law_counts", "_law_model_here"] (defScope s_l_equal) :=
  ⟨rfl, rfl, rfl, by decide +kernel, rfl, by decide +kernel, by decide +kernel⟩
abbrev s_l_wrong_entry : Stmt := top 29
theorem sc_l_wrong_entry : FnScope ["_law_choice", "_law_entries"] ["_law_choice"] (defScope s_l_wrong_entry) :=
  ⟨rfl, rfl, rfl, by decide +kernel, rfl, by decide +kernel, by decide +kernel⟩
abbrev s_l_no_word : Stmt := top 30
theorem sc_l_no_word : FnScope ["_law_choice"] ["_law_choice"] (defScope s_l_no_word) :=
  ⟨rfl, rfl, rfl, by decide +kernel, rfl, by decide +kernel, by decide +kernel⟩
abbrev s_l_no_number : Stmt := top 31
theorem sc_l_no_number : FnScope ["_law_choice"] ["_law_choice"] (defScope s_l_no_number) :=
  ⟨rfl, rfl, rfl, by decide +kernel, rfl, by decide +kernel, by decide +kernel⟩
abbrev s_l_same : Stmt := top 32
theorem sc_l_same : FnScope ["_law_actual", "_law_wanted"] ["_law_actual", "_law_wanted"] (defScope s_l_same) :=
  ⟨rfl, rfl, rfl, by decide +kernel, rfl, by decide +kernel, by decide +kernel⟩
abbrev s_l_list_refused : Stmt := top 33
theorem sc_l_list_refused : FnScope ["_law_thing", "_law_at", "e"] ["_law_thing", "_law_at"] (defScope s_l_list_refused) :=
  ⟨rfl, rfl, rfl, by decide +kernel, rfl, by decide +kernel, by decide +kernel⟩
abbrev s_l_reading : Stmt := top 34
theorem sc_l_reading : FnScope ["_law_counts", "_law_word_here", "_law_number_here", "e"] ["_law_counts", "_law_word_here"] (defScope s_l_reading) :=
  ⟨rfl, rfl, rfl, by decide +kernel, rfl, by decide +kernel, by decide +kernel⟩
abbrev s_l_setting : Stmt := top 35
theorem sc_l_setting : FnScope ["_law_counts", "_law_word_here", "_law_number_here", "_law_known", "e"] ["_law_counts", "_law_word_here", "_law_number_here", "_law_known"] (defScope s_l_setting) :=
  ⟨rfl, rfl, rfl, by decide +kernel, rfl, by decide +kernel, by decide +kernel⟩
abbrev s_l_by_name : Stmt := top 36
theorem sc_l_by_name : FnScope ["_law_wrong", "_law_good", "_law_first", "_law_second", "_law_third", "e"] ["_law_wrong", "_law_good"] (defScope s_l_by_name) :=
  ⟨rfl, rfl, rfl, by decide +kernel, rfl, by decide +kernel, by decide +kernel⟩
abbrev s_law : Stmt := top 37
theorem sc_law : FnScope ["_law_script", "_law_source_here", "_law_many", "_law_choices", "_law_odd", "_law_good", "_law_pairs_here", "_law_things", "_law_first", "_law_k", "_law_at", "_law_counts", "_law_word_here", "_law_number_here"] ["_law_script"] (defScope s_law) :=
  ⟨rfl, rfl, rfl, by decide +kernel, rfl, by decide +kernel, by decide +kernel⟩
end Cs

set_option Elab.async false
set_option linter.all false
set_option maxRecDepth 100000
set_option maxHeartbeats 4000000
/-! The head by one kernel run: what the top has left, told by a list of tests and by the defs' objects. -/
namespace Cs
open PySem PySem.Spec PyProof.Rows L2
abbrev FrgT := PySem.W.Frag
/-- what an object of the top names (nothing of codes, of the classes above) -/
def refsK (o : Obj) : List Addr := match o.data with
  | .dict es _ => es.toList.flatMap fun e => He.refV e.val
  | .func fd => He.refV fd.code ++ (He.refV fd.defaults ++ (He.refV fd.kwdefaults ++ fd.closure.map (·.2)))
  | .cls cd => [cd.ns]
  | .seq its _ => its.toList.flatMap He.refV
  | .fields vs => (match o.cls with
    | .type t => if t = "code" then [] else vs.toList.flatMap He.refV
    | _ => [])
  | _ => []
def stepK (g : Addr → Option Obj) (as : List Addr) : List Addr := as.flatMap fun a => match g a with
  | some o => refsK o
  | none => []
def asK (g : Addr → Option Obj) : Nat → List Addr → List Addr
  | 0, as => as
  | n + 1, as => as ++ asK g n (stepK g as)
def KG (n : Nat) (g : Addr → Option Obj) : FrgT := He.frG g (cStatics :: asK g n [mainGlobals])
theorem KG_in {n : Nat} {h : Heap} : (KG n h.get?).In h := He.frG_in
abbrev FnT : Type := Option (Str × Str × Arguments × FuncBody × Scope × Addr × List Str × Addr)
def fnT (K : FrgT) (a : Addr) : FnT := match K.lookup a with
  | some ⟨_, _, .func fd, _⟩ => some (fd.name, fd.qualname, fd.params, fd.body, fd.scope, fd.globals, fd.closure.map (·.1), fd.builtins)
  | _ => none
/-- a def: its address by the top's names, its names, its statement, the names of its cells -/
structure FnA where
  at_ : FrgT → Addr
  name : Str
  qual : Str
  st : Stmt
  cl : List Str
  df : Bool := false
def FnA.val (d : FnA) : FnT := some (d.name, d.qual, defArgs d.st, .stmts (defBody d.st), defScope d.st, mainGlobals, d.cl, builtinsNs)
def noneB : Value → Bool
  | .none => true
  | _ => false
theorem noneB_ok {v : Value} (h : noneB v = true) : v = .none := by
  cases v with
  | none => rfl
  | _ => cases h
/-- no defaults (unless df); its code object -/
def fnB (K : FrgT) (a : Addr) (q : Str) (df : Bool) : Bool := match K.lookup a with
  | some ⟨_, _, .func fd, _⟩ => (df || noneB fd.defaults) && PySem.W.codeIn K fd.code q
  | _ => false
abbrev AlK : Type := Bool × List FnT
def obsK (cks : List (FrgT → Bool)) (fns : List FnA) (K : FrgT) : AlK := ((cks.all fun f => f K) && fns.all fun d => fnB K (d.at_ K) d.qual d.df, fns.map fun d => fnT K (d.at_ K))
def valK (fns : List FnA) : AlK := (true, fns.map FnA.val)
def SaysK (cks : List (FrgT → Bool)) (fns : List FnA) (K : FrgT) : Prop := obsK cks fns K = valK fns
def obsKG (n : Nat) (cks : List (FrgT → Bool)) (fns : List FnA) (g : Addr → Option Obj) : AlK := obsK cks fns (KG n g)
def hookK (n : Nat) (cks : List (FrgT → Bool)) (fns : List FnA) : PySem.W.Hook where
  α := AlK
  obs := fun s => obsKG n cks fns s.heap.get?
  val := fun _ => valK fns
  says := fun _ h => ∃ K : FrgT, K.In h ∧ SaysK cks fns K
  of := fun _ _ e => ⟨_, KG_in, e⟩
  keeps := fun _ _ _ ⟨K, hK, c⟩ k => ⟨K, PySem.W.Frag.In.keeps hK k, c⟩
theorem obsKG_eq {n : Nat} {cks : List (FrgT → Bool)} {fns : List FnA} {g : Addr → Option Obj} {s : Shared} (h : ∀ a, g a = s.heap.get? a) : obsKG n cks fns g = (hookK n cks fns).obs s := by
  have e : g = s.heap.get? := funext h
  rw [e] <;> rfl
theorem obsK_join {c1 c2 : List (FrgT → Bool)} {f1 f2 : List FnA} {K : FrgT} (h1 : obsK c1 f1 K = valK f1) (h2 : obsK c2 f2 K = valK f2) : obsK (c1 ++ c2) (f1 ++ f2) K = valK (f1 ++ f2) := by
  unfold obsK valK at h1 h2 ⊢
  injection h1 with a1 b1
  injection h2 with a2 b2
  obtain ⟨p1, q1⟩ := Bool.and_eq_true_iff.mp a1
  obtain ⟨p2, q2⟩ := Bool.and_eq_true_iff.mp a2
  rw [List.all_append, List.all_append, List.map_append, List.map_append, p1, p2, q1, q2, b1, b2]
  rfl
/-- a run told in two parts -/
theorem run_join {r : PySem.W.OpenRow} {q : Program} {n M : Nat} {loose : List Str} {w : World} {c1 c2 : List (FrgT → Bool)} {f1 f2 : List FnA} (h1 : HandSHeadRun.RunEq r q (hookK n c1 f1) (fun s => obsKG n c1 f1 (HandSHeadRun.getT s)) M loose w) (h2 : HandSHeadRun.RunEq r q (hookK n c2 f2) (fun s => obsKG n c2 f2 (HandSHeadRun.getT s)) M loose w) :
    HandSHeadRun.RunEq r q (hookK n (c1 ++ c2) (f1 ++ f2)) (fun s => obsKG n (c1 ++ c2) (f1 ++ f2) (HandSHeadRun.getT s)) M loose w := by
  intro os
  have a := h1 os
  have b := h2 os
  generalize HandSHeadRun.endF (HandSHeadRun.stepQ (HandSHeadRun.denQ HandSHeadRun.tabQ) r.prog w) M r.prog w os = o at a b ⊢
  cases o with
  | none => cases a
  | some s =>
    have a := Option.some.inj a
    have b := Option.some.inj b
    have a1 := congrArg Prod.fst a
    have a2 := congrArg (fun x => x.2.1) a
    have a3 := congrArg (fun x => x.2.2) a
    have b3 := congrArg (fun x => x.2.2) b
    exact congrArg some (Prod.ext a1 (Prod.ext a2 (obsK_join a3 b3)))
section
variable {cks : List (FrgT → Bool)} {fns : List FnA} {K : FrgT}
theorem SaysK.ck (c : SaysK cks fns K) (i : Nat) {f : FrgT → Bool} (h : cks[i]? = some f := by rfl) : f K = true := by
  have c1 := (Bool.and_eq_true_iff.mp (show ((cks.all fun f => f K) && fns.all fun d => fnB K (d.at_ K) d.qual d.df) = true from congrArg (fun z : AlK => z.1) c)).1
  exact List.all_eq_true.mp c1 f (List.mem_of_getElem? h)
theorem SaysK.fb (c : SaysK cks fns K) (i : Nat) {d : FnA} (h : fns[i]? = some d) : fnB K (d.at_ K) d.qual d.df = true := by
  have c1 := (Bool.and_eq_true_iff.mp (show ((cks.all fun f => f K) && fns.all fun d => fnB K (d.at_ K) d.qual d.df) = true from congrArg (fun z : AlK => z.1) c)).2
  exact List.all_eq_true.mp c1 d (List.mem_of_getElem? h)
theorem SaysK.ft (c : SaysK cks fns K) (i : Nat) {d : FnA} (h : fns[i]? = some d) : fnT K (d.at_ K) = d.val := by
  have e : (fns.map fun d => fnT K (d.at_ K)) = fns.map FnA.val := congrArg (fun z : AlK => z.2) c
  have e2 : (fns.map fun d => fnT K (d.at_ K))[i]? = (fns.map FnA.val)[i]? := by rw [e]
  rw [List.getElem?_map, List.getElem?_map, h] at e2
  exact Option.some.inj e2
theorem fn_gen {d : FnA} (e : fnT K (d.at_ K) = d.val) (c : fnB K (d.at_ K) d.qual d.df = true) : ∃ oc od osl cl dV kV doc pm an cdv ct, cl.map (·.1) = d.cl ∧ K.lookup (d.at_ K) = some ⟨oc, od, .func (PySem.W.fnX d.name d.qual (defArgs d.st) (defBody d.st) (defScope d.st) cl dV kV doc pm an cdv ct), osl⟩ ∧ PySem.W.codeIn K cdv d.qual = true ∧ (d.df = false → dV = .none) := by
  unfold fnT at e
  unfold fnB at c
  cases q : K.lookup (d.at_ K) with
  | none =>
    rw [q] at c
    cases c
  | some o =>
    obtain ⟨oc, od, dt, osl⟩ := o
    rw [q] at c e
    cases dt with
    | func fd =>
      obtain ⟨n1, n2, n3, n4, n5, n6, n7, n8, n9, n10, n11, n12, n13, n14, n15⟩ := fd
      have e2 : (some (n1, n2, n3, n4, n5, n6, n7.map (·.1), n15) : FnT) = some (d.name, d.qual, defArgs d.st, .stmts (defBody d.st), defScope d.st, mainGlobals, d.cl, builtinsNs) := e
      simp only [Option.some.injEq, Prod.mk.injEq] at e2
      obtain ⟨h1, h2, h3, h4, h5, h6, h7, h8⟩ := e2
      obtain ⟨c1, c2⟩ := Bool.and_eq_true_iff.mp (show ((d.df || noneB n8) && PySem.W.codeIn K n13 d.qual) = true from c)
      subst h1 h2 h3 h4 h5 h6 h8
      refine ⟨oc, od, osl, n7, n8, n9, n10, n11, n12, n13, n14, h7, rfl, c2, fun h => ?_⟩
      rw [h, Bool.false_or] at c1
      exact noneB_ok c1
    | _ => cases c
theorem fn_any {d : FnA} (hd : d.df = false) (e : fnT K (d.at_ K) = d.val) (c : fnB K (d.at_ K) d.qual d.df = true) : ∃ oc od osl cl kV doc pm an cdv ct, cl.map (·.1) = d.cl ∧ K.lookup (d.at_ K) = some ⟨oc, od, .func (PySem.W.fnX d.name d.qual (defArgs d.st) (defBody d.st) (defScope d.st) cl .none kV doc pm an cdv ct), osl⟩ ∧ PySem.W.codeIn K cdv d.qual = true := by
  obtain ⟨oc, od, osl, cl, dV, kV, doc, pm, an, cdv, ct, e1, l, k, z⟩ := fn_gen e c
  obtain rfl := z hd
  exact ⟨oc, od, osl, cl, kV, doc, pm, an, cdv, ct, e1, l, k⟩
theorem SaysK.fn (c : SaysK cks fns K) (i : Nat) {d : FnA} (h : fns[i]? = some d) (hc : d.cl = []) (hd : d.df = false := by rfl) : ∃ oc od osl kV doc pm an cdv ct, K.lookup (d.at_ K) = some ⟨oc, od, .func (PySem.W.fnOf d.name d.qual (defArgs d.st) (defBody d.st) (defScope d.st) .none kV doc pm an cdv ct), osl⟩ ∧ PySem.W.codeIn K cdv d.qual = true := by
  obtain ⟨oc, od, osl, cl, kV, doc, pm, an, cdv, ct, e, l, k⟩ := fn_any hd (c.ft i h) (c.fb i h)
  rw [hc] at e
  obtain rfl := List.map_eq_nil_iff.mp e
  exact ⟨oc, od, osl, kV, doc, pm, an, cdv, ct, l, k⟩
/-- a def with defaults -/
theorem SaysK.fnD (c : SaysK cks fns K) (i : Nat) {d : FnA} (h : fns[i]? = some d) (hc : d.cl = []) : ∃ oc od osl dV kV doc pm an cdv ct, K.lookup (d.at_ K) = some ⟨oc, od, .func (PySem.W.fnOf d.name d.qual (defArgs d.st) (defBody d.st) (defScope d.st) dV kV doc pm an cdv ct), osl⟩ ∧ PySem.W.codeIn K cdv d.qual = true := by
  obtain ⟨oc, od, osl, cl, dV, kV, doc, pm, an, cdv, ct, e, l, k, _⟩ := fn_gen (c.ft i h) (c.fb i h)
  rw [hc] at e
  obtain rfl := List.map_eq_nil_iff.mp e
  exact ⟨oc, od, osl, dV, kV, doc, pm, an, cdv, ct, l, k⟩
def dflL (K : FrgT) (a : Addr) : Option (List Value) := match K.lookup a with
  | some ⟨_, _, .func fd, _⟩ => (match fd.defaults with
    | .ref T => (match K.lookup T with
      | some ⟨_, _, .seq its _, _⟩ => some its.toList
      | _ => none)
    | _ => none)
  | _ => none
def dflA (K : FrgT) (a : Addr) : Addr := match dflL K a with
  | some (.ref e :: _) => e
  | _ => 0
def relB : V → Value → Bool
  | .ref a, .ref b => decide (a = b)
  | .non, .none => true
  | _, _ => false
theorem relB_ok {x : V} {u : Value} (h : relB x u = true) : RelV x u := by
  unfold relB at h
  split at h
  · rw [of_decide_eq_true h]; rfl
  · rfl
  · cases h
def relsB : List V → List Value → Bool
  | [], [] => true
  | x :: xs, u :: us => relB x u && relsB xs us
  | _, _ => false
theorem relsB_ok : ∀ {xs : List V} {us : List Value}, relsB xs us = true → Vals xs us
  | [], [], _ => .nil
  | x :: xs, u :: us, h => by
    obtain ⟨h1, h2⟩ := Bool.and_eq_true_iff.mp (show (relB x u && relsB xs us) = true from h)
    exact .cons (relB_ok h1) (relsB_ok h2)
  | [], _ :: _, h => by cases h
  | _ :: _, [], h => by cases h
def dflB (K : FrgT) (a : Addr) (ds : List V) : Bool := !ds.isEmpty && match dflL K a with
  | some us => relsB ds us
  | none => false
theorem dflB_ok {a : Addr} {ds : List V} {oc : Value} {od : Option Addr} {fd : FuncData} {sl : Array (Option Value)} (h : dflB K a ds = true) (l : K.lookup a = some ⟨oc, od, .func fd, sl⟩) : DflV K fd.defaults ds := by
  obtain ⟨h1, h2⟩ := Bool.and_eq_true_iff.mp h
  unfold dflL at h2
  rw [l] at h2
  dsimp only at h2
  refine .inr ⟨(fun e => by rw [e] at h1; cases h1), ?_⟩
  generalize fd.defaults = dv at h2
  split at h2
  · rename_i us eu
    split at eu
    · rename_i T
      split at eu
      · rename_i o1 o2 its n o3 eo
        cases eu
        exact ⟨T, _, its.toList, n, rfl, eo, by rw [Array.toArray_toList], relsB_ok h2⟩
      · cases eu
    · cases eu
  · cases h2
/-- the empty tuple -/
def nilB (K : FrgT) (e : Addr) : Bool := match K.lookup e with
  | some ⟨.type t, _, .seq its _, _⟩ => decide (t = "tuple") && its.toList.isEmpty
  | _ => false
theorem nilB_ok {e : Addr} (h : nilB K e = true) : ∀ H : Hp, SqT K H e [] := fun H => by
  unfold nilB at h
  split at h
  · rename_i t dd its n sl l
    obtain ⟨h1, h2⟩ := Bool.and_eq_true_iff.mp h
    obtain rfl := of_decide_eq_true h1
    have e2 : its.toList = [] := List.isEmpty_iff.mp h2
    have e3 : its.size = 0 := by rw [← Array.length_toList, e2]; rfl
    exact .inr ⟨_, its, n, l, rfl, rfl, by rw [e3]; exact Nat.zero_le _, by rw [e2]; exact .nil⟩
  · cases h
/-- the cell of the class, the file of the code -/
def cellB (K : FrgT) (cl : List (Str × Addr)) (C : Addr) : Bool := match cl with
  | [(_, cc)] => (match K.lookup cc with
    | some ⟨_, _, .cell (some (.ref D)), _⟩ => decide (D = C)
    | _ => false)
  | _ => false
def fileB (K : FrgT) (cdv : Value) (file : Str) : Bool := match cdv with
  | .ref cd => (match K.lookup cd with
    | some ⟨_, _, .fields vs, _⟩ => (match (vs[2]? : Option Value) with
      | some (.str z _) => file == z
      | _ => false)
    | _ => false)
  | _ => false
theorem cellB_ok {z : Str} {cc C : Addr} (h : cellB K [(z, cc)] C = true) : ∃ cl cld csl, K.lookup cc = some ⟨cl, cld, .cell (some (.ref C)), csl⟩ := by
  unfold cellB at h
  dsimp only at h
  split at h
  · rename_i hl
    rw [of_decide_eq_true h] at hl
    exact ⟨_, _, _, hl⟩
  · cases h
theorem fileB_ok {cdv : Value} {file : Str} (h : fileB K cdv file = true) : ∃ cd, cdv = .ref cd ∧ ∃ ccl cdd vs ccs fl tf, K.lookup cd = some ⟨ccl, cdd, .fields vs, ccs⟩ ∧ vs[2]? = some (.str fl tf) ∧ (file == fl) = true := by
  unfold fileB at h
  split at h
  · rename_i cd
    split at h
    · rename_i hl
      split at h
      · rename_i hv
        exact ⟨cd, rfl, _, _, _, _, _, _, hl, hv, h⟩
      · cases h
    · cases h
  · cases h
def supB (K : FrgT) (a C : Addr) (file : Str) : Bool := match K.lookup a with
  | some ⟨_, _, .func fd, _⟩ => cellB K fd.closure C && fileB K fd.code file
  | _ => false
theorem SaysK.fs (c : SaysK cks fns K) (i : Nat) {d : FnA} {C : Addr} {file : Str} (h : fns[i]? = some d) (hc : d.cl = ([(("__class__" : String) : Str)] : List Str)) (hs : supB K (d.at_ K) C file = true) (hd : d.df = false := by rfl) : ∃ oc od osl kV doc pm an cda ct cc, K.lookup (d.at_ K) = some ⟨oc, od, .func (PySem.W.ksFn d.name d.qual (defArgs d.st) (defBody d.st) (defScope d.st) .none kV doc pm an (.ref cda) ct cc), osl⟩ ∧ PySem.W.codeIn K (.ref cda) d.qual = true ∧
    (∃ cl cld csl, K.lookup cc = some ⟨cl, cld, .cell (some (.ref C)), csl⟩) ∧ ∃ ccl cdd vs ccs fl tf, K.lookup cda = some ⟨ccl, cdd, .fields vs, ccs⟩ ∧ vs[2]? = some (.str fl tf) ∧ (file == fl) = true := by
  obtain ⟨oc, od, osl, cl, kV, doc, pm, an, cdv, ct, e, l, k⟩ := fn_any hd (c.ft i h) (c.fb i h)
  rw [hc] at e
  match cl, e with
  | [(z, cc)], e =>
    obtain rfl : z = "__class__" := (List.cons.inj e).1
    unfold supB at hs
    rw [l] at hs
    obtain ⟨h1, h2⟩ := Bool.and_eq_true_iff.mp (show (cellB K [(("__class__" : Str), cc)] C && fileB K cdv file) = true from hs)
    obtain ⟨cd, rfl, h3⟩ := fileB_ok h2
    exact ⟨oc, od, osl, kV, doc, pm, an, cd, ct, cc, l, k, cellB_ok h1, h3⟩
end
/-! ### own errors, classmethods, texts and tuples of the top -/
def exoB (K : FrgT) (C : Addr) : Bool := match K.lookup C with
  | some ⟨.type t, _, .cls cd, sl⟩ => decide (t = "type") && (match cd.mro, sl.toList with
    | .ref D :: bm, [_, _, _, _, some (.builtin n), _] => decide (D = C) && (decide (n = "ValueError.__new__") && (cd.hasDict && (!cd.hasDel && PySem.HandSPX.refsVE bm)))
    | _, _ => false)
  | _ => false
theorem exoB_ok {K : FrgT} {C : Addr} (h : exoB K C = true) : ∃ nm q N bs bm sn sub ab col dd k0 k1 k2 k3 k5, K.lookup C = some (excClassObj nm q C N bs bm true sn sub ab col dd k0 k1 k2 k3 k5 "ValueError.__new__") ∧ PySem.HandSPX.refsVE bm = true := by
  unfold exoB at h
  split at h
  · rename_i t dd cd sl hl
    obtain ⟨h1, h2⟩ := Bool.and_eq_true_iff.mp h
    obtain rfl := of_decide_eq_true h1
    split at h2
    · rename_i D bm k0 k1 k2 k3 n k5 hm hs
      obtain ⟨h3, h4⟩ := Bool.and_eq_true_iff.mp h2
      obtain ⟨h5, h6⟩ := Bool.and_eq_true_iff.mp h4
      obtain ⟨h7, h8⟩ := Bool.and_eq_true_iff.mp h6
      obtain ⟨h9, h10⟩ := Bool.and_eq_true_iff.mp h8
      obtain rfl := of_decide_eq_true h3
      obtain rfl := of_decide_eq_true h5
      obtain ⟨nm, bs, mro, ns, qn, hd, sn, sb, ab, col, del⟩ := cd
      have hm2 : mro = .ref D :: bm := hm
      have h72 : hd = true := h7
      have h92 : (!del) = true := h9
      clear hm h7 h9 h6 h8 h4 h2 h
      subst hm2 h72
      cases del with
      | true => cases h92
      | false =>
      have es : sl = #[k0, k1, k2, k3, some (.builtin "ValueError.__new__"), k5] := by
        rw [← Array.toList_inj, hs]
      subst es
      exact ⟨nm, qn, ns, bs, bm, sn, sb, ab, col, dd, k0, k1, k2, k3, k5, hl, h10⟩
    · cases h2
  · cases h
/-- a text of the top -/
def strB (K : FrgT) (x z : Str) : Bool := match PySem.W.nsIn K mainGlobals x with
  | some (some (.str y _)) => decide (y = z)
  | _ => false
theorem strB_ok {K : FrgT} {x z : Str} (h : strB K x z = true) : ∃ tk, PySem.W.nsIn K mainGlobals x = some (some (.str z tk)) := by
  unfold strB at h
  split at h
  · rename_i y tk e
    rw [of_decide_eq_true h] at e
    exact ⟨tk, e⟩
  · cases h
/-- a classmethod of the class: the descriptor, the def behind it -/
def cmQ (K : FrgT) (C : Addr) (m : Str) : Addr := match PySem.W.findIn K (.ref C) m with
  | some (some (.ref q)) => q
  | _ => 0
def cmF (K : FrgT) (C : Addr) (m : Str) (T : String) : Addr := match PySem.W.recIn K (cmQ K C m) T with
  | some (.ref f :: _) => f
  | _ => 0
def cmR (K : FrgT) (C : Addr) (m : Str) (T : String) : List Value := match PySem.W.recIn K (cmQ K C m) T with
  | some (_ :: r) => r
  | _ => []
def cmB (K : FrgT) (C : Addr) (m : Str) : Bool := match PySem.W.findCls K (.ref C) (.type "type") m with
  | some (.get a b c d) => decide (a = .builtin "classmethod.__get__") && (decide (b = .ref (cmQ K C m)) && (decide (c = .none) && decide (d = .ref C)))
  | _ => false
theorem cmB_ok {K : FrgT} {C : Addr} {m : Str} (h : cmB K C m = true) : PySem.W.findCls K (.ref C) (.type "type") m = some (.get (.builtin "classmethod.__get__") (.ref (cmQ K C m)) .none (.ref C)) := by
  unfold cmB at h
  split at h
  · rename_i a b c d e
    obtain ⟨h1, h2⟩ := Bool.and_eq_true_iff.mp h
    obtain ⟨h3, h4⟩ := Bool.and_eq_true_iff.mp h2
    obtain ⟨h5, h6⟩ := Bool.and_eq_true_iff.mp h4
    rw [of_decide_eq_true h1, of_decide_eq_true h3, of_decide_eq_true h5, of_decide_eq_true h6] at e
    exact e
  · cases h
theorem tup_at {K : FrgT} {x : Str} {zs : List Str} (h : He.tupB K x (zs.map He.Dv.str) = true) : ∀ H : Hp, SqT K H (He.ga K x) (zs.map V.str) := fun H => by
  have z := He.tupB_ok h H
  rw [List.map_map] at z
  exact z
end Cs

set_option Elab.async false
set_option linter.all false
set_option maxRecDepth 100000
set_option maxHeartbeats 4000000
/-! Sets of texts as a set comprehension makes them: a list of members without repeats, up to order; and sorted(..) of such a set. -/
namespace Cs
open PySem PySem.Spec PyProof.Rows L2

def tkey (e : Int × Value) : Str := match e.2 with | .str z _ => z | _ => Str.empty
def TGood (w : World) (e : Int × Value) : Prop := ∃ z tk, e.2 = Value.str z tk ∧ e.1 = hashStr w z
/-- a set object whose members are the texts zs (in some order) -/
def TSet (w : World) (h : Heap) (a : Addr) (zs : List Str) : Prop :=
  ∃ o es ep t, h.get? a = some o ∧ o.ExactSet ∧ o.data = .set es ep t ∧ (∀ e ∈ es.toList, TGood w e)
    ∧ (es.toList.map tkey).Perm zs ∧ zs.Nodup ∧ es.size < scanBound ∧ t.fits es.size = true
    ∧ Ris t.place.toList ∧ (w.params.followText "set-order" = true ∨ t.led = true)

section
variable {P : Program} {w : World} {h h' : Heap} {a : Addr} {zs : List Str}
theorem TSet.there (R : TSet w h a zs) (k : ∀ o, h.get? a = some o → h'.get? a = some o) : TSet w h' a zs := by
  obtain ⟨o, es, ep, t, q, r⟩ := R
  exact ⟨o, es, ep, t, k o q, r⟩
theorem TGood.elems {l : List (Int × Value)} (g : ∀ e ∈ l, TGood w e) : ElemsOf (PySem.strKind P w) l := fun e m => by
  obtain ⟨z, tk, e1, e2⟩ := g e m
  refine ⟨⟨z, ?_, e2⟩, ?_⟩
  · rw [e1]
    show Value.isStrOf z (.str z tk) = true
    simp [Value.isStrOf]
  · rw [e1]
    rfl
theorem TGood.is_iff {e : Int × Value} (g : TGood w e) (z : Str) : (PySem.strKind P w).is z e.2 = true ↔ tkey e = z := by
  obtain ⟨y, tk, e1, _⟩ := g
  unfold tkey
  rw [e1]
  show Value.isStrOf z (.str y tk) = true ↔ y = z
  simp [Value.isStrOf]
theorem TGood.mem_iff {l : List (Int × Value)} (g : ∀ e ∈ l, TGood w e) (z : Str) : z ∈ l.map tkey ↔ ∃ e ∈ l, (PySem.strKind P w).is z e.2 = true := by
  constructor
  · intro m
    obtain ⟨e, he, q⟩ := List.mem_map.mp m
    exact ⟨e, he, (TGood.is_iff (g e he) z).mpr q⟩
  · rintro ⟨e, he, q⟩
    exact List.mem_map.mpr ⟨e, he, (TGood.is_iff (g e he) z).mp q⟩
end

section
variable {P : Program} {w : World} {A : Around} {E : Value → Shared → Prop} {s : Shared} {a : Addr} {zs : List Str}
/-- the end of an addition: the table is stored, laid anew where it is too full -/
theorem tset_tail {g : Bool → Sem Unit} (hg : ∀ (b : Bool) (s1 : Shared) (Q1 : Unit → Shared → Prop), Q1 () s1 → wpAny (model P w) A (g b) Q1 E s1)
    {o : Obj} {es es1 : Array (Int × Value)} {ep : Nat} {t t1 : SetTable} (ho : s.heap.get? a = some o) (hex : o.ExactSet) (hd : o.data = .set es ep t)
    (gd : ∀ e ∈ es1.toList, TGood w e) (pz : (es1.toList.map tkey).Perm zs) (nz : zs.Nodup) (hb : es1.size < scanBound) (hf : t1.fits es1.size = true)
    (hr : Ris t1.place.toList) (hl : w.params.followText "set-order" = true ∨ t1.led = true) {dm : Bool} {R : Option Bool → Shared → Prop}
    (hR : ∀ h', Heap.SameBut a s.heap h' → TSet w h' a zs → R (some true) { s with heap := h' }) :
    wpAny (model P w) A (do
        storeSet a es1 t1
        if (!dm && t1.tooFull) = true then do
            g (relayAll t1 es1 (SetTable.grown es1.size)).2.2
            storeSet a (relayAll t1 es1 (SetTable.grown es1.size)).1 (relayAll t1 es1 (SetTable.grown es1.size)).2.1
            pure (some true)
          else pure (some true)) R E s := by
  refine wpAny_bind (wpAny_storeSet_of ho hd ?_ (fits_of_scanBound hb))
  have ho1 := store_at (es' := es1) (t' := t1) ho hd
  have same := Heap.SameBut.update s.heap a (Obj.putSet es1 t1)
  split
  · have p2 := relayAll_perm t1 es1 (SetTable.grown es1.size)
    have f2 := relayAll_fits t1 es1 (SetTable.grown es1.size)
    have r2 := relayAll_ris t1 es1 (SetTable.grown es1.size)
    have l2 := relayAll_led t1 es1 (SetTable.grown es1.size)
    generalize relayAll t1 es1 (SetTable.grown es1.size) = Z at p2 f2 r2 l2 ⊢
    obtain ⟨es2, t2, gv⟩ := Z
    dsimp only at p2 f2 r2 l2 ⊢
    have sz : es2.size = es1.size := by rw [← Array.length_toList, p2.length_eq, Array.length_toList]
    have hb2 : es2.size < scanBound := sz ▸ hb
    refine wpAny_bind (hg _ _ _ (wpAny_bind (wpAny_storeSet_of ho1 rfl ?_ (fits_of_scanBound hb2))))
    have ho2 := store_at (es' := es2) (t' := t2) ho1 rfl
    exact wpAny_pure (hR _ (same.trans (Heap.SameBut.update _ a _)) ⟨_, es2, _, t2, ho2, hex, rfl, fun e m => gd e (p2.mem_iff.mp m), (p2.map tkey).trans pz, nz, hb2, f2, r2, hl.imp id fun q => by rw [l2]; exact q⟩)
  · exact wpAny_pure (hR _ same ⟨_, es1, _, t1, ho1, hex, rfl, gd, pz, nz, hb, hf, hr, hl⟩)

/-- one text more -/
def addT (zs : List Str) (z : Str) : List Str := if z ∈ zs then zs else zs ++ [z]

theorem tset_hashed {z : Str} {tk : Tok} {Q : Bool → Shared → Prop} (R : TSet w s.heap a zs) (room : zs.length + 1 < scanBound)
    (hQ : ∀ b h', Heap.SameBut a s.heap h' → TSet w h' a (addT zs z) → Q b { s with heap := h' }) :
    wpAny (model P w) A (setAddHashed a (.str z tk) ((PySem.strKind P w).hash z)) Q E s := by
  obtain ⟨o, es, ep, t, ho, hex, hd, gd, pz, nz, hb, hf, hr, hl⟩ := R
  have hkey : (PySem.strKind P w).is z (.str z tk) = true := by
    show Value.isStrOf z (.str z tk) = true
    simp [Value.isStrOf]
  have hsc : (Value.str z tk).scannable = true := rfl
  have hel : ElemsOf (PySem.strKind P w) es.toList := TGood.elems gd
  have hn : es.size = zs.length := by rw [← Array.length_toList, ← pz.length_eq, List.length_map]
  unfold setAddHashed setAddHashedIn
  refine wpAny_holding (wpAny_bind (wpAny_setState_of ho hd hf ?_))
  dsimp only
  rw [byScan_of hsc hb hel]
  simp only [↓reduceIte]
  unfold setAddByScan
  refine wpAny_bind (wpAny_bind (wpAny_rule (wpAny_bind (wpAny_setScan_of hkey ho hd hf hel ?_))))
  cases hfi : List.findIdx? (fun e => (PySem.strKind P w).is z e.2) es.toList with
  | some j =>
    dsimp only
    obtain ⟨hj, pj, _⟩ := List.findIdx?_eq_some_iff_getElem.mp hfi
    have hin : z ∈ zs := pz.mem_iff.mp ((TGood.mem_iff (P := P) gd z).mpr ⟨_, List.getElem_mem hj, pj⟩)
    have q := hQ false s.heap (Heap.SameBut.refl a s.heap)
    rw [show addT zs z = zs from if_pos hin] at q
    exact wpAny_pure (wpAny_pure (q ⟨o, es, ep, t, ho, hex, hd, gd, pz, nz, hb, hf, hr, hl⟩))
  | none =>
    dsimp only
    have hout : z ∉ zs := fun m => by
      obtain ⟨e, he, q⟩ := (TGood.mem_iff (P := P) (w := w) gd z).mp (pz.mem_iff.mpr m)
      have c := List.findIdx?_eq_none_iff.mp hfi e he
      rw [q] at c
      cases c
    have hgw : ∀ (b : Bool) {s1 : Shared} {Q1 : Unit → Shared → Prop}, Q1 () s1 → wpAny (model P w) A (match b with | true => rule "set.scan.the-table-gave-way" | false => pure ()) Q1 E s1 :=
      fun b s1 Q1 q => by cases b <;> first | exact wpAny_pure q | exact wpAny_rule q
    have p1 := layNew_perm t es ((PySem.strKind P w).hash z) (.str z tk)
    have f1 := layNew_fits t es ((PySem.strKind P w).hash z) (.str z tk)
    have r1 := layNew_ris t es ((PySem.strKind P w).hash z) (.str z tk) hr
    have l1 := layNew_led t es ((PySem.strKind P w).hash z) (.str z tk)
    generalize layNew t es ((PySem.strKind P w).hash z) (.str z tk) = Z at p1 f1 r1 l1 ⊢
    obtain ⟨es1, t1, dm, gv⟩ := Z
    dsimp only at p1 f1 r1 l1 ⊢
    rw [Array.toList_push] at p1
    have gd1 : ∀ e ∈ es1.toList, TGood w e := fun e m => by
      rcases List.mem_append.mp (p1.mem_iff.mp m) with q | q
      · exact gd e q
      · rw [List.mem_singleton.mp q]
        exact ⟨z, tk, rfl, rfl⟩
    have ez : addT zs z = zs ++ [z] := if_neg hout
    have pz1 : (es1.toList.map tkey).Perm (addT zs z) := by
      rw [ez]
      refine (p1.map tkey).trans ?_
      rw [List.map_append]
      exact pz.append_right _
    have nz1 : (addT zs z).Nodup := by
      rw [ez]
      exact nd_snoc nz hout
    have sz1 : es1.size = zs.length + 1 := by
      rw [← Array.length_toList, p1.length_eq, List.length_append, Array.length_toList, hn]
      rfl
    have hb1 : es1.size < scanBound := by rw [sz1]; exact room
    have hl1 : w.params.followText "set-order" = true ∨ t1.led = true := hl.imp id fun q => by rw [l1]; exact q
    have fin : ∀ h', Heap.SameBut a s.heap h' → TSet w h' a (addT zs z) → Q true { s with heap := h' } := hQ true
    refine wpAny_bind (hgw _ ?_)
    split
    · refine wpAny_bind ?_
      rw [hashByValue_scannable 8 hsc]
      refine wpAny_pure ?_
      refine tset_tail ?_ ho hex hd gd1 pz1 nz1 hb1 ?_ ?_ ?_ ?_
      · intro b s1 Q1 q
        cases b <;> first | exact wpAny_pure q | exact wpAny_rule q
      · first | (split <;> first | exact f1 | exact SetTable.fits_plain_off f1) | exact f1
      · first | (split <;> exact r1) | exact r1
      · first | (split <;> exact hl1) | exact hl1
      · intro h' sb r
        dsimp only
        exact wpAny_pure (fin h' sb r)
    · refine wpAny_bind (wpAny_pure ?_)
      simp only [↓reduceIte]
      refine tset_tail ?_ ho hex hd gd1 pz1 nz1 hb1 f1 r1 hl1 ?_
      · intro b s1 Q1 q
        cases b <;> first | exact wpAny_pure q | exact wpAny_rule q
      · intro h' sb r
        dsimp only
        exact wpAny_pure (fin h' sb r)

theorem TSet.typeIs {zs : List Str} (R : TSet w s.heap a zs) : s.TypeIs (.ref a) "set" := by
  obtain ⟨o, es, ep, t, ho, hex, _⟩ := R
  exact ⟨o, ho, hex.1⟩
/-- s.add(z) -/
theorem tset_add {z : Str} {tk : Tok} {Q : Value → Shared → Prop} (R : TSet w s.heap a zs) (room : zs.length + 1 < scanBound)
    (hQ : ∀ h', Heap.SameBut a s.heap h' → TSet w h' a (addT zs z) → Q .none { s with heap := h', toks := s.toks + 1 }) :
    wpAny (model P w) A (call (.builtin "set.add") [.ref a, .str z tk]) Q E s := by
  have hkey : (PySem.strKind P w).is z (.str z tk) = true := by
    show Value.isStrOf z (.str z tk) = true
    simp [Value.isStrOf]
  refine wpAny_call_entry F.slot_set_add R.typeIs F.entry_set_add ?_ (F.args_set_add_2 _ _)
  unfold Builtin.«set.add» Builtin.Frozenset.oneOther
  simp only [List.isEmpty_nil, bind_assoc]
  unfold Builtin.Frozenset.addrOf setAdd
  refine wpAny_bind (wpAny_pure ?_)
  try dsimp only
  refine wpAny_bind (wpAny_pure ?_)
  try dsimp only
  refine wpAny_bind (wpAny_holding (wpAny_bind ((PySem.strKind P w).pyHash hkey ?_)))
  refine tset_hashed (s := { s with toks := s.toks + 1 }) R room fun b h' sb r => ?_
  show wpAny _ _ (ret Value.none) _ _ _
  exact wpAny_pure ⟨_, rfl, hQ h' sb r⟩
theorem tset_fresh {h : Heap} (w : World) : TSet w (h.push { cls := .type "set", dict := none, data := .set #[] 0 (.fresh 0 0 (!w.params.followText "set-order")) }) h.objs.size [] := by
  refine ⟨_, #[], 0, _, Heap.get?_push_size _ rfl, ⟨rfl, rfl, rfl⟩, rfl, (fun e m => by simp at m), .nil, .nil, by decide, rfl, .nil, ?_⟩
  show _ ∨ (!w.params.followText "set-order") = true
  cases w.params.followText "set-order"
  · exact Or.inr rfl
  · exact Or.inl rfl

/-! ### sorted -/
theorem strs_of : ∀ (l : List Value), (∀ v ∈ l, ∃ z tk, v = Value.str z tk) → StrsAre l (l.map fun v => tkey (0, v))
  | [], _ => .nil
  | v :: l, h => by
    obtain ⟨z, tk, rfl⟩ := h v List.mem_cons_self
    exact .cons z tk (strs_of l fun u m => h u (List.mem_cons_of_mem _ m))
theorem tset_sorted {Q : Value → Shared → Prop} (R : TSet w s.heap a zs) (hh : A.handled = none)
    (hQ : ∀ s' p (out : Array Value) (c : Nat) (ys : List Str), (∀ b o, s.heap.get? b = some o → s'.heap.get? b = some o) → s'.gens = s.gens → s'.os = s.os → s.heap.objs.size ≤ p →
      s'.heap.get? p = some (seqObj "list" out c) → StrsAre out.toList ys → ys.Perm zs → sortedS ys = true → Q (.ref p) s') :
    wpAny (model P w) A (call (.builtin "sorted") [.ref a]) Q E s := by
  obtain ⟨o, es, ep, t, ho, hex, hd, gd, pz, nz, hb, hf, hr, hl⟩ := R
  refine Calls.call_function_entry kind_sorted plain_sorted entry_sorted (args_sorted1 _) ?_
  unfold Builtin.«sorted»
  refine wpAny_bind (m := checkCount "sorted" 1 1 _) (wpAny_pure ?_)
  refine wpAny_bind (collect_set (A := A.in1) hh ⟨o, ho, hex.1, hd⟩ hf hb hr hl fun s1 vs k1 hz g1 o1 pm => ?_)
  have hvl : vs.length = es.size := by rw [pm.length_eq, List.length_map, Array.length_toList]
  have hS : StrsAre vs (vs.map fun v => tkey (0, v)) := strs_of vs fun v hv => by
    obtain ⟨e, he, q⟩ := List.mem_map.mp (pm.mem_iff.mp hv)
    obtain ⟨z, tk, e1, _⟩ := gd e he
    exact ⟨z, tk, by rw [← q]; exact e1⟩
  have pk : (vs.map fun v => tkey (0, v)).Perm zs := by
    have q := pm.map fun v => tkey (0, v)
    rw [List.map_map] at q
    exact q.trans pz
  have hln : vs.length ≤ sizeLine := by
    rw [hvl]
    exact fits_of_scanBound hb
  refine wpAny_bind (wpAny_newList ?_ hln)
  have hoL : (s1.heap.push (seqObj "list" vs.toArray 0)).get? s1.heap.objs.size = some (seqObj "list" vs.toArray 0) := Heap.get?_push_size _ rfl
  refine wpAny_bind (wpAny_holding (wpAny_call_entry slot_list_sort ⟨_, hoL, rfl⟩ entry_list_sort (list_sort_treeKAny strKind_oneLt hoL hS.keysOf (fun v1 v2 rest e => keyKind_strs (by rw [← e]; exact hS)) hln fun st' hp hs => ⟨_, rfl, ?_⟩) (args_list_sort _)))
  obtain ⟨ys, a1, a2, a3⟩ := sorted_out_str hS hp hs
  generalize (arrOf st').map (·.2) = out at a1 ⊢
  obtain ⟨c, hc⟩ := sortedHeap_at (vs := vs) (out := out) hoL
  refine wpAny_pure ⟨_, rfl, hQ _ s1.heap.objs.size out c ys (fun b u e => ?_) g1 o1 hz hc a1 (a2.trans pk) a3⟩
  have q := k1 b u e
  have hlt := Heap.lt_size q
  show (sortedHeap (s1.heap.push (seqObj "list" vs.toArray 0)) s1.heap.objs.size vs out).get? b = some u
  rw [sortedHeap_old (Nat.ne_of_lt hlt) (by rw [size_push']; exact Nat.lt_succ_of_lt hlt)]
  exact Heap.get?_push_of_some _ q
end

/-! ### over the abstract heap -/
def TSetO (w : World) (a : Addr) (zs : List Str) : HO := .ext fun h => TSet w h a zs
theorem tsetO_new {w : World} {P : Program} {H : Hp} {h : Heap} {a : Addr} {zs : List Str} (R : TSet w h a zs) : ObjOk P w H h a (TSetO w a zs) := by
  have ⟨o, _, _, _, ho, _⟩ := R
  exact ⟨R, ⟨o, ho⟩, fun h1 h2 p k => TSet.there p k⟩
section
variable {X : Cx} {pins : List (Addr × Obj)} {σ : L2.St} {H : Hp} {s : Shared} {zs : List Str}
theorem tsetO_get {a : Addr} (I : Inv X pins σ H s) (ha : H a = some (TSetO X.w a zs)) : TSet X.w s.heap a zs := (I.hok a _ ha).1
theorem tsetO_add {E : Value → Shared → Prop} {D : Addr} {z : Str} {tk : Tok} {Q : Value → Shared → Prop} (I : Inv X pins σ H s) (hD : H D = some (TSetO X.w D zs)) (room : zs.length + 1 < scanBound)
    (h : ∀ s', Inv X pins σ (upd H D (TSetO X.w D (addT zs z))) s' → Q .none s') : wpAny (model X.prog X.w) X.A (call (.builtin "set.add") [.ref D, .str z tk]) Q E s := by
  refine tset_add (tsetO_get I hD) room fun h' sb new => h _ ?_
  have he : ∃ u, h'.get? D = some u := by
    have ⟨o, _, _, _, ho, _⟩ := new
    exact ⟨o, ho⟩
  exact I.write (e := D) (t' := s.toks + 1) (by rw [hD]; trivial) (.inl rfl) (fun b u hb hu => (sb.2 b hb).trans hu) he (tsetO_new new)
/-- sorted(s), s a set of texts -/
def rSortT (w : World) : List V → Hp → VK → Prop := fun vs H Q => ∃ (a : Addr) (zs : List Str), vs = [V.ref a] ∧ H a = some (TSetO w a zs) ∧ zs.length ≤ 100000 ∧
  ∀ (ys : List Str) (p : Addr), ys.Perm zs → sortedS ys = true → H p = none → Q (.ref p) (upd H p (.lst (ys.map V.str)))
theorem cr_sortT (hc : X.calm = true) : CallR X (.builtin "sorted") (rSortT X.w) := by
  intro pins s σ H vs us Q I r h
  obtain ⟨a, zs, rfl, ha, hz, q⟩ := h
  rw [Vals.ref1 r]
  refine tset_sorted (tsetO_get I ha) (I.ok.hd hc) fun s' p out c ys k g o hp hg hS hperm hsrt => ?_
  have hlen : (ys.map V.str).length ≤ sizeLine := by
    rw [List.length_map, hperm.length_eq]
    exact Nat.le_trans hz (by decide)
  have hn : H p = none := I.hok.fresh hp
  have J : Inv X pins σ (upd H p (.lst (ys.map V.str))) { s with heap := s'.heap, gens := s'.gens, drawn := s'.drawn, toks := s'.toks } :=
    I.call (ch := []) (Un.laid k hp hn) (I.hok.laid k hp ⟨hlen, out.toList, c, vals_of_strs hS, hg⟩) (by rw [g]; exact I.bare) (fun _ m => nomatch m)
  have e : s' = { s with heap := s'.heap, gens := s'.gens, drawn := s'.drawn, toks := s'.toks } := by
    cases s'
    cases s
    cases o
    rfl
  rw [e]
  exact ⟨.ref p, _, J, rfl, q ys p hperm hsrt hn⟩
end
end Cs

set_option Elab.async false
set_option linter.all false
set_option maxRecDepth 100000
set_option maxHeartbeats 4000000
/-! {elt for target in iter if ..} where elt is a text. -/
namespace Cs
open PySem PySem.Spec PyProof.Rows L2

/-- one turn of such a comprehension: the text that comes is put into the set at D -/
def tScT (w : World) (wi : TI) (g : TG) (tt : TT) (te : TE) (vs : List Nat) : TE := fun σ H Q => wi σ H fun J H1 => ∀ D, H1 D = none →
  ∃ W : Nat → Nat → Hp → Prop, (∃ m, W 0 m (upd H1 D (TSetO w D []))) ∧ ∀ i m H, W i m H →
  (J.stop i H ∧ Q (.ref D) H) ∨ (J.go i H ∧ ∃ Nx : Hp → Prop, (∀ H', Nx H' → ∃ m', m' < m ∧ W (i + 1) m' H') ∧
    ∀ x H', J.yld i H x H' → g x (wipe σ vs) H' fun σ2 H2 => wipe σ2 vs = wipe σ vs ∧ tt σ2 H2 fun b H3 =>
    if b = true then te σ2 H3 fun y H4 => ∃ (z : Str) (zs : List Str), y = .str z ∧ H4 D = some (TSetO w D zs) ∧ zs.length + 1 < scanBound ∧ Nx (upd H4 D (TSetO w D (addT zs z))) else Nx H3)
section
variable {X : Cx}
theorem scT_core {pins : List (Addr × Obj)} {s : Shared} {σ : L2.St} {H : Hp} {Q : VK} {elt tg iter : Expr} {ifs : List Expr} {scope : Scope} {own : List (PySem.Str × Nat)} {pos pos' : Pos}
    {wi : TI} {g : TG} {tt : TT} {te : TE} {use : Option (Value → Sem Unit)} {Qf : Value → Shared → Prop}
    (hc : X.calm = true) (hN : X.N.Nodup) (I : Inv X pins σ H s) (hi : PI X tg iter wi) (ok : BlkOk X.N X.env.scope scope own)
    (hg : ∀ (s : Shared) (H : Hp) (C : Addr) (cl : List (PySem.Str × Addr)) (fp : List Addr), PG (X.blk s H scope (compEnvC scope cl C X.env) fp) tg g)
    (ht : ∀ (s : Shared) (H : Hp) (C : Addr) (cl : List (PySem.Str × Addr)) (fp : List Addr), PTs (X.blk s H scope (compEnvC scope cl C X.env) fp) ifs tt)
    (he : ∀ (s : Shared) (H : Hp) (C : Addr) (cl : List (PySem.Str × Addr)) (fp : List Addr), PE (X.blk s H scope (compEnvC scope cl C X.env) fp) elt te)
    (hs : ∀ x, foldedSetIterable iter X.env x = pure x) (h : tScT X.w wi g tt te (own.map (·.2)) σ H Q)
    (hRR : ∀ D C s' m H', Inv X pins σ H' s' → Q (.ref D) H' → s'.heap.Ns C m → FpOk X pins H' C → compPost (model X.prog X.w) X.A X.xe use Qf (.ref D) C (.ok .next) s') :
    wpAny (model X.prog X.w) X.A (comprehension (.SetComp elt [⟨tg, iter, ifs, 0⟩] scope pos) scope X.env pos' (newSet (.type "set")) false (eval iter X.env) use) Qf X.xe s := by
  have cells : ∀ y ∈ scope.names, y.2 = .free → ∃ c, X.env.cells.lookup y.1 = some c := fun y hy e => (ok.free y hy e).elim (fun k => I.ok.has _ (.inl k)) fun k => I.ok.has _ (.inr k)
  refine wpAny_comprehension_free (use := use) rfl hs (closure_ok cells) ok.kind (fun y hy e => by rw [ok.uniq y hy, e]) (thn (hi.run pins s σ H _ I h) fun xv sA hx => thn hx fun itv sB hB => ?_)
  obtain ⟨it, fp, tn, J, HB, e, IB, T, stB, fB, q⟩ := hB
  subst e
  refine PpSet.newSet_ok (newEnv_comp ?_)
  generalize hD : sB.heap.objs.size = D
  obtain ⟨W, ⟨m0, w0⟩, turn⟩ := q D (IB.hok.fresh (Nat.le_of_eq hD))
  generalize hsC : ({ sB with heap := sB.heap.push { cls := .type "set", dict := none, data := .set #[] 0 (.fresh 0 0 (!X.w.params.followText "set-order")) } } : Shared) = sC
  have hpC : sC.heap = sB.heap.push { cls := .type "set", dict := none, data := .set #[] 0 (.fresh 0 0 (!X.w.params.followText "set-order")) } := by rw [← hsC]
  generalize hHC : upd HB D (TSetO X.w D []) = HC at w0
  have IC : Inv X pins σ HC sC := by
    rw [← hsC, ← hHC]
    refine IB.laid (t' := sB.toks) (fun b o e => Heap.get?_push_of_some _ e) (Nat.le_of_eq hD) ?_
    rw [← hD]
    exact tsetO_new (tset_fresh X.w)
  have below : ∀ b ∈ fp, b < sB.heap.objs.size := fun b hb => (T.obj _ _ stB b hb).elim fun o z => Heap.lt_size z.1
  have fC : ∀ b ∈ fp, FpOk X pins HC b ∧ b < sC.heap.objs.size := fun b hb => by
    have lt := below b hb
    refine ⟨⟨?_, (fB b hb).2⟩, by rw [hpC, Heap.size_push]; exact Nat.lt_succ_of_lt lt⟩
    rw [← hHC, upd_ne (by rw [← hD]; exact Nat.ne_of_lt lt)]
    exact (fB b hb).1
  have stC : tn 0 sC.heap := T.keep _ _ _ stB fun b _ o e => by rw [hpC]; exact Heap.get?_push_of_some _ e
  have IK := block_start IC ok hN fC
  show codeAny _ _ (.compStart (.SetComp elt [⟨tg, iter, ifs, 0⟩] scope pos) 0 (.ref it) (.ref D) (compEnvC scope (cellsFrom (sC.heap.objs.size + 1) scope.names (cloFrom X.env.cells scope.names [])) sC.heap.objs.size X.env))
    (compPost (model X.prog X.w) X.A X.xe use Qf (.ref D) sC.heap.objs.size) { sC with heap := pushCells (sC.heap.push { cls := .type "dict", data := .dict #[] }) scope.names }
  generalize cellsFrom (sC.heap.objs.size + 1) scope.names (cloFrom X.env.cells scope.names []) = cl at IK ⊢
  have pg := hg sC HC sC.heap.objs.size cl fp
  have pt := ht sC HC sC.heap.objs.size cl fp
  have pe := he sC HC sC.heap.objs.size cl fp
  have nC : ∀ b ∈ fp, HC b = none := fun b hb => (fC b hb).1.1
  generalize hce : compEnvC scope cl sC.heap.objs.size X.env = ce at IK pg pt pe ⊢
  have locals : ce.locals = sC.heap.objs.size := by subst hce; rfl
  generalize hsK : ({ sC with heap := pushCells (sC.heap.push { cls := .type "dict", data := .dict #[] }) scope.names } : Shared) = sK at IK ⊢
  have stK : tn 0 sK.heap := T.keep _ _ _ stC fun b _ o e => by rw [← hsK]; exact pushCells_keeps _ _ _ _ (Heap.get?_push_of_some _ e)
  have stand : ∀ {σ' : L2.St} {H' : Hp} {s' : Shared}, Inv (X.blk sC HC scope ce fp) [] σ' H' s' → (∀ b ∈ fp, H' b = none) → ∀ b ∈ fp, FpOk (X.blk sC HC scope ce fp) [] H' b := fun {σ' H' s'} I' hn b hb =>
    ⟨hn b hb, (I'.ok.exf b hb).1, I'.ok.exfs b hb, .inl hb, fun x c e => (I'.ok.exf b hb).2 x c e, fun p hp => absurd (show p ∈ ([] : List (Addr × Obj)) ++ [] from hp) (by simp)⟩
  have loop : codeAny (model X.prog X.w) X.A (.compLoop (.SetComp elt [⟨tg, iter, ifs, 0⟩] scope pos) 0 (.ref it) (.ref D) ce) (compPost (model X.prog X.w) X.A X.xe use Qf (.ref D) sC.heap.objs.size) sK := by
    refine PpSet.compLoopS_any (fun n s' => ∃ i H', Inv (X.blk sC HC scope ce fp) [] (wipe σ (own.map (·.2))) H' s' ∧ tn i s'.heap ∧ (∀ b ∈ fp, H' b = none) ∧ W i n H') ?_ m0 ⟨0, HC, IK, stK, nC, w0⟩
    rintro n sL ⟨i, HL, IL, stL, nL, wL⟩
    rcases turn i n HL wL with ⟨stop, qq⟩ | ⟨go, Nx, hNx, step⟩
    · refine thnF (T.done (X.blk sC HC scope ce fp) rfl rfl rfl hc i [] sL _ HL (fun _ _ => False) IL (stand IL nL) stL stop) fun r sM ⟨hr, IM⟩ => ?_
      subst hr
      have IX : Inv X pins σ HL sM := IC.call' (ch := fp) IM.os IM.base IM.hok IM.bare fun b hb => ⟨(fC b hb).1.2.2.2.1, (fC b hb).1.2.1, (fC b hb).1.2.2.2.2.1, (fC b hb).1.2.2.2.2.2⟩
      have nl : HL sC.heap.objs.size = none := by
        have z : HL ce.locals = none := IM.free
        rw [locals] at z
        exact z
      obtain ⟨m, hn, _⟩ := IM.loc
      have hn : sM.heap.Ns ce.locals m := hn
      rw [locals] at hn
      exact hRR D sC.heap.objs.size sM m HL IX qq hn (IC.fpOk (Nat.le_refl _) nl)
    · refine thnF (T.item (X.blk sC HC scope ce fp) rfl rfl rfl hc i [] sL _ HL (fun _ _ => False) IL (stand IL nL) stL go) fun r sM ⟨u, hr, hM⟩ => ?_
      subst hr
      refine thnF hM fun _ sN ⟨x, HN, IN, rN, yN, stN, nN⟩ => ?_
      have INp := IN.pinned (stand IN nN) (T.obj _ _ stN)
      refine thnF (pg.run _ sN _ HN x u _ INp rN (step x HN yN)) fun _ sO ⟨σO, HO_, IO_, hwO, qO⟩ => ?_
      refine thnF (pt.run _ sO σO HO_ _ IO_ qO) fun b sP ⟨HP, IP, qP⟩ => ?_
      have fin : ∀ {s' : Shared} {H' : Hp}, Inv (X.blk sC HC scope ce fp) ([] ++ pinsAt fp sN.heap) σO H' s' → Nx H' →
          ∃ m, m < n ∧ ∃ i H', Inv (X.blk sC HC scope ce fp) [] (wipe σ (own.map (·.2))) H' s' ∧ tn i s'.heap ∧ (∀ b ∈ fp, H' b = none) ∧ W i m H' := fun {s' H'} I' nx => by
        obtain ⟨m', hm, w'⟩ := hNx H' nx
        have kept : ∀ b ∈ fp, ∀ o, sN.heap.get? b = some o → s'.heap.get? b = some o ∧ H' b = none := fun b hb o e =>
          let z := I'.pin (b, o) (List.mem_append_right _ (List.mem_append_right _ (mem_pinsAt hb e)))
          ⟨z.1, z.2.1⟩
        refine ⟨m', hm, i + 1, H', (I'.unpinned (pins := [])).weak (by rw [← hwO, wipe_length]) (fun j v e => ?_), T.keep _ _ _ stN fun b hb o e => (kept b hb o e).1, fun b hb => ?_, w'⟩
        · rw [← hwO] at e
          exact (wipe_some e).1
        · exact (T.obj _ _ stN b hb).elim fun o z => (kept b hb o z.1).2
      cases b with
      | false =>
        simp only [Bool.false_eq_true, if_false] at qP ⊢
        exact fin IP qP
      | true =>
        simp only [if_true] at qP ⊢
        refine thnF (pe.run _ sP σO HP _ IP qP) fun v sQ ⟨yv, HQ, IQ, rQ, z, zs, ey, hDQ, hzQ, nx⟩ => ?_
        subst ey
        obtain ⟨tk, rfl⟩ : ∃ tk, v = Value.str z tk := rQ
        exact tsetO_add (X := X.blk sC HC scope ce fp) IQ hDQ hzQ fun sR IR => fin IR nx
  exact PpSet.codeAny_compStart_set loop (T.self X.A 0 _ _ _ stK loop)
theorem pe_scT {elt tg iter : Expr} {ifs : List Expr} {scope : Scope} {own : List (PySem.Str × Nat)} {pos : Pos} {wi : TI} {g : TG} {tt : TT} {te : TE} (hc : X.calm = true) (hN : X.N.Nodup) (hi : PI X tg iter wi)
    (ok : BlkOk X.N X.env.scope scope own)
    (hg : ∀ (s : Shared) (H : Hp) (C : Addr) (cl : List (PySem.Str × Addr)) (fp : List Addr), PG (X.blk s H scope (compEnvC scope cl C X.env) fp) tg g)
    (ht : ∀ (s : Shared) (H : Hp) (C : Addr) (cl : List (PySem.Str × Addr)) (fp : List Addr), PTs (X.blk s H scope (compEnvC scope cl C X.env) fp) ifs tt)
    (he : ∀ (s : Shared) (H : Hp) (C : Addr) (cl : List (PySem.Str × Addr)) (fp : List Addr), PE (X.blk s H scope (compEnvC scope cl C X.env) fp) elt te)
    (hs : ∀ x, foldedSetIterable iter X.env x = pure x := by intro _; rfl) : PE X (.SetComp elt [⟨tg, iter, ifs, 0⟩] scope pos) (tScT X.w wi g tt te (own.map (·.2))) := by
  refine ⟨fun pins s σ H Q I h => ?_⟩
  rw [PpSet.eval_SetComp]
  refine scT_core hc hN I hi ok hg ht he hs h fun D C s' m H' I' q hn f => ⟨m, hn, fun h'' sb => ?_⟩
  obtain ⟨f0, f1, f2, f3, f4, f5⟩ := f
  exact ⟨.ref D, H', I'.turned (t' := s'.toks) (fun b o hb e => (sb.2 b hb).trans e) f0 f1 f3 f4 f5, rfl, q⟩
end
/-- the texts of a list, each once, by first place -/
def once (zs : List Str) : List Str := zs.foldl addT []
theorem once_snoc (zs : List Str) (z : Str) : once (zs ++ [z]) = addT (once zs) z := by
  unfold once
  rw [List.foldl_append]
  rfl
theorem once_len (zs : List Str) : (once zs).length ≤ zs.length := by
  have h : ∀ (l acc : List Str), (l.foldl addT acc).length ≤ acc.length + l.length := by
    intro l
    induction l with
    | nil => intro acc; exact Nat.le_refl _
    | cons z l ih =>
      intro acc
      have e := ih (addT acc z)
      have f : (addT acc z).length ≤ acc.length + 1 := by
        unfold addT
        split
        · omega
        · simp
      show (l.foldl addT (addT acc z)).length ≤ _
      rw [List.length_cons]
      omega
  have := h zs []
  simpa [once] using this
theorem once_mem (zs : List Str) (y : Str) : y ∈ once zs ↔ y ∈ zs := by
  have h : ∀ (l acc : List Str), y ∈ l.foldl addT acc ↔ y ∈ acc ∨ y ∈ l := by
    intro l
    induction l with
    | nil => intro acc; simp
    | cons z l ih =>
      intro acc
      show y ∈ l.foldl addT (addT acc z) ↔ _
      rw [ih]
      unfold addT
      split
      · rename_i m
        simp only [List.mem_cons]
        constructor
        · rintro (a | a)
          · exact .inl a
          · exact .inr (.inr a)
        · rintro (a | a | a)
          · exact .inl a
          · exact .inl (a ▸ m)
          · exact .inr a
      · simp only [List.mem_append, List.mem_cons, List.not_mem_nil, or_false, or_assoc]
  simpa [once] using h zs []
theorem once_nodup (zs : List Str) : (once zs).Nodup := by
  have h : ∀ (l acc : List Str), acc.Nodup → (l.foldl addT acc).Nodup := by
    intro l
    induction l with
    | nil => intro acc h; exact h
    | cons z l ih =>
      intro acc h
      refine ih _ ?_
      unfold addT
      split
      · exact h
      · rename_i m
        exact nd_snoc h m
  exact h zs [] .nil
end Cs

set_option Elab.async false
set_option linter.all false
set_option maxRecDepth 100000
set_option maxHeartbeats 4000000
/-! Plain laws: texts in order, tables of words and integers, what is told of a table. -/
namespace Cs
open PySem L2 PyProof.Rows
/-! ### the order of texts -/
def SLt (a b : Str) : Prop := a.cps.toList < b.cps.toList
theorem slt_irrefl (a : Str) : ¬ SLt a a := List.lt_irrefl _
theorem slt_trans {a b c : Str} (h : SLt a b) (k : SLt b c) : SLt a c := List.lt_trans h k
theorem str_ext {a b : Str} (h : a.cps.toList = b.cps.toList) : a = b := by
  cases a
  cases b
  congr
  exact Array.toList_inj.mp h
theorem slt_total {a b : Str} (h : ¬ SLt b a) (n : a ≠ b) : SLt a b := by
  have h1 : a.cps.toList ≤ b.cps.toList := List.not_lt.mp h
  apply Classical.byContradiction
  intro q
  exact n (str_ext (List.le_antisymm h1 (List.not_lt.mp q)))
theorem slt_of_le_lt {a b c : Str} (h : ¬ SLt b a) (k : SLt b c) : SLt a c := List.lt_of_le_of_lt (List.not_lt.mp h) k
/-- ascending, none twice -/
def Asc (zs : List Str) : Prop := zs.Pairwise SLt
theorem rising_pw : ∀ (r : List Str) (p : Str), risingS p r = true → (p :: r).Pairwise (fun a b => ¬ SLt b a)
  | [], p, _ => List.pairwise_singleton _ _
  | x :: r, p, h => by
    have h : (!PySem.Spec.ltCps x.cps.toList p.cps.toList && risingS x r) = true := h
    rw [Bool.and_eq_true, ltCps_eq] at h
    have ih := rising_pw r x h.2
    have h1 : ¬ SLt x p := by
      have := h.1
      intro q
      rw [decide_eq_true (show x.cps.toList < p.cps.toList from q)] at this
      cases this
    refine List.pairwise_cons.mpr ⟨fun y hy => ?_, ih⟩
    rcases List.mem_cons.mp hy with e | e
    · rw [e]
      exact h1
    · have h2 := (List.pairwise_cons.mp ih).1 y e
      exact fun q => h1 (slt_of_le_lt h2 q)
theorem sorted_pw : ∀ {zs : List Str}, sortedS zs = true → zs.Pairwise (fun a b => ¬ SLt b a)
  | [], _ => .nil
  | x :: r, h => rising_pw r x h
theorem asc_of_sorted {zs : List Str} (h : sortedS zs = true) (n : zs.Nodup) : Asc zs := by
  have a := sorted_pw h
  have b : zs.Pairwise (fun a b => ¬ SLt b a ∧ a ≠ b) := a.and n
  exact b.imp fun h => slt_total h.1 h.2
theorem Asc.nodup {zs : List Str} (h : Asc zs) : zs.Nodup := h.imp fun {a b} (q : SLt a b) (e : a = b) => slt_irrefl a (by rw [← e] at q; exact q)
/-- ascending lists with the same members are one -/
theorem asc_eq : ∀ {xs ys : List Str}, Asc xs → Asc ys → (∀ z, z ∈ xs ↔ z ∈ ys) → xs = ys
  | [], [], _, _, _ => rfl
  | [], y :: ys, _, _, h => absurd ((h y).mpr List.mem_cons_self) (by simp)
  | x :: xs, [], _, _, h => absurd ((h x).mp List.mem_cons_self) (by simp)
  | x :: xs, y :: ys, a, b, h => by
    obtain ⟨a1, a2⟩ := List.pairwise_cons.mp a
    obtain ⟨b1, b2⟩ := List.pairwise_cons.mp b
    have e : x = y := by
      rcases List.mem_cons.mp ((h x).mp List.mem_cons_self) with e | e
      · exact e
      · rcases List.mem_cons.mp ((h y).mpr List.mem_cons_self) with f | f
        · exact f.symm
        · exact absurd (slt_trans (a1 y f) (b1 x e)) (slt_irrefl x)
    subst e
    rw [asc_eq a2 b2 fun z => ?_]
    constructor
    · intro m
      rcases List.mem_cons.mp ((h z).mp (List.mem_cons_of_mem _ m)) with e | e
      · exact absurd (e ▸ a1 z m) (slt_irrefl _)
      · exact e
    · intro m
      rcases List.mem_cons.mp ((h z).mpr (List.mem_cons_of_mem _ m)) with e | e
      · exact absurd (e ▸ b1 z m) (slt_irrefl _)
      · exact e
/-! ### tables -/
abbrev Tab := List (Str × Int)
def keys (t : Tab) : List Str := t.map (·.1)
def look (t : Tab) (z : Str) : Option Int := (t.find? fun q => decide (q.1 = z)).map (·.2)
def val (t : Tab) (z : Str) : Int := (look t z).getD 0
def put (t : Tab) (z : Str) (n : Int) : Tab := if (t.any fun q => decide (q.1 = z)) = true then t.map (fun q => if q.1 = z then (q.1, n) else q) else t ++ [(z, n)]
def drop (t : Tab) (z : Str) : Tab := t.filter fun q => decide (q.1 ≠ z)
theorem look_none : ∀ {t : Tab} {z : Str}, z ∉ keys t → look t z = none
  | [], _, _ => rfl
  | q :: t, z, h => by
    have h1 : q.1 ≠ z := fun e => h (by rw [← e]; exact List.mem_cons_self)
    have h2 : z ∉ keys t := fun m => h (List.mem_cons_of_mem _ m)
    have ih := look_none h2
    unfold look at ih ⊢
    rw [List.find?_cons, decide_eq_false h1]
    exact ih
theorem look_some : ∀ {t : Tab} {z : Str}, z ∈ keys t → ∃ n, look t z = some n ∧ (z, n) ∈ t
  | [], _, h => by simp [keys] at h
  | q :: t, z, h => by
    by_cases e : q.1 = z
    · refine ⟨q.2, ?_, ?_⟩
      · unfold look
        rw [List.find?_cons, decide_eq_true e]
        rfl
      · rw [← e]
        exact List.mem_cons_self
    · have h2 : z ∈ keys t := (List.mem_cons.mp h).resolve_left fun q => e q.symm
      obtain ⟨n, a, b⟩ := look_some h2
      refine ⟨n, ?_, List.mem_cons_of_mem _ b⟩
      unfold look at a ⊢
      rw [List.find?_cons, decide_eq_false e]
      exact a
theorem look_mem {t : Tab} (nd : (keys t).Nodup) {z : Str} {n : Int} (h : (z, n) ∈ t) : look t z = some n := by
  induction t with
  | nil => cases h
  | cons q t ih =>
    obtain ⟨n1, n2⟩ := List.nodup_cons.mp (show (q.1 :: keys t).Nodup from nd)
    rcases List.mem_cons.mp h with e | e
    · subst e
      unfold look
      rw [List.find?_cons, decide_eq_true rfl]
      rfl
    · have h1 : q.1 ≠ z := fun f => n1 (f ▸ List.mem_map.mpr ⟨_, e, rfl⟩)
      have := ih n2 e
      unfold look at this ⊢
      rw [List.find?_cons, decide_eq_false h1]
      exact this
theorem any_keys (t : Tab) (z : Str) : (t.any fun q => decide (q.1 = z)) = decide (z ∈ keys t) := by
  rw [Bool.eq_iff_iff, List.any_eq_true, decide_eq_true_eq]
  constructor
  · rintro ⟨q, m, e⟩
    exact List.mem_map.mpr ⟨q, m, of_decide_eq_true e⟩
  · intro m
    obtain ⟨q, m, e⟩ := List.mem_map.mp m
    exact ⟨q, m, decide_eq_true e⟩
theorem keys_put (t : Tab) (z : Str) (n : Int) : keys (put t z n) = if z ∈ keys t then keys t else keys t ++ [z] := by
  unfold put
  rw [any_keys]
  by_cases h : z ∈ keys t
  · rw [if_pos (decide_eq_true h), if_pos h]
    unfold keys
    rw [List.map_map]
    apply List.map_congr_left
    intro q _
    simp only [Function.comp]
    split <;> rfl
  · rw [if_neg (by simpa using h), if_neg h]
    unfold keys
    rw [List.map_append]
    rfl
theorem mem_keys_put {t : Tab} {z y : Str} {n : Int} : y ∈ keys (put t z n) ↔ y ∈ keys t ∨ y = z := by
  rw [keys_put]
  split
  · rename_i h
    exact ⟨.inl, fun q => q.elim id fun e => e ▸ h⟩
  · rw [List.mem_append, List.mem_singleton]
theorem nd_put {t : Tab} {z : Str} {n : Int} (h : (keys t).Nodup) : (keys (put t z n)).Nodup := by
  rw [keys_put]
  split
  · exact h
  · rename_i m
    exact nd_snoc h m
theorem mem_put {t : Tab} {z y : Str} {n m : Int} (h : (y, m) ∈ put t z n) : (y = z ∧ m = n) ∨ (y ≠ z ∧ (y, m) ∈ t) := by
  unfold put at h
  rw [any_keys] at h
  by_cases k : z ∈ keys t
  · rw [if_pos (decide_eq_true k)] at h
    obtain ⟨q, hq, e⟩ := List.mem_map.mp h
    by_cases c : q.1 = z
    · rw [if_pos c] at e
      left
      exact ⟨by rw [← c]; exact (congrArg Prod.fst e).symm, (congrArg Prod.snd e).symm⟩
    · rw [if_neg c] at e
      right
      subst e
      exact ⟨c, hq⟩
  · rw [if_neg (by simpa using k)] at h
    rcases List.mem_append.mp h with a | a
    · right
      exact ⟨fun e => k (e ▸ List.mem_map.mpr ⟨_, a, rfl⟩), a⟩
    · left
      have := List.mem_singleton.mp a
      exact ⟨congrArg Prod.fst this, congrArg Prod.snd this⟩
theorem look_put {t : Tab} {z y : Str} {n : Int} (h : (keys t).Nodup) : look (put t z n) y = if y = z then some n else look t y := by
  by_cases k : y ∈ keys (put t z n)
  · obtain ⟨m, a, b⟩ := look_some k
    rw [a]
    rcases mem_put b with ⟨e, f⟩ | ⟨e, f⟩
    · rw [if_pos e, f]
    · rw [if_neg e, look_mem h f]
  · rw [look_none k]
    have k2 : ¬ (y ∈ keys t ∨ y = z) := fun q => k (mem_keys_put.mpr q)
    rw [if_neg fun e => k2 (.inr e), look_none fun e => k2 (.inl e)]
theorem val_put {t : Tab} {z y : Str} {n : Int} (h : (keys t).Nodup) : val (put t z n) y = if y = z then n else val t y := by
  unfold val
  rw [look_put h]
  split <;> rfl
theorem keys_drop (t : Tab) (z : Str) : keys (drop t z) = (keys t).filter fun y => decide (y ≠ z) := by
  unfold keys drop
  rw [List.filter_map]
  rfl
theorem nd_drop {t : Tab} {z : Str} (h : (keys t).Nodup) : (keys (drop t z)).Nodup := by
  rw [keys_drop]
  exact h.filter _
theorem look_drop {t : Tab} {z y : Str} (h : (keys t).Nodup) : look (drop t z) y = if y = z then none else look t y := by
  by_cases k : y ∈ keys (drop t z)
  · obtain ⟨m, a, b⟩ := look_some k
    have c := List.mem_filter.mp b
    have d : y ≠ z := of_decide_eq_true c.2
    rw [a, if_neg d, look_mem h c.1]
  · rw [look_none k]
    by_cases e : y = z
    · rw [if_pos e]
    · rw [if_neg e, look_none]
      intro m
      apply k
      rw [keys_drop]
      exact List.mem_filter.mpr ⟨m, decide_eq_true e⟩
theorem val_drop {t : Tab} {z y : Str} (h : (keys t).Nodup) : val (drop t z) y = if y = z then 0 else val t y := by
  unfold val
  rw [look_drop h]
  split <;> rfl
theorem len_put (t : Tab) (z : Str) (n : Int) : (put t z n).length ≤ t.length + 1 := by
  unfold put
  split
  · rw [List.length_map]
    omega
  · rw [List.length_append]
    exact Nat.le_refl _
/-! ### what is told of a table: the words ascending whose integer is not 0 -/
/-- ws holds the table's words, ascending -/
def toldBy (t : Tab) (ws : List Str) : Tab := (ws.filter fun z => decide (val t z ≠ 0)).map fun z => (z, val t z)
/-- l is what is told of a table with these values -/
structure Told (f : Str → Int) (l : Tab) : Prop where
  asc : Asc (keys l)
  mem : ∀ z n, (z, n) ∈ l ↔ n = f z ∧ n ≠ 0
theorem Told.keys_iff {f : Str → Int} {l : Tab} (h : Told f l) (z : Str) : z ∈ keys l ↔ f z ≠ 0 := by
  constructor
  · intro m
    obtain ⟨⟨y, n⟩, hm, e⟩ := List.mem_map.mp m
    have e : y = z := e
    subst e
    obtain ⟨a, b⟩ := (h.mem _ _).mp hm
    rw [← a]
    exact b
  · intro q
    exact List.mem_map.mpr ⟨(z, f z), (h.mem _ _).mpr ⟨rfl, q⟩, rfl⟩
theorem Told.form {f : Str → Int} {l : Tab} (h : Told f l) : l = (keys l).map fun z => (z, f z) := by
  unfold keys
  rw [List.map_map]
  conv => lhs; rw [← List.map_id l]
  apply List.map_congr_left
  intro q m
  have := ((h.mem q.1 q.2).mp m).1
  show q = (q.1, f q.1)
  rw [← this]
theorem told_eq {f g : Str → Int} {l m : Tab} (a : Told f l) (b : Told g m) (h : ∀ z, f z = g z) : l = m := by
  have e : f = g := funext h
  subst e
  have k : keys l = keys m := asc_eq a.asc b.asc fun z => by rw [a.keys_iff, b.keys_iff]
  rw [a.form, b.form, k]
theorem told_of {t : Tab} {ws : List Str} (nd : (keys t).Nodup) (ha : Asc ws) (hm : ∀ z, z ∈ ws ↔ z ∈ keys t) : Told (val t) (toldBy t ws) := by
  have ek : keys (toldBy t ws) = ws.filter fun z => decide (val t z ≠ 0) := by
    unfold keys toldBy
    rw [List.map_map]
    exact List.map_id _
  refine ⟨?_, fun z n => ?_⟩
  · rw [ek]
    exact List.Pairwise.filter _ ha
  · unfold toldBy
    rw [List.mem_map]
    constructor
    · rintro ⟨y, m, e⟩
      have e1 : y = z := congrArg Prod.fst e
      have e2 : val t y = n := congrArg Prod.snd e
      subst e1
      subst e2
      exact ⟨rfl, of_decide_eq_true (List.mem_filter.mp m).2⟩
    · rintro ⟨rfl, q⟩
      refine ⟨z, List.mem_filter.mpr ⟨?_, decide_eq_true q⟩, rfl⟩
      rw [hm]
      apply Classical.byContradiction
      intro k
      exact q (by unfold val; rw [look_none k]; rfl)
/-! ### a table as a dict's pairs -/
def tv (t : Tab) : List (Key × V) := t.map fun q => (Sum.inr q.1, V.int q.2)
theorem tv_len (t : Tab) : (tv t).length = t.length := List.length_map _
theorem tv_val (t : Tab) (z : Str) : valV (tv t) (Sum.inr z) = (look t z).map V.int := by
  unfold valV tv look
  induction t with
  | nil => rfl
  | cons q t ih =>
    rw [List.map_cons, List.find?_cons, List.find?_cons]
    by_cases e : q.1 = z
    · rw [decide_eq_true e, decide_eq_true (show (Sum.inr q.1 : Key) = Sum.inr z by rw [e])]
      rfl
    · rw [decide_eq_false e, decide_eq_false (show ¬ (Sum.inr q.1 : Key) = Sum.inr z from fun f => e (Sum.inr.inj f))]
      exact ih
theorem tv_any (t : Tab) (z : Str) : ((tv t).any fun kv => decide (kv.1 = Sum.inr z)) = t.any fun q => decide (q.1 = z) := by
  unfold tv
  rw [List.any_map]
  congr 1
  funext q
  exact key_rr q.1 z
theorem tv_put (t : Tab) (z : Str) (n : Int) : putK (tv t) (Sum.inr z) (V.int n) = tv (put t z n) := by
  unfold putK put
  rw [tv_any]
  split
  · unfold tv
    rw [List.map_map, List.map_map]
    apply List.map_congr_left
    intro q _
    simp only [Function.comp]
    by_cases e : q.1 = z
    · rw [if_pos e, if_pos (show (Sum.inr q.1 : Key) = Sum.inr z by rw [e])]
    · rw [if_neg e, if_neg (show ¬ (Sum.inr q.1 : Key) = Sum.inr z from fun f => e (Sum.inr.inj f))]
  · unfold tv
    rw [List.map_append]
    rfl
theorem tv_drop (t : Tab) (z : Str) : dropK (tv t) (Sum.inr z) = tv (drop t z) := by
  unfold dropK drop tv
  rw [List.filter_map]
  congr 1
  apply List.filter_congr
  intro q _
  simp only [Function.comp]
  by_cases e : q.1 = z
  · simp [e]
  · have : ¬ (Sum.inr q.1 : Key) = Sum.inr z := fun f => e (Sum.inr.inj f)
    simp [e, this]
/-- pairs added up word by word -/
def addUp (ps : List (Str × Int)) : Tab := ps.foldl (fun t q => put t q.1 (val t q.1 + q.2)) []
/-- the integers of a word in pairs -/
def sumOf (ps : List (Str × Int)) (z : Str) : Int := ((ps.filter fun q => decide (q.1 = z)).map (·.2)).sum
theorem addUp_snoc (ps : List (Str × Int)) (q : Str × Int) : addUp (ps ++ [q]) = put (addUp ps) q.1 (val (addUp ps) q.1 + q.2) := by
  unfold addUp
  rw [List.foldl_append]
  rfl
theorem snoc_rec {α : Type} {C : List α → Prop} (h0 : C []) (h1 : ∀ l a, C l → C (l ++ [a])) : ∀ l, C l := by
  intro l
  have : ∀ n (l : List α), l.length = n → C l := by
    intro n
    induction n with
    | zero => intro l hl; rw [List.length_eq_zero_iff.mp hl]; exact h0
    | succ n ih =>
      intro l hl
      have hne : l ≠ [] := by intro e; rw [e] at hl; cases hl
      rw [← List.dropLast_concat_getLast hne]
      exact h1 _ _ (ih _ (by rw [List.length_dropLast, hl]; rfl))
  exact this _ l rfl
theorem addUp_nd : ∀ ps, (keys (addUp ps)).Nodup := snoc_rec List.nodup_nil fun l a h => by
  rw [addUp_snoc]
  exact nd_put h
theorem addUp_val (z : Str) : ∀ ps, val (addUp ps) z = sumOf ps z := snoc_rec rfl fun l a h => by
  rw [addUp_snoc, val_put (addUp_nd l)]
  unfold sumOf at h ⊢
  rw [List.filter_append, List.map_append, List.sum_append]
  by_cases e : a.1 = z
  · rw [if_pos e.symm]
    subst e
    rw [h]
    simp
  · rw [if_neg fun q => e q.symm, h]
    simp [e]
theorem addUp_len : ∀ ps, (addUp ps).length ≤ ps.length := snoc_rec (Nat.le_refl _) fun l a h => by
  rw [addUp_snoc, List.length_append]
  exact Nat.le_trans (len_put _ _ _) (Nat.succ_le_succ h)
/-- without zeros -/
def noZero (t : Tab) : Tab := t.filter fun q => decide (q.2 ≠ 0)
theorem noZero_nd {t : Tab} (h : (keys t).Nodup) : (keys (noZero t)).Nodup := by
  unfold keys noZero
  exact List.Nodup.sublist ((List.filter_sublist).map _) h
theorem noZero_mem {t : Tab} {q : Str × Int} : q ∈ noZero t ↔ q ∈ t ∧ q.2 ≠ 0 := by
  unfold noZero
  rw [List.mem_filter, decide_eq_true_eq]
theorem noZero_val {t : Tab} (h : (keys t).Nodup) (z : Str) : val (noZero t) z = val t z := by
  unfold val
  by_cases k : z ∈ keys (noZero t)
  · obtain ⟨n, a, b⟩ := look_some k
    rw [a, look_mem h (noZero_mem.mp b).1]
  · rw [look_none k]
    by_cases m : z ∈ keys t
    · obtain ⟨n, a, b⟩ := look_some m
      rw [a]
      by_cases e : n = 0
      · rw [e]
        rfl
      · exact absurd (List.mem_map.mpr ⟨(z, n), noZero_mem.mpr ⟨b, e⟩, rfl⟩) k
    · rw [look_none m]
/-- a table as Counts hold it -/
structure Held (t : Tab) : Prop where
  nd : (keys t).Nodup
  nz : ∀ q ∈ t, q.2 ≠ 0
theorem Held.of {t : Tab} (h : (keys t).Nodup) : Held (noZero t) := ⟨noZero_nd h, fun q m => (noZero_mem.mp m).2⟩
theorem Held.keys_iff {t : Tab} (h : Held t) (z : Str) : z ∈ keys t ↔ val t z ≠ 0 := by
  unfold val
  constructor
  · intro m
    obtain ⟨n, a, b⟩ := look_some m
    rw [a]
    exact h.nz _ b
  · intro q
    apply Classical.byContradiction
    intro m
    rw [look_none m] at q
    exact q rfl
/-- the pairs of held counts, by their words ascending -/
theorem Held.told {t : Tab} (h : Held t) {ws : List Str} (ha : Asc ws) (hm : ∀ z, z ∈ ws ↔ z ∈ keys t) : Told (val t) (ws.map fun z => (z, val t z)) := by
  have := told_of h.nd ha hm
  unfold toldBy at this
  rw [List.filter_eq_self.mpr] at this
  · exact this
  · intro z m
    exact decide_eq_true ((h.keys_iff z).mp ((hm z).mp m))
end Cs

set_option Elab.async false
set_option linter.all false
set_option maxRecDepth 100000
set_option maxHeartbeats 4000000
/-! What an own class's special methods do: len(o), o[i], o[i] = v; classes called with a starred list. -/
namespace Cs
open PySem PySem.Spec PyProof.Rows L2
/-- a special method of the class at C -/
structure Spc (K : PySem.W.Frag) (C : Addr) (m : Str) (f : Addr) : Prop where
  at_ : PySem.W.findIn K (.ref C) m = some (some (.ref f))
  fn : PySem.W.isFn K (.ref f) = true
section
variable {X : Cx} {CX : CXT} {k i : Nat} {f C g : Addr} {fd : FuncData} {ps : List Str} {sp : Sp} {dvs : List V} {ds : List Value} {E : XK} {x m : Str} {e o : Expr} {es : List Expr} {te ta : TE} {t : TA} {p sp_ pos apos : Pos}
/-- a def run one level down -/
theorem run_fn1 {pins : List (Addr × Obj)} {σ : L2.St} {H : Hp} {s : Shared} {Q : VK} {us : List Value} {vs : List V} (F : FnOk X.prog X.w X.K X.mg X.base CX k f fd ps sp) (hr : Room (k + 1) X.A) (hb : Binds X.K fd ps []) (hx : Passes CX X E)
    (I : Inv X pins σ H s) (r : Vals vs us) (h : sp vs H Q E) : wpAny (model X.prog X.w) X.A.in1 (call (.ref f) us) (EP X pins σ Q) X.xe s := by
  have hl : us.length = ps.length := by rw [← r.length]; exact F.len _ _ _ _ h
  have hb' := hb s us I.kIn (by rw [List.append_nil]; exact hl)
  rw [List.append_nil] at hb'
  refine wpAny_call (codeAny_mono (F.run X.A.in1 X.stack s H ⟨us, []⟩ us vs Q E hr.in1 I.env0.in1 hb' r h) fun r s' hq => ?_)
  cases r with
  | error e => exact hx pins σ H s e s' I hq
  | ok fl =>
    cases fl with
    | ret u => exact I.after hq
    | next => exact False.elim hq
    | brk => exact False.elim hq
    | cont => exact False.elim hq
theorem ins_inst {pins : List (Addr × Obj)} {σ : L2.St} {H : Hp} {s : Shared} {a dx : Addr} {fs : List (Str × V)} (I : Inv X pins σ H s) (h : H a = some (.ins C dx fs)) : ∃ ox od, PySem.W.InstAt s.heap a ox C od ∧ ox.data = .plain := by
  obtain ⟨mA, O, _⟩ := ins_get I.hok h
  obtain ⟨od, J, _⟩ := O.look
  exact ⟨_, _, J, rfl⟩
/-- len(o) by an own __len__ -/
def rLenO (C : Addr) (sp : Sp) (E : XK) : List V → Hp → VK → Prop := fun xs H Q => ∃ a dx fs, xs = [.ref a] ∧ H a = some (.ins C dx fs) ∧ sp [.ref a] H (fun v H2 => ∃ n : Int, v = .int n ∧ (0 ≤ n ∧ n < 2 ^ 63) ∧ Q (.int n) H2) E
theorem call_lenO (c : Spc X.K C "__len__" f) (F : FnOk X.prog X.w X.K X.mg X.base CX k f fd ps sp) (hr : Room (k + 1) X.A) (hb : Binds X.K fd ps []) (hx : Passes CX X E) : CallR X (.builtin "len") (rLenO C sp E) := by
  intro pins s σ H xs us Q I r h
  obtain ⟨a, dx, fs, rfl, ha, q⟩ := h
  rw [Vals.ref1 r]
  obtain ⟨ox, od, J, _⟩ := ins_inst I ha
  obtain ⟨m, Fr⟩ := I.fr
  refine PySem.W.len_K Fr I.ok.mod.kin J c.at_ c.fn (wpAny_mono (run_fn1 (us := [.ref a]) (vs := [.ref a]) F hr hb hx I (.cons rfl .nil) q) (fun v s' z => ?_) fun _ _ z => z)
  obtain ⟨v0, H2, I2, rv, n, e, hn, q2⟩ := z
  subst e
  obtain ⟨tk, rfl⟩ := rv
  exact ⟨hn, .int n, H2, I2.tok _, ⟨_, rfl⟩, q2⟩
/-- o[i] = v by an own __setitem__ -/
def rSetO (C : Addr) (sp : Sp) (E : XK) : V → V → V → Hp → (Hp → Prop) → Prop := fun o i v H Q => ∃ a dx fs, o = .ref a ∧ H a = some (.ins C dx fs) ∧ sp [.ref a, i, v] H (fun _ H2 => Q H2) E
theorem set_own (c : Spc X.K C "__setitem__" f) (hq : PySem.W.noSeq X.K C = true) (F : FnOk X.prog X.w X.K X.mg X.base CX k f fd ps sp) (hr : Room k X.A) (hb : Binds X.K fd ps []) (hx : Passes CX X E) : PSet X (rSetO C sp E) := by
  intro pins s σ H o i v ov iv u Q I ro ri rv h
  obtain ⟨a, dx, fs, rfl, ha, q⟩ := h
  cases ro
  obtain ⟨ox, od, J, _⟩ := ins_inst I ha
  obtain ⟨m, Fr⟩ := I.fr
  refine PySem.W.ksp_setItem Fr I.ok.mod.kin J hq c.at_ c.fn ?_
  refine wpAny_mono (run_fn (us := [.ref a, iv, u]) (vs := [.ref a, i, v]) (dvs := []) F hr hb .nil hx I (.cons rfl (.cons ri (.cons rv .nil))) q) (fun v s' z => ?_) fun _ _ z => z
  obtain ⟨v0, H2, I2, _, q2⟩ := z
  exact ⟨H2, I2, q2⟩
/-- C(*y), C a class of the module -/
def tMkS (K : PySem.W.Frag) (C : Addr) (sp : Sp) (E : XK) (te : TE) : TE := fun σ H Q => te σ H fun y H1 => ∃ a xs, y = V.ref a ∧ (SqT K H1 a xs ∨ SqL K H1 a xs) ∧ ∀ x dx, H1 x = none → H1 dx = none → dx ≠ x →
  sp (V.ref x :: xs) (upd (upd H1 dx (.own x)) x (.ins C dx [])) (fun v H2 => v = .non ∧ Q (.ref x) H2) E
theorem pe_mkS (M : Mk X.K C f) (F : FnR X.prog X.w X.K X.mg X.base CX k f sp) (hr : Room (k + 1) X.A) (hg : Gl X x) (hm : X.mg x = some (.ref C)) (hx : Passes CX X E) (he : PE X e te) (hd : (x == ("__debug__" : Str)) = false := by decide)
    (hst : starEach [.Starred e sp_] X.env = [(true, eval e X.env)] := by rfl) : PE X (.Call (.Name x p) [.Starred e sp_] [] pos) (tMkS X.K C sp E te) := by
  refine ⟨fun pins s σ H Q I h => ?_⟩
  refine wpAny_Call_Name_kw (ld_glob I hg hm ?_ hd)
  refine PySem.W.callWith_S (h₀ := X.base) I.ok.mod.kin M.kp (thn (he.run pins s σ H _ I h) fun v s1 ⟨y, H1, I1, ry, a, xs, ey, hxs, q⟩ => ?_) hst
  subst ey
  obtain rfl : v = Value.ref a := ry
  exact StX.star_any I1 hxs fun us s2 I2 rv => ⟨I2.kIn, StX.run_makeR M F hr hx I2 rv q⟩
/-- c(*y), c a local name that holds the class -/
theorem pe_mkSL (M : Mk X.K C f) (F : FnR X.prog X.w X.K X.mg X.base CX k f sp) (hr : Room (k + 1) X.A) (hN : X.N[i]? = some x) (hv : Vis X.env.scope x) (hx : Passes CX X E) (he : PE X e te) (hdb : (x == ("__debug__" : Str)) = false := by decide)
    (hcd : (x == ("__classdict__" : Str)) = false := by decide) (hst : starEach [.Starred e sp_] X.env = [(true, eval e X.env)] := by rfl) :
    PE X (.Call (.Name x p) [.Starred e sp_] [] pos) (fun σ H Q => σ[i]? = some (some (.ref C)) ∧ tMkS X.K C sp E te σ H Q) := by
  refine ⟨fun pins s σ H Q I h => ?_⟩
  obtain ⟨hs, h⟩ := h
  refine wpAny_Call_Name_kw (thn ((pe_var (pos := p) hN hv hdb hcd).run pins s σ H (fun v H1 => v = .ref C ∧ H1 = H) I ⟨.ref C, hs, rfl, rfl⟩) fun u s0 ⟨v, H0, I0, r0, q0⟩ => ?_)
  obtain ⟨rfl, rfl⟩ := q0
  cases r0
  refine PySem.W.callWith_S (h₀ := X.base) I.ok.mod.kin M.kp (thn (he.run pins s0 σ _ _ I0 h) fun v s1 ⟨y, H1, I1, ry, a, xs, ey, hxs, q⟩ => ?_) hst
  subst ey
  obtain rfl : v = Value.ref a := ry
  exact StX.star_any I1 hxs fun us s2 I2 rv => ⟨I2.kIn, StX.run_makeR M F hr hx I2 rv q⟩
/-- C(), by a positional promise -/
theorem pe_mkR0 (M : Mk X.K C f) (F : FnR X.prog X.w X.K X.mg X.base CX k f sp) (hr : Room (k + 1) X.A) (hg : Gl X x) (hm : X.mg x = some (.ref C)) (hx : Passes CX X E) (hdb : (x == ("__debug__" : Str)) = false := by decide) :
    PE X (.Call (.Name x p) [] [] pos) (StX.tMakeR C sp E tNil) := by
  refine ⟨fun pins s σ H Q I h => ?_⟩
  refine wpAny_Call_Name_kw (ld_glob I hg hm ?_ hdb)
  exact PySem.W.callWith_K0 I.kIn M.kp (StX.run_makeR (us := []) M F hr hx I .nil h)
/-- o.m() by a positional promise -/
theorem pe_methR0 {pl : Sem Bool} (he : PE X o ta) (c : Cls X.K C) (hm : Meth X.K C m f) (F : FnR X.prog X.w X.K X.mg X.base CX k f sp) (hr : Room k X.A) (hx : Passes CX X E)
    (ht : eval (.Call (.Attribute o m apos) [] [] pos) X.env = (do
      let ov ← eval o X.env
      standAt apos.atName
      let (f, first) ← holding [ov] (getMethod ov m pl)
      callWith pos f first (backTo pos (starEach [] X.env)) (backToKw pos (keywordEach [] X.env))) := by rfl) :
    PE X (.Call (.Attribute o m apos) [] [] pos) (tMethR C m sp E ta tNil) := by
  refine ⟨fun pins s σ H Q I h => ?_⟩
  refine PySem.W.methodCall_KW (pl := pl) (thn (he.run pins s σ H _ I h) fun u s1 ⟨x, H1, I1, rx, a, dx, fs, ex, ea, l, q⟩ => ?_) ht
  subst ex
  obtain rfl : u = Value.ref a := rx
  refine getmeth_ok I1 ea c hm l ?_
  exact PySem.W.callWith_K0 (first := [.ref a]) I1.kIn hm.kp (wpAny_call (run_fnR (us := [.ref a]) (vs := [.ref a]) F hr hx I1 (.cons rfl .nil) q))
end
end Cs

set_option Elab.async false
set_option linter.all false
set_option maxRecDepth 100000
set_option maxHeartbeats 4000000
/-! Operators of an own class: + - * & | ^ and the like, unary minus, abs, comparisons, op=, o[i]. -/
namespace Cs
open PySem PySem.Spec PyProof.Rows L2
/-- no value of the layer is NotImplemented -/
theorem back_of {X : Cx} {pins : List (Addr × Obj)} {σ : L2.St} {Q : VK} {u : Value} {s : Shared} (h : EP X pins σ Q u s) : PySem.W.CmpBack (EP X pins σ Q) u s := by
  obtain ⟨v, H', I, r, q⟩ := id h
  cases u <;> first | exact h | (cases v <;> first | (obtain ⟨_, z⟩ := r; cases z; done) | (exact absurd r (by intro z; cases z)))
section
variable {X : Cx} {CX : CXT} {k i : Nat} {f C g : Addr} {fd : FuncData} {ps : List Str} {sp : Sp} {E : XK} {a b : Expr} {ta tb : TE} {pos : Pos} {op : Operator}
/-- the class comes first in its own order -/
structure OpC (K : PySem.W.Frag) (C : Addr) (m : Str) (f : Addr) : Prop where
  sf : PySem.W.selfFirst K C = true
  at_ : PySem.W.findIn K (.ref C) m = some (some (.ref f))
  fn : PySem.W.isFn K (.ref f) = true
/-- x op y, both of the class -/
def rBinO (C : Addr) (sp : Sp) (E : XK) : R2 := fun x y H Q => ∃ p q dp dq fp fq, x = .ref p ∧ y = .ref q ∧ H p = some (.ins C dp fp) ∧ H q = some (.ins C dq fq) ∧ sp [.ref p, .ref q] H Q E
theorem op_own (c : OpC X.K C (PySem.dunder op.info.2) f) (F : FnOk X.prog X.w X.K X.mg X.base CX k f fd ps sp) (hr : Room k X.A) (hb : Binds X.K fd ps []) (hx : Passes CX X E) : OpR X (binaryOp op) (rBinO C sp E) := by
  intro pins s σ H x y v u Q I rx ry h
  obtain ⟨p, q, dp, dq, fp, fq, rfl, rfl, hp, hq, k⟩ := h
  cases rx
  cases ry
  obtain ⟨ox, od, J, _⟩ := ins_inst I hp
  obtain ⟨oy, oe, J2, _⟩ := ins_inst I hq
  obtain ⟨m, Fr⟩ := I.fr
  refine PySem.W.binop_K Fr I.ok.mod.kin J J2.type c.sf c.at_ c.fn ?_
  exact wpAny_mono (run_fn (us := [.ref p, .ref q]) (vs := [.ref p, .ref q]) (dvs := []) F hr hb .nil hx I (.cons rfl (.cons rfl .nil)) k) (fun v s' z => back_of z) fun _ _ z => z
/-- x op n, x of the class, n an int -/
def rBinI (C : Addr) (sp : Sp) (E : XK) : R2 := fun x y H Q => ∃ p dp fp n, x = .ref p ∧ y = .int n ∧ H p = some (.ins C dp fp) ∧ sp [.ref p, .int n] H Q E
structure OpT (K : PySem.W.Frag) (C : Addr) (nm : String) (f g : Addr) : Prop where
  sf : PySem.W.selfFirst K C = true
  at_ : PySem.W.findIn K (.ref C) (PySem.dunder nm) = some (some (.ref f))
  fn : PySem.W.isFn K (.ref f) = true
  rat : PySem.W.findIn K (.ref C) (dunderR nm) = some (some (.ref g))
  rfn : PySem.W.isFn K (.ref g) = true
  sub : PySem.W.subIn K (.type "int") (.ref C) = some false
  sub2 : PySem.W.subIn K (.ref C) (.type "int") = some false
theorem op_ownI {fo ro : Option Value} (c : OpT X.K C op.info.2 f g) (h1 : PySem.W.findIn X.K (.type "int") (PySem.dunder op.info.2) = some fo) (h2 : PySem.W.findIn X.K (.type "int") (dunderR op.info.2) = some ro)
    (F : FnOk X.prog X.w X.K X.mg X.base CX k f fd ps sp) (hr : Room k X.A) (hb : Binds X.K fd ps []) (hx : Passes CX X E) : OpR X (binaryOp op) (rBinI C sp E) := by
  intro pins s σ H x y v u Q I rx ry h
  obtain ⟨p, dp, fp, n, rfl, rfl, hp, k⟩ := h
  cases rx
  obtain ⟨t, rfl⟩ := ry
  obtain ⟨ox, od, J, _⟩ := ins_inst I hp
  obtain ⟨m, Fr⟩ := I.fr
  refine PySem.W.ksp_binT (T := "int") (b := .int n t) Fr I.ok.mod.kin J rfl c.sf c.at_ c.fn c.rat (.inr ⟨g, rfl⟩) h1 h2 c.sub ?_
  exact wpAny_mono (run_fn (us := [.ref p, .int n t]) (vs := [.ref p, .int n]) (dvs := []) F hr hb .nil hx I (.cons rfl (.cons ⟨t, rfl⟩ .nil)) k) (fun v s' z => back_of z) fun _ _ z => z
/-- int.__mul__ of an object that is no int -/
theorem mul_other {prog : Program} {w : World} {A : Around} {E : Value → Shared → Prop} {s : Shared} {x : Addr} {o : Obj} {n : Int} {t : Tok} {Q : Option Value → Shared → Prop} (ho : s.heap.get? x = some o) (hd : o.data = .plain) (h : Q none s) :
    wpAny (model prog w) A (tryMethod (.int n t) (PySem.dunder "mul") (.ref x)) Q E s := by
  unfold tryMethod
  refine wpAny_bind (PySem.wpAny_callSpecial?_slot (typeIs_int s n t) PySem.F.slot_int_mul (wpAny_call_entry PySem.F.slot_int_mul (typeIs_int s n t) PySem.F.entry_int_mul ?_ (PySem.F.args_int_mul_2 _ _)))
  unfold Builtin.«int.__mul__»
  obtain ⟨hp, gg, d, tk, os⟩ := s
  obtain ⟨cls, dict, data, slots⟩ := o
  subst hd
  have ho1 := ho
  wp_walk using wpAny_load ho1
  exact ⟨_, rfl, wpAny_pure h⟩
/-- n * x, x of the class: by its own __rmul__ -/
theorem mul_right {prog : Program} {w : World} {A : Around} {E : Value → Shared → Prop} {s : Shared} {K : PySem.W.Frag} {x : Addr} {ox : Obj} {od : Option Obj} {n : Int} {t : Tok} {Q : Value → Shared → Prop} {ro : Option Value} (X : K.In s.heap) (I : PySem.W.InstAt s.heap x ox C od) (hd : ox.data = .plain)
    (hx : s.heap.get? x = some ox) (c : OpT K C "mul" f g) (h1 : PySem.W.findIn K (.type "int") (PySem.dunder "mul") = some (some (.builtin "int.__mul__"))) (h2 : PySem.W.findIn K (.type "int") (dunderR "mul") = some ro)
    (h : wpAny (model prog w) A (call (.ref g) [.ref x, .int n t]) (PySem.W.CmpBack Q) E s) : wpAny (model prog w) A (binaryOp .Mult (.int n t) (.ref x)) Q E s := by
  obtain ⟨cd, rest, hcd, hm⟩ := PySem.W.ksp_first c.sf
  have one := PySem.W.ksp_try X I c.rat c.rfn h
  have oth := fun Q' (q : Q' none s) => mul_other (prog := prog) (w := w) (A := A) (E := E) (n := n) (t := t) (Q := Q') hx hd q
  have L1 : PySem.W.Looks (model prog w) s.heap (typeOf (.int n t)) (.type "int") := PySem.W.Looks.of_pure rfl
  have L2 : PySem.W.Looks (model prog w) s.heap (typeOf (.ref x)) (.ref C) := I.type
  have L3 : PySem.W.Looks (model prog w) s.heap (fillsNumberSlot (.type "int") "mul") true := by
    have := PySem.W.ksp_fillsT (M := model prog w) X h1 h2
    exact this
  have L4 : PySem.W.Looks (model prog w) s.heap (fillsNumberSlot (.ref C) "mul") true := PySem.W.fills_K X hcd hm c.at_
  have L5 : PySem.W.Looks (model prog w) s.heap (isSubtype (.ref C) (.type "int")) false := PySem.W.looks_subIn X c.sub2
  have L6 : PySem.W.Looks (model prog w) s.heap (numberSlotInPython (.type "int") "mul") false := PySem.W.Looks.of_pure rfl
  have hne : (Value.type "int" == Value.ref C) = false := Bool.eq_false_iff.mpr fun q => by cases beq_iff_eq.mp q
  have hi : Operator.Mult.info.2 = "mul" := rfl
  simp only [binaryOp]
  refine wpAny_holding (wpAny_bind ?_)
  rw [hi]
  unfold binaryOp1
  refine wpAny_bind (L1.here (wpAny_bind (L2.here (wpAny_bind (L3.here ?_)))))
  simp only [hne, Bool.false_eq_true, if_false]
  refine wpAny_bind (L4.here ?_)
  simp only [Bool.and_self, if_true, Bool.true_and, Bool.not_false]
  refine wpAny_bind (L5.here ?_)
  simp only [Bool.false_eq_true, if_false, Bool.not_false, if_true]
  refine wpAny_bind (L6.here ?_)
  simp only [Bool.false_eq_true, if_false]
  refine wpAny_bind (oth _ ?_)
  dsimp only
  refine wpAny_bind (wpAny_mono one (fun r s' z => ?_) fun _ _ e => e)
  obtain ⟨v, rfl, hq⟩ := z
  exact wpAny_bind (wpAny_rule (wpAny_pure (wpAny_pure hq)))
end
end Cs

set_option Elab.async false
set_option linter.all false
set_option maxRecDepth 100000
set_option maxHeartbeats 4000000
namespace Cs
open PySem PySem.Spec PyProof.Rows L2
section
variable {X : Cx} {CX : CXT} {k i : Nat} {f C g : Addr} {fd : FuncData} {ps : List Str} {sp : Sp} {E : XK} {a b : Expr} {ta tb : TE} {pos : Pos} {op : Operator}
theorem ins_obj {pins : List (Addr × Obj)} {σ : L2.St} {H : Hp} {s : Shared} {p dx : Addr} {fs : List (Str × V)} (I : Inv X pins σ H s) (h : H p = some (.ins C dx fs)) : ∃ ox od, PySem.W.InstAt s.heap p ox C od ∧ ox.data = .plain ∧ s.heap.get? p = some ox := by
  obtain ⟨mA, O, _⟩ := ins_get I.hok h
  obtain ⟨od, J, _⟩ := O.look
  exact ⟨_, _, J, rfl, J.at_⟩
/-- n * x -/
def rMulR (C : Addr) (sp : Sp) (E : XK) : R2 := fun x y H Q => ∃ p dp fp n, x = .int n ∧ y = .ref p ∧ H p = some (.ins C dp fp) ∧ sp [.ref p, .int n] H Q E
theorem op_mulR {ro : Option Value} (c : OpT X.K C "mul" f g) (h1 : PySem.W.findIn X.K (.type "int") (PySem.dunder "mul") = some (some (.builtin "int.__mul__"))) (h2 : PySem.W.findIn X.K (.type "int") (dunderR "mul") = some ro)
    (F : FnOk X.prog X.w X.K X.mg X.base CX k g fd ps sp) (hr : Room k X.A) (hb : Binds X.K fd ps []) (hx : Passes CX X E) : OpR X (binaryOp .Mult) (rMulR C sp E) := by
  intro pins s σ H x y v u Q I rx ry h
  obtain ⟨p, dp, fp, n, rfl, rfl, hp, k⟩ := h
  cases ry
  obtain ⟨t, rfl⟩ := rx
  obtain ⟨ox, od, J, hd, hg⟩ := ins_obj I hp
  refine mul_right I.kIn J hd hg c h1 h2 ?_
  exact wpAny_mono (run_fn (us := [.ref p, .int n t]) (vs := [.ref p, .int n]) (dvs := []) F hr hb .nil hx I (.cons rfl (.cons ⟨t, rfl⟩ .nil)) k) (fun v s' z => back_of z) fun _ _ z => z
/-- -x -/
def rNegO (C : Addr) (sp : Sp) (E : XK) : V → Hp → VK → Prop := fun x H Q => ∃ p dp fp, x = .ref p ∧ H p = some (.ins C dp fp) ∧ sp [.ref p] H Q E
theorem un_negO (c : Spc X.K C "__neg__" f) (F : FnOk X.prog X.w X.K X.mg X.base CX k f fd ps sp) (hr : Room k X.A) (hb : Binds X.K fd ps []) (hx : Passes CX X E) : UnR X (unaryOp .USub) (rNegO C sp E) := by
  intro pins s σ H x v Q I rx h
  obtain ⟨p, dp, fp, rfl, hp, k⟩ := h
  cases rx
  obtain ⟨ox, od, J, _⟩ := ins_inst I hp
  obtain ⟨m, Fr⟩ := I.fr
  exact PySem.W.ksp_neg Fr I.ok.mod.kin J c.at_ c.fn (run_fn (us := [.ref p]) (vs := [.ref p]) (dvs := []) F hr hb .nil hx I (.cons rfl .nil) k)
/-- abs(x) -/
def rAbsO (C : Addr) (sp : Sp) (E : XK) : List V → Hp → VK → Prop := fun xs H Q => ∃ p dp fp, xs = [.ref p] ∧ H p = some (.ins C dp fp) ∧ sp [.ref p] H Q E
theorem call_absO (c : Spc X.K C "__abs__" f) (F : FnOk X.prog X.w X.K X.mg X.base CX k f fd ps sp) (hr : Room (k + 1) X.A) (hb : Binds X.K fd ps []) (hx : Passes CX X E) : CallR X (.builtin "abs") (rAbsO C sp E) := by
  intro pins s σ H xs us Q I r h
  obtain ⟨p, dp, fp, rfl, hp, q⟩ := h
  rw [Vals.ref1 r]
  obtain ⟨ox, od, J, _⟩ := ins_inst I hp
  refine Calls.call_function_entry kind_abs plain_abs entry_abs (args_abs _) ?_
  unfold Builtin.«abs»
  refine wpAny_bind (m := oneArg "abs" _) (wpAny_pure ?_)
  refine wpAny_bind (m := callSpecial? (.ref p) (Str.ofString "__abs__")) (PySem.W.special_fn I.kIn J c.at_ (beq_iff_eq.mp c.fn) (wpAny_mono (run_fn1 (us := [.ref p]) (vs := [.ref p]) F hr hb hx I (.cons rfl .nil) q) (fun v s' z => ?_) fun _ _ z => z))
  exact wpAny_pure ⟨_, rfl, z⟩
/-- x op= y -/
theorem ip_own (c : OpC X.K C (dunderI op.info.2) f) (F : FnOk X.prog X.w X.K X.mg X.base CX k f fd ps sp) (hr : Room k X.A) (hb : Binds X.K fd ps []) (hx : Passes CX X E) : PIp X op (fun x y H Q => ∃ p dp fp, x = .ref p ∧ H p = some (.ins C dp fp) ∧ sp [.ref p, y] H Q E) := by
  intro pins s σ H x y v u Q I rx ry h
  obtain ⟨p, dp, fp, rfl, hp, k⟩ := h
  cases rx
  obtain ⟨ox, od, J, _⟩ := ins_inst I hp
  obtain ⟨m, Fr⟩ := I.fr
  refine PySem.W.ksp_inplace Fr I.ok.mod.kin J c.sf c.at_ c.fn ?_
  exact wpAny_mono (run_fn (us := [.ref p, u]) (vs := [.ref p, y]) (dvs := []) F hr hb .nil hx I (.cons rfl (.cons ry .nil)) k) (fun v s' z => back_of z) fun _ _ z => z
/-- x[y] by an own __getitem__ -/
def rIxO (C : Addr) (sp : Sp) (E : XK) : R2 := fun x y H Q => ∃ p dp fp, x = .ref p ∧ H p = some (.ins C dp fp) ∧ sp [.ref p, y] H Q E
theorem pe_ixO (c : Spc X.K C "__getitem__" f) (hf : PySem.W.fnIn X.K f = true) (F : FnOk X.prog X.w X.K X.mg X.base CX k f fd ps sp) (hr : Room (k + 1) X.A) (hb : Binds X.K fd ps []) (hx : Passes CX X E) (ha : PE X a ta) (hi : PE X b tb)
    (hsl : ∀ o i, subscripted b true (.ref o) i = runValue (.builtin "lifetime.subscript" ⟨[.ref o, i], []⟩) := by intro _ _; rfl) : PE X (.Subscript a b pos) (tOp (rIxO C sp E) ta tb) := by
  refine ⟨fun pins s σ H Q I h => ?_⟩
  refine Subscript_ (binT ha hi I h fun v u s2 x y H2 I2 rx ry q => ?_)
  obtain ⟨p, dp, fp, rfl, hp, q⟩ := q
  cases rx
  obtain ⟨ox, od, J, _⟩ := ins_inst I2 hp
  obtain ⟨m, Fr⟩ := I2.fr
  exact PySem.W.sub_K Fr I2.ok.mod.kin J c.at_ hf c.fn (run_fn1 (us := [.ref p, u]) (vs := [.ref p, y]) F hr hb hx I2 (.cons rfl (.cons ry .nil)) q) (hsl _ _)
end
end Cs

set_option Elab.async false
set_option linter.all false
set_option maxRecDepth 100000
set_option maxHeartbeats 4000000
/-! The law's draws: a source is a list of the script's cells and three numbers. -/
namespace Cs
open PySem L2
/-- the builtins and helper defs that are reached, by what the module's names hold -/
structure Bi (mg : Str → Option Value) : Prop where
  len : mg "len" = none
  int : mg "int" = none
  abs : mg "abs" = none
  list : mg "list" = none
  range : mg "range" = none
  sorted : mg "sorted" = none
  str : mg "str" = none
  isinstance : mg "isinstance" = none
  sum : mg "sum" = none
  tuple : mg "tuple" = none
  dict : mg "dict" = none
  all : mg "all" = none
  bool : mg "bool" = none
  enumerate : mg "enumerate" = none
/-- all but what stands at p is as it was -/
def Kp (p : Addr) (H H' : Hp) : Prop := ∀ b o, H b = some o → b ≠ p → H' b = some o
theorem Kp.refl (p : Addr) (H : Hp) : Kp p H H := fun _ _ h _ => h
theorem Kp.trans {p : Addr} {H H1 H2 : Hp} (a : Kp p H H1) (b : Kp p H1 H2) : Kp p H H2 := fun c o h n => b c o (a c o h n) n
theorem Kp.of {p : Addr} {H H1 : Hp} (a : Same H H1) : Kp p H H1 := fun c o h _ => a c o h
theorem Kp.upd {p : Addr} {H : Hp} {o : HO} : Kp p H (upd H p o) := fun c u h n => by rw [upd_ne n]; exact h
theorem Kp.seq {K : PySem.W.Frag} {p a : Addr} {H H' : Hp} {xs : List V} (k : Kp p H H') (h : SqL K H a xs) (n : a ≠ p) : SqL K H' a xs := by
  rcases h with (h | ⟨o, h⟩) | h
  · exact .inl (.inl (k _ _ h n))
  · exact .inl (.inr ⟨o, k _ _ h n⟩)
  · exact .inr h
theorem Same.new {H : Hp} {p : Addr} {o : HO} (h : H p = none) : Same H (L2.upd H p o) := fun b u e => by
  rw [upd_ne (ne_of_none e h)]
  exact e
/-- a source of draws at p, its cells at c -/
def Src (H : Hp) (p c : Addr) : Prop := ∃ (ns : List Int) (i l n : Int), H p = some (.lst [.ref c, .int i, .int l, .int n]) ∧ H c = some (.lst (ns.map V.int)) ∧ c ≠ p ∧ 0 ≤ i ∧ 0 ≤ l
theorem Src.keep {H H' : Hp} {p c : Addr} (h : Src H p c) (s : ∀ b o, (b = p ∨ b = c) → H b = some o → H' b = some o) : Src H' p c := by
  obtain ⟨ns, i, l, n, a, b, r⟩ := h
  exact ⟨ns, i, l, n, s _ _ (.inl rfl) a, s _ _ (.inr rfl) b, r⟩
theorem Src.same {H H' : Hp} {p c : Addr} (s : Same H H') (h : Src H p c) : Src H' p c := h.keep fun b o _ e => s b o e
theorem Src.at_p {H : Hp} {p c : Addr} (h : Src H p c) : ∃ xs, H p = some (.lst xs) := by
  obtain ⟨ns, i, l, n, a, _⟩ := h
  exact ⟨_, a⟩
theorem Src.at_c {H : Hp} {p c : Addr} (h : Src H p c) : ∃ xs, H c = some (.lst xs) := by
  obtain ⟨ns, i, l, n, a, b, _⟩ := h
  exact ⟨_, b⟩
theorem Src.new_p {H : Hp} {p c q : Addr} (h : Src H p c) (n : H q = none) : q ≠ p := by
  obtain ⟨xs, e⟩ := h.at_p
  exact (ne_of_none e n).symm
theorem Src.new_c {H : Hp} {p c q : Addr} (h : Src H p c) (n : H q = none) : q ≠ c := by
  obtain ⟨xs, e⟩ := h.at_c
  exact (ne_of_none e n).symm
theorem Src.tup_p {H : Hp} {p c t : Addr} {xs : List V} (h : Src H p c) (e : H t = some (.tup xs)) : t ≠ p := by
  obtain ⟨ys, a⟩ := h.at_p
  rintro rfl
  rw [e] at a
  cases a
theorem atI0 {α : Type} {a b c d : α} : atI [a, b, c, d] 0 = some a := rfl
theorem atI1 {α : Type} {a b c d : α} : atI [a, b, c, d] 1 = some b := rfl
theorem atI2 {α : Type} {a b c d : α} : atI [a, b, c, d] 2 = some c := rfl
theorem atI3 {α : Type} {a b c d : α} : atI [a, b, c, d] 3 = some d := rfl

def spMixed : Sp := fun vs H Q _ => ∃ c n : Int, vs = [.int c, .int n] ∧ ∀ v : Int, Q (.int v) H
def spDraw : Sp := fun vs H Q _ => ∃ (p c : Addr) (n : Int), vs = [.ref p, .int n] ∧ Src H p c ∧ 0 < n ∧ n < 1329227995784915872903807060280344576 ∧ ∀ (v : Int) (H' : Hp), 0 ≤ v → v < n → Src H' p c → Kp p H H' → Q (.int v) H'
def spSource (K : PySem.W.Frag) : Sp := fun vs H Q _ => ∃ (a : Addr) (ns : List Int), vs = [.ref a] ∧ SqL K H a (ns.map V.int) ∧ ∀ (p c : Addr) (H' : Hp), H p = none → H c = none → Same H H' → Src H' p c → Q (.ref p) H'

section
variable {P : Program} {w : World} {K : PySem.W.Frag} {mg : Str → Option Value} {base : Heap}
theorem ok_mixed {f : Addr} {fd : FuncData} (F : Fun K "_law_mixed" "_law_mixed" s_l_mixed f fd) (g : Bi mg) : FnOk P w K mg base CX0 1 f fd ["_law_cell", "_law_count"] spMixed := by
  refine F.ok sc_l_mixed (fun vs H Q E h => ?_) (fun cdv A outer s H vs Q E hr h => ?_)
  · obtain ⟨_, _, rfl, _⟩ := h
    rfl
  · obtain ⟨c, n, rfl, k⟩ := h
    refine ⟨_, (pss_cons (ps_if (pt_cmpR op_eq (pv 0) pe_int (nomark _)) (pss_one (ps_ret pe_int)) pss_nil)
      (pss_cons (ps_set (i := 2) sc_l_mixed.nd rfl (Or.inl rfl) (pe_op op_mod (pe_callTy call_int1 (by rfl) g.int (by decide +kernel) (pa_cons (pe_op op_add (pe_op op_mul (pv 0) pe_int) (pe_op op_mul (pv 1) pe_int)) pa_nil)) pe_int))
      (pss_one (ps_ret (pe_op op_fdiv (pe_op op_mod (pe_callTy call_int1 (by rfl) g.int (by decide +kernel) (pa_cons (pe_op op_add (pe_op op_add (pe_op op_mul (pv 2) pe_int) (pe_op op_mul (pe_op op_fdiv (pv 2) pe_int) (pv 1))) pe_int) pa_nil)) pe_int) pe_int))))), ?_⟩
    refine ⟨_, rfl, rfl, _, rfl, ite2 (fun _ => k _) (fun _ => ?_)⟩
    refine ⟨_, rfl, _, _, rfl, rfl, .inr ⟨by decide, by decide⟩, _, rfl, _, _, rfl, rfl, .inr ⟨by decide, by decide⟩, _, _, rfl, rfl, Or.inl ⟨_, rfl, _, _, rfl, rfl, (by show (0 : Int) < 2147483647; decide), ?_⟩⟩
    generalize hf : (c * 48271 + n * 69621) % 2147483647 = a
    have h0 : 0 ≤ a := by rw [← hf]; exact Int.emod_nonneg _ (by decide)
    have h1 : a < 2147483647 := by rw [← hf]; exact Int.emod_lt_of_pos _ (by decide)
    refine ⟨_, rfl, _, _, rfl, rfl, .inr ⟨by decide, by decide⟩, _, rfl, _, _, rfl, rfl, ⟨by decide, by decide⟩, _, rfl, _, _, rfl, rfl, .inl ⟨by omega, by omega⟩, _, _, rfl, rfl, _, _, rfl, rfl, Or.inl ⟨_, rfl, _, _, rfl, rfl, (by show (0 : Int) < 2147483399; decide), _, _, rfl, rfl, ⟨by decide, by decide⟩, k _⟩⟩
theorem ok_source {f : Addr} {fd : FuncData} (F : Fun K "_law_source" "_law_source" s_l_source f fd) (g : Bi mg) : FnOk P w K mg base CX0 1 f fd ["_law_script"] (spSource K) := by
  refine F.ok sc_l_source (fun vs H Q E h => ?_) (fun cdv A outer s H vs Q E hr h => ?_)
  · obtain ⟨_, _, rfl, _⟩ := h
    rfl
  · obtain ⟨a, ns, rfl, hS, k⟩ := h
    refine ⟨_, (pss_one (ps_ret (pe_lst (pa_cons (pe_callTy call_list_of (by rfl) g.list (by decide +kernel) (pa_cons (pe_slice sl_list (pv 0) po_none (po_some pe_int)) pa_nil)) (pa_cons pe_int (pa_cons pe_int (pa_cons pe_int pa_nil))))))), ?_⟩
    refine ⟨_, rfl, _, rfl, a, _, rfl, hS, fun q hq => ⟨q, _, rfl, .inl (SqL.of upd_same), fun c hc => ⟨by show 4 ≤ sizeLine; decide, fun p hp => ?_⟩⟩⟩
    have s1 : Same H (upd H q (.lst (cutV (ns.map V.int) none (some 63)))) := Same.new hq
    have s2 := s1.trans (Same.new (o := .lst (cutV (ns.map V.int) none (some 63))) hc)
    have s3 := s2.trans (Same.new (o := .lst [.ref c, .int 0, .int 0, .int 0]) hp)
    have ncp : c ≠ p := ne_of_none (H := upd _ c _) upd_same hp
    obtain ⟨ms, em⟩ : ∃ ms : List Int, cutV (ns.map V.int) none (some 63) = ms.map V.int := by
      unfold cutV
      rw [← List.map_drop, ← List.map_take]
      exact ⟨_, rfl⟩
    refine k p c _ (s2.free hp) (s1.free hc) s3 ⟨ms, 0, 0, 0, upd_same, ?_, ncp, by decide, by decide⟩
    rw [upd_ne ncp, upd_same, em]
theorem ok_draw {f fM : Addr} {fd fdM : FuncData} (F : Fun K "_law_draw" "_law_draw" s_l_draw f fd) (g : Bi mg) (FM : Fun K "_law_mixed" "_law_mixed" s_l_mixed fM fdM) (mM : mg "_law_mixed" = some (.ref fM)) (bM : Binds K fdM ["_law_cell", "_law_count"] []) :
    FnOk P w K mg base CX0 2 f fd ["_law_source_here", "_law_size"] spDraw := by
  have GM : FnOk P w K mg base CX0 1 fM fdM ["_law_cell", "_law_count"] spMixed := ok_mixed FM g
  refine F.ok sc_l_draw (fun vs H Q E h => ?_) (fun cdv A outer s H vs Q E hr h => ?_)
  · obtain ⟨_, _, _, rfl, _⟩ := h
    rfl
  · obtain ⟨p, c, n, rfl, ⟨ns, i, l, m, hp, hc, ncp, hi, hl⟩, n0, n1, k⟩ := h
    have hrM : Room 1 _ := hr.mono (by decide)
    refine ⟨_, (pss_cons (ps_asg (pe_op op_add (pe_ix ix_list (pv 0) pe_int (fun _ _ => rfl)) pe_int) (pg_sub (pv 0) pe_int set_list))
      (C8.pss_cut (ps_if (PW.pt (pw_and (pt_cmpR op_eq (pe_ix ix_list (pv 0) pe_int (fun _ _ => rfl)) pe_int (nomark _)) (pw_and1 (pt_cmpR op_gt (pe_callB call_len (by rfl) g.len PySem.boot_len (pa_cons (pe_ix ix_list (pv 0) pe_int (fun _ _ => rfl)) pa_nil)) pe_int (nomark _))))) (pss_cons (ps_set (i := 2) sc_l_draw.nd rfl (Or.inl rfl) (pe_ix ix_list (pv 0) pe_int (fun _ _ => rfl)))
      (pss_cons (ps_set (i := 3) sc_l_draw.nd rfl (Or.inl rfl) (pe_ix ix_list (pe_ix ix_list (pv 0) pe_int (fun _ _ => rfl)) (pe_op op_mod (pe_callTy call_int1 (by rfl) g.int (by decide +kernel) (pa_cons (pv 2) pa_nil)) (pe_callB call_len (by rfl) g.len PySem.boot_len (pa_cons (pe_ix ix_list (pv 0) pe_int (fun _ _ => rfl)) pa_nil))) (fun _ _ => rfl)))
      (pss_cons (ps_asg (pe_op op_add (pv 2) pe_int) (pg_sub (pv 0) pe_int set_list))
      (pss_one (ps_if (PW.pt (pw_and (pt_cmpR op_lt (pv 2) (pe_callB call_len (by rfl) g.len PySem.boot_len (pa_cons (pe_ix ix_list (pv 0) pe_int (fun _ _ => rfl)) pa_nil)) (nomark _)) (pw_and1 (pt_cmpR op_ge (pe_callB call_abs (by rfl) g.abs (by decide +kernel) (pa_cons (pv 3) pa_nil)) (pe_op op_pow pe_int pe_int) (nomark _))))) (pss_one (ps_asg (pe_callB call_abs (by rfl) g.abs (by decide +kernel) (pa_cons (pv 3) pa_nil)) (pg_sub (pv 0) pe_int set_list))) (pss_one (ps_ret (pe_op op_mod (pe_callTy call_int1 (by rfl) g.int (by decide +kernel) (pa_cons (pe_call GM hrM rfl mM FM.kp bM .nil pass0 (pa_cons (pv 3) (pa_cons (pe_ix ix_list (pv 0) pe_int (fun _ _ => rfl)) pa_nil))) pa_nil)) (pv 1))))))))) pss_nil)
      (pss_cons (ps_set (i := 4) sc_l_draw.nd rfl (Or.inl rfl) (pe_op op_mod (pe_callTy call_int1 (by rfl) g.int (by decide +kernel) (pa_cons (pe_ix ix_list (pv 0) pe_int (fun _ _ => rfl)) pa_nil)) (pv 1)))
      (pss_cons (ps_asg (pe_op op_fdivW (pe_ix ix_list (pv 0) pe_int (fun _ _ => rfl)) (pv 1)) (pg_sub (pv 0) pe_int set_list))
      (pss_one (ps_ret (pv 4))))))), ?_⟩
    have c1 : ∀ o, (upd H p o) c = some (.lst (ns.map V.int)) := fun o => by rw [upd_ne ncp]; exact hc
    have q1 : ∀ xs, SqL K (upd H p (.lst xs)) p xs := fun xs => SqL.of upd_same
    have q2 : ∀ o, SqL K (upd H p o) c (ns.map V.int) := fun o => SqL.of (c1 o)
    refine ⟨_, rfl, p, _, _, _, rfl, rfl, SqL.of hp, atI3, _, _, rfl, rfl, _, rfl, p, _, _, 3, rfl, rfl, hp, rfl, ?_⟩
    have e1 : ([V.ref c, .int i, .int l, .int m].set 3 (.int (m + 1))) = [V.ref c, .int i, .int l, .int (m + 1)] := rfl
    rw [e1]
    refine ⟨fun σ' H2 => ∃ x2 x3 x4 j l2, σ' = [some (.ref p), some (.int n), x2, x3, x4] ∧ H2 p = some (.lst [.ref c, .int j, .int l2, .int (m + 1)]) ∧ H2 c = some (.lst (ns.map V.int)) ∧ 0 ≤ j ∧ 0 ≤ l2 ∧ Kp p H H2, ?_, ?_⟩
    · refine ⟨_, rfl, p, _, _, _, rfl, rfl, q1 _, atI2, rfl, _, rfl, ?_⟩
      refine ite2 (fun z => ?_) (fun z => ?_)
      · refine ⟨_, rfl, p, _, _, _, rfl, rfl, q1 _, atI0, _, _, rfl, .inl ⟨_, q2 _, rfl⟩, _, _, rfl, rfl, _, rfl, ?_⟩
        rw [List.length_map]
        refine ite2 (fun z2 => ?_) (fun z2 => ?_)
        · have hlen : 0 < ns.length := by simpa using z2
          refine ⟨_, rfl, p, _, _, _, rfl, rfl, q1 _, atI1, ?_⟩
          have hx0 : 0 ≤ i % (ns.length : Int) := Int.emod_nonneg _ (by omega)
          have hx1 : i % (ns.length : Int) < (ns.length : Int) := Int.emod_lt_of_pos _ (by omega)
          obtain ⟨j, ej⟩ : ∃ j : Nat, i % (ns.length : Int) = (j : Int) := ⟨(i % (ns.length : Int)).toNat, by omega⟩
          have hj : j < ns.length := by omega
          have hat : atI (ns.map V.int) (i % ((ns.map V.int).length : Int)) = some (.int ns[j]) := by
            rw [List.length_map, ej]
            exact atI_nat (by rw [List.getElem?_map, List.getElem?_eq_getElem hj]; rfl)
          refine ⟨_, rfl, p, _, _, _, rfl, rfl, q1 _, atI0, _, rfl, Or.inl ⟨_, rfl, _, rfl, p, _, _, _, rfl, rfl, q1 _, atI0, _, _, rfl, .inl ⟨_, q2 _, rfl⟩, _, _, rfl, rfl, (by rw [List.length_map]; omega), c, _, _, _, rfl, rfl, q2 _, hat, ?_⟩⟩
          refine ⟨_, rfl, _, _, rfl, rfl, _, rfl, p, _, _, 1, rfl, rfl, upd_same, rfl, ?_⟩
          have e2 : ([V.ref c, .int i, .int l, .int (m + 1)].set 1 (.int (i + 1))) = [V.ref c, .int (i + 1), .int l, .int (m + 1)] := rfl
          rw [e2]
          have c2 : ∀ o o', (upd (upd H p o) p o') c = some (.lst (ns.map V.int)) := fun o o' => by rw [upd_ne ncp]; exact c1 o
          have kp2 : ∀ o o', Kp p H (upd (upd H p o) p o') := fun o o' => Kp.upd.trans Kp.upd
          have other : ∀ v : Int, Q (.int (v % n)) (upd (upd H p (.lst [.ref c, .int i, .int l, .int (m + 1)])) p (.lst [.ref c, .int (i + 1), .int l, .int (m + 1)])) := fun v =>
            k _ _ (Int.emod_nonneg _ (by omega)) (Int.emod_lt_of_pos _ n0) ⟨ns, i + 1, l, m + 1, upd_same, c2 _ _, ncp, by omega, hl⟩ (kp2 _ _)
          refine ⟨_, rfl, _, rfl, p, _, _, _, rfl, rfl, SqL.of upd_same, atI0, _, _, rfl, .inl ⟨_, SqL.of (c2 _ _), rfl⟩, _, _, rfl, rfl, _, rfl, ?_⟩
          refine ite2 (fun z3 => ?_) (fun z3 => ?_)
          · refine ⟨_, rfl, _, rfl, _, _, rfl, rfl, ⟨by decide, by decide, by decide⟩, _, _, rfl, rfl, _, rfl, ?_⟩
            refine ite2 (fun z4 => ?_) (fun z4 => ?_)
            · refine ⟨_, rfl, _, rfl, _, rfl, p, _, _, 2, rfl, rfl, upd_same, rfl, ?_⟩
              refine ⟨_, _, _, i + 1, _, rfl, upd_same, by rw [upd_ne ncp]; exact c2 _ _, by omega, ?_, (kp2 _ _).trans Kp.upd⟩
              split <;> omega
            · refine ⟨_, rfl, _, rfl, p, _, _, _, rfl, rfl, SqL.of upd_same, atI3, _, _, rfl, fun v => Or.inl ⟨_, rfl, _, rfl, _, _, rfl, rfl, n0, other v⟩⟩
          · refine ⟨_, rfl, _, rfl, p, _, _, _, rfl, rfl, SqL.of upd_same, atI3, _, _, rfl, fun v => Or.inl ⟨_, rfl, _, rfl, _, _, rfl, rfl, n0, other v⟩⟩
        · exact ⟨_, _, _, i, l, rfl, upd_same, c1 _, hi, hl, Kp.upd⟩
      · exact ⟨_, _, _, i, l, rfl, upd_same, c1 _, hi, hl, Kp.upd⟩
    · rintro σ' H2 ⟨x2, x3, x4, j, l2, rfl, hp2, hc2, j0, l0, kp⟩
      refine ⟨_, rfl, p, _, _, _, rfl, rfl, SqL.of hp2, atI2, Or.inl ⟨_, rfl, _, rfl, _, _, rfl, rfl, n0, ?_⟩⟩
      refine ⟨_, rfl, p, _, _, _, rfl, rfl, SqL.of hp2, atI2, _, rfl, _, _, rfl, rfl, wide_div (b := 120) n0 (by omega) (by decide) (by decide), _, rfl, p, _, _, 2, rfl, rfl, hp2, rfl, ?_⟩
      refine ⟨_, rfl, ?_⟩
      exact k _ _ (Int.emod_nonneg _ (by omega)) (Int.emod_lt_of_pos _ n0) ⟨ns, j, l2 / n, m + 1, upd_same, by rw [upd_ne ncp]; exact hc2, ncp, j0, Int.ediv_nonneg l0 (by omega)⟩ (kp.trans Kp.upd)
end
end Cs

set_option Elab.async false
set_option linter.all false
set_option maxRecDepth 100000
set_option maxHeartbeats 4000000
/-! The law's words, numbers and pairs. -/
namespace Cs
open PySem L2
def LET : Str := "abcdefghijklmnopqrstuvwxyz"
/-- one to eight letters -/
def Word (z : Str) : Prop := 1 ≤ z.length ∧ z.length ≤ 8 ∧ ∀ c ∈ z.cps.toList, c ∈ LET.cps.toList
/-- at most thirty digits -/
def Small (n : Int) : Prop := -(10 ^ 30) < n ∧ n < 10 ^ 30
theorem len_add (x y : Str) : (x ++ y).length = x.length + y.length := by
  show (x.cps ++ y.cps).size = x.cps.size + y.cps.size
  exact Array.size_append
theorem cps_add (x y : Str) : (x ++ y).cps.toList = x.cps.toList ++ y.cps.toList := by
  show (x.cps ++ y.cps).toList = _
  exact Array.toList_append
def wordB (z : Str) : Bool := decide (1 ≤ z.length) && decide (z.length ≤ 8) && z.cps.toList.all fun c => decide (c ∈ LET.cps.toList)
theorem word_of {z : Str} (h : wordB z = true) : Word z := by
  unfold wordB at h
  simp only [Bool.and_eq_true, decide_eq_true_eq, List.all_eq_true] at h
  exact ⟨h.1.1, h.1.2, h.2⟩
theorem ats_of {α : Type} {xs : List α} {z : Int} {j : Nat} {v : α} (e : z = (j : Int)) (h : xs[j]? = some v) : atI xs z = some v := by
  rw [e]
  exact atI_nat h
def spWord : Sp := fun vs H Q _ => ∃ p c : Addr, vs = [.ref p] ∧ Src H p c ∧ ∀ (z : Str) (H' : Hp), Word z → Src H' p c → Kp p H H' → Q (.str z) H'
def spNumber : Sp := fun vs H Q _ => ∃ p c : Addr, vs = [.ref p] ∧ Src H p c ∧ ∀ (n : Int) (H' : Hp), Small n → Src H' p c → Kp p H H' → Q (.int n) H'
/-- the items are tuples of a text and a number -/
def PrL (H : Hp) : List V → List (Str × Int) → Prop := Paired fun x q => ∃ t, x = V.ref t ∧ H t = some (.tup [.str q.1, .int q.2])
def GoodPs (ps : List (Str × Int)) : Prop := ∀ q ∈ ps, Word q.1 ∧ Small q.2
def spPairs : Sp := fun vs H Q _ => ∃ (p c : Addr) (m : Int), vs = [.ref p, .int m] ∧ Src H p c ∧ 0 ≤ m ∧ m ≤ 1000 ∧
  ∀ (q : Addr) (H' : Hp) (xs : List V) (ps : List (Str × Int)), H q = none → H' q = some (.lst xs) → PrL H' xs ps → GoodPs ps → (ps.length : Int) ≤ m → Src H' p c → Kp p H H' → Q (.ref q) H'
theorem PrL.mono {H H' : Hp} {xs : List V} {ps : List (Str × Int)} (h : PrL H xs ps) (k : ∀ t a b, H t = some (.tup [.str a, .int b]) → H' t = some (.tup [.str a, .int b])) : PrL H' xs ps :=
  Paired.mapP h fun x q ⟨t, e, r⟩ => ⟨t, e, k t _ _ r⟩
theorem PrL.length {H : Hp} : ∀ {xs : List V} {ps : List (Str × Int)}, PrL H xs ps → xs.length = ps.length
  | _, _, .nil => rfl
  | _, _, .cons _ t => congrArg (· + 1) (PrL.length t)
theorem PrL.at {H : Hp} : ∀ {xs : List V} {ps : List (Str × Int)}, PrL H xs ps → ∀ {i : Nat} {q : Str × Int}, ps[i]? = some q → ∃ t, xs[i]? = some (V.ref t) ∧ H t = some (.tup [.str q.1, .int q.2])
  | _, _, .nil, i, q, h => by simp at h
  | _, _, .cons (a := a) r t, 0, q, h => by
    obtain ⟨u, e, hu⟩ := r
    obtain rfl := Option.some.inj h
    exact ⟨u, by rw [e]; rfl, hu⟩
  | _, _, .cons r t, i + 1, q, h => PrL.at t h
theorem PrL.snoc {H : Hp} : ∀ {xs : List V} {ps : List (Str × Int)} {t : Addr} {a : Str} {b : Int}, PrL H xs ps → H t = some (.tup [.str a, .int b]) → PrL H (xs ++ [.ref t]) (ps ++ [(a, b)])
  | _, _, _, _, _, .nil, h => .cons ⟨_, rfl, h⟩ .nil
  | _, _, _, _, _, .cons r t, h => .cons r (PrL.snoc t h)
section
variable {P : Program} {w : World} {K : PySem.W.Frag} {mg : Str → Option Value} {base : Heap}
/-- a def of the module as its callers have it: its promise, its name, that it stays, how its arguments bind -/
structure Def (P : Program) (w : World) (K : PySem.W.Frag) (mg : Str → Option Value) (base : Heap) (CX : CXT) (k : Nat) (x : Str) (ps : List Str) (sp : Sp) (f : Addr) (fd : FuncData) : Prop where
  ok : FnOk P w K mg base CX k f fd ps sp
  m : mg x = some (.ref f)
  kp : PySem.W.keepIn K (.ref f) = true
  b : Binds K fd ps []
theorem ok_word {f fD : Addr} {fd fdD : FuncData} (F : Fun K "_law_word" "_law_word" s_l_word f fd) (g : Bi mg) (FD : Def P w K mg base CX0 2 "_law_draw" ["_law_source_here", "_law_size"] spDraw fD fdD) : FnOk P w K mg base CX0 3 f fd ["_law_source_here"] spWord := by
  obtain ⟨GD, mD, _, bD⟩ := id FD
  refine F.ok sc_l_word (fun vs H Q E h => ?_) (fun cdv A outer s H vs Q E hr h => ?_)
  · obtain ⟨_, _, rfl, _⟩ := h
    rfl
  · obtain ⟨p, c, rfl, hS, k⟩ := h
    have hrD : Room 2 _ := hr.mono (by decide)
    refine ⟨_, (pss_cons (ps_if (pt_cmpR op_eq (pe_call GD hrD rfl mD FD.kp bD .nil pass0 (pa_cons (pv 0) (pa_cons pe_int pa_nil))) pe_int (nomark _)) (pss_cons (ps_set (i := 1) sc_l_word.nd rfl (Or.inl rfl) (pe_lst (pa_cons pe_str (pa_cons pe_str (pa_cons pe_str (pa_cons pe_str (pa_cons pe_str (pa_cons pe_str (pa_cons pe_str (pa_cons pe_str pa_nil))))))))))
      (pss_one (ps_ret (pe_ix ix_list (pv 1) (pe_call GD hrD rfl mD FD.kp bD .nil pass0 (pa_cons (pv 0) (pa_cons pe_int pa_nil))) (fun _ _ => rfl))))) pss_nil)
      (pss_cons (ps_set (i := 2) sc_l_word.nd rfl (Or.inl rfl) pe_str)
      (pss_cons (ps_for PassesOwn.never rfl (pi_range1 rfl g.range (pa_cons (pe_op op_add pe_int (pe_call GD hrD rfl mD FD.kp bD .nil pass0 (pa_cons (pv 0) (pa_cons pe_int pa_nil)))) pa_nil)) (pg_name (i := 3) sc_l_word.nd rfl (Or.inl rfl)) (pss_one (ps_set (i := 2) sc_l_word.nd rfl (Or.inl rfl) (pe_op op_add_str (pv 2) (pe_ix ix_str pe_str (pe_call GD hrD rfl mD FD.kp bD .nil pass0 (pa_cons (pv 0) (pa_cons pe_int pa_nil))) (fun _ _ => rfl))))))
      (pss_one (ps_ret (pv 2)))))), ?_⟩
    refine ⟨_, rfl, p, c, 8, rfl, hS, by decide, by decide, fun v H1 v0 v1 S1 k1 => ⟨rfl, _, rfl, ite2 (fun z => ?_) (fun z => ?_)⟩⟩
    · refine ⟨by show 8 ≤ sizeLine; decide, fun l hl => ?_⟩
      have s2 : Same H1 (upd H1 l (.lst [.str "self", .str "hold", .str "gone", .str "main", .str "zzzzzzzz", .str "aaaaaaab", .str "if", .str "spare"])) := Same.new hl
      have nlp : l ≠ p := S1.new_p hl
      refine ⟨_, rfl, _, rfl, p, c, 8, rfl, S1.same s2, by decide, by decide, fun v2 H2 a0 a1 S2 k2 => ?_⟩
      have hl2 := k2 l _ upd_same nlp
      have key : ∀ j : Nat, j < 8 → ∃ z : Str, ([.str "self", .str "hold", .str "gone", .str "main", .str "zzzzzzzz", .str "aaaaaaab", .str "if", .str "spare"] : List V)[j]? = some (.str z) ∧ Word z := by
        intro j hj
        match j, hj with
        | 0, _ => exact ⟨_, rfl, word_of (by decide +kernel)⟩
        | 1, _ => exact ⟨_, rfl, word_of (by decide +kernel)⟩
        | 2, _ => exact ⟨_, rfl, word_of (by decide +kernel)⟩
        | 3, _ => exact ⟨_, rfl, word_of (by decide +kernel)⟩
        | 4, _ => exact ⟨_, rfl, word_of (by decide +kernel)⟩
        | 5, _ => exact ⟨_, rfl, word_of (by decide +kernel)⟩
        | 6, _ => exact ⟨_, rfl, word_of (by decide +kernel)⟩
        | 7, _ => exact ⟨_, rfl, word_of (by decide +kernel)⟩
      obtain ⟨z, ez, hz⟩ := key v2.toNat (by omega)
      refine ⟨l, _, v2, _, rfl, rfl, SqL.of hl2, at_of (z := v2) (j := v2.toNat) (by omega) ez, ?_⟩
      exact k z H2 hz S2 ((k1.trans (Kp.of s2)).trans k2)
    · refine ⟨_, rfl, p, c, 8, rfl, S1, by decide, by decide, fun v2 H2 a0 a1 S2 k2 => ⟨_, _, rfl, rfl, _, rfl, by omega, by omega, ?_⟩⟩
      refine for_range (lo := 0) (n := (1 + v2).toNat) (fun i σ' H' => ∃ (z : Str) (x1 x3 : Option V), σ' = [some (.ref p), x1, some (.str z), x3] ∧ z.length = i ∧ (∀ y ∈ z.cps.toList, y ∈ LET.cps.toList) ∧ Src H' p c ∧ Kp p H H')
        ⟨"", _, _, rfl, rfl, (by intro y hc; cases hc), S2, k1.trans k2⟩ ?_ ?_
      · rintro i σ' H' hi ⟨z, x1, x3, rfl, hz, hc, S', kp'⟩
        refine ⟨_, rfl, _, rfl, p, c, 26, rfl, S', by decide, by decide, fun v3 H3 b0 b1 S3 k3 => ?_⟩
        have hx : v3.toNat < LET.cps.toList.length := by
          have : LET.cps.toList.length = 26 := by decide +kernel
          omega
        refine ⟨LET, v3, LET.cps.toList[v3.toNat], rfl, rfl, by decide +kernel, ats_of (z := v3) (j := v3.toNat) (by omega) (List.getElem?_eq_getElem hx), z, _, rfl, rfl, ?_, ?_⟩
        · have : (⟨#[LET.cps.toList[v3.toNat]]⟩ : Str).length = 1 := rfl
          rw [this, hz]
          exact Nat.le_trans (show i + 1 ≤ 1000 by omega) (by decide)
        · refine ⟨_, _, _, rfl, ?_, fun y hc' => ?_, S3, kp'.trans k3⟩
          · rw [len_add, hz]
            rfl
          · rw [cps_add] at hc'
            rcases List.mem_append.mp hc' with q | q
            · exact hc y q
            · have e : y = LET.cps.toList[v3.toNat] := by simpa using q
              rw [e]
              exact List.getElem_mem hx
      · rintro σ' H' ⟨z, x1, x3, rfl, hz, hc, S', kp'⟩
        exact ⟨_, rfl, k z H' ⟨by omega, by omega, hc⟩ S' kp'⟩
theorem ok_number {f fD : Addr} {fd fdD : FuncData} (F : Fun K "_law_number" "_law_number" s_l_number f fd) (g : Bi mg) (FD : Def P w K mg base CX0 2 "_law_draw" ["_law_source_here", "_law_size"] spDraw fD fdD) : FnOk P w K mg base CX0 3 f fd ["_law_source_here"] spNumber := by
  obtain ⟨GD, mD, _, bD⟩ := id FD
  refine F.ok sc_l_number (fun vs H Q E h => ?_) (fun cdv A outer s H vs Q E hr h => ?_)
  · obtain ⟨_, _, rfl, _⟩ := h
    rfl
  · obtain ⟨p, c, rfl, hS, k⟩ := h
    have hrD : Room 2 _ := hr.mono (by decide)
    refine ⟨_, (pss_cons (ps_set (i := 1) sc_l_number.nd rfl (Or.inl rfl) (pe_call GD hrD rfl mD FD.kp bD .nil pass0 (pa_cons (pv 0) (pa_cons pe_int pa_nil))))
      (pss_cons (ps_if (pt_cmpR op_eq (pv 1) pe_int (nomark _)) (pss_one (ps_ret (pe_op op_sub (pe_call GD hrD rfl mD FD.kp bD .nil pass0 (pa_cons (pv 0) (pa_cons pe_int pa_nil))) pe_int))) pss_nil)
      (pss_cons (ps_if (pt_cmpR op_eq (pv 1) pe_int (nomark _)) (pss_one (ps_ret (pe_op op_sub (pe_call GD hrD rfl mD FD.kp bD .nil pass0 (pa_cons (pv 0) (pa_cons pe_int pa_nil))) pe_int))) pss_nil)
      (pss_cons (ps_set (i := 2) sc_l_number.nd rfl (Or.inl rfl) pe_int)
      (pss_cons (ps_for PassesOwn.never rfl (pi_range1 rfl g.range (pa_cons pe_int pa_nil)) (pg_name (i := 3) sc_l_number.nd rfl (Or.inl rfl)) (pss_one (ps_set (i := 2) sc_l_number.nd rfl (Or.inl rfl) (pe_op op_add (pe_op op_mul (pv 2) (pe_op op_pow pe_int pe_int)) (pe_call GD hrD rfl mD FD.kp bD .nil pass0 (pa_cons (pv 0) (pa_cons (pe_op op_pow pe_int pe_int) pa_nil)))))))
      (pss_cons (ps_set (i := 2) sc_l_number.nd rfl (Or.inl rfl) (pe_op op_mod (pe_callTy call_int1 (by rfl) g.int (by decide +kernel) (pa_cons (pv 2) pa_nil)) (pe_op op_pow pe_int pe_int)))
      (pss_one (ps_ret (pe_ifExp (pt_cmpR op_eq (pv 1) pe_int (nomark _)) (pv 2) (pe_un un_neg (pv 2))))))))))), ?_⟩
    refine ⟨_, rfl, p, c, 4, rfl, hS, by decide, by decide, fun v H1 v0 v1 S1 k1 => ?_⟩
    refine ⟨_, rfl, rfl, _, rfl, ite2 (fun z => ?_) (fun z => ?_)⟩
    · refine ⟨_, rfl, p, c, 7, rfl, S1, by decide, by decide, fun v2 H2 a0 a1 S2 k2 => ⟨_, _, rfl, rfl, k _ _ ⟨by omega, by omega⟩ S2 (k1.trans k2)⟩⟩
    refine ⟨_, rfl, rfl, _, rfl, ite2 (fun z => ?_) (fun z => ?_)⟩
    · refine ⟨_, rfl, p, c, 2001, rfl, S1, by decide, by decide, fun v2 H2 a0 a1 S2 k2 => ⟨_, _, rfl, rfl, k _ _ ⟨by omega, by omega⟩ S2 (k1.trans k2)⟩⟩
    refine ⟨4, rfl, by decide, by decide, ?_⟩
    refine for_range (lo := 0) (n := 4) (fun i σ' H' => ∃ (n : Int) (x3 : Option V), σ' = [some (.ref p), some (.int v), some (.int n), x3] ∧ Src H' p c ∧ Kp p H H') ⟨0, _, rfl, S1, k1⟩ ?_ ?_
    · rintro i σ' H' hi ⟨n, x3, rfl, S', kp'⟩
      refine ⟨_, rfl, _, _, rfl, rfl, ⟨by decide, by decide, by decide⟩, _, _, rfl, rfl, .inr ⟨by decide, by decide⟩, _, rfl, _, _, rfl, rfl, ⟨by decide, by decide, by decide⟩, p, c, _, rfl, S', by decide, by decide, fun v3 H3 b0 b1 S3 k3 => ?_⟩
      exact ⟨_, _, rfl, rfl, _, _, rfl, S3, kp'.trans k3⟩
    · rintro σ' H' ⟨n, x3, rfl, S', kp'⟩
      refine ⟨_, rfl, Or.inl ⟨_, rfl, _, _, rfl, rfl, ⟨by decide, by decide, by decide⟩, _, _, rfl, rfl, (by show (0 : Int) < 10 ^ 30; decide), ?_⟩⟩
      have e : ((10 : Int) ^ (30 : Int).toNat) = 10 ^ 30 := rfl
      rw [e]
      have h0 : 0 ≤ n % 10 ^ 30 := Int.emod_nonneg _ (by decide)
      have h1 : n % 10 ^ 30 < 10 ^ 30 := Int.emod_lt_of_pos _ (by decide)
      refine ⟨_, rfl, rfl, _, rfl, ite2 (fun z => ?_) (fun z => ?_)⟩
      · exact ⟨_, rfl, k _ _ ⟨by omega, h1⟩ S' kp'⟩
      · exact ⟨_, rfl, _, rfl, k _ _ ⟨by omega, by omega⟩ S' kp'⟩
end
end Cs

set_option Elab.async false
set_option linter.all false
set_option maxRecDepth 100000
set_option maxHeartbeats 4000000
namespace Cs
open PySem L2
section
variable {P : Program} {w : World} {K : PySem.W.Frag} {mg : Str → Option Value} {base : Heap}
theorem ok_pairs {f fD fW fN : Addr} {fd fdD fdW fdN : FuncData} (F : Fun K "_law_pairs" "_law_pairs" s_l_pairs f fd) (g : Bi mg) (FD : Def P w K mg base CX0 2 "_law_draw" ["_law_source_here", "_law_size"] spDraw fD fdD)
    (FW : Def P w K mg base CX0 3 "_law_word" ["_law_source_here"] spWord fW fdW) (FN : Def P w K mg base CX0 3 "_law_number" ["_law_source_here"] spNumber fN fdN) :
    FnOk P w K mg base CX0 4 f fd ["_law_source_here", "_law_most"] spPairs := by
  obtain ⟨GD, mD, _, bD⟩ := id FD
  obtain ⟨GW, mW, _, bW⟩ := id FW
  obtain ⟨GN, mN, _, bN⟩ := id FN
  refine F.ok sc_l_pairs (fun vs H Q E h => ?_) (fun cdv A outer s H vs Q E hr h => ?_)
  · obtain ⟨_, _, _, rfl, _⟩ := h
    rfl
  · obtain ⟨p, cc, m, rfl, hS, m0, m1, k⟩ := h
    have hrD : Room 2 _ := hr.mono (by decide)
    have hrW : Room 3 _ := hr.mono (by decide)
    have hrN : Room 3 _ := hr.mono (by decide)
    refine ⟨_, (pss_cons (ps_set (i := 2) sc_l_pairs.nd rfl (Or.inl rfl) (pe_lst pa_nil))
      (pss_cons (ps_for PassesOwn.never rfl (pi_range1 rfl g.range (pa_cons (pe_call GD hrD rfl mD FD.kp bD .nil pass0 (pa_cons (pv 0) (pa_cons (pe_op op_add (pv 1) pe_int) pa_nil))) pa_nil)) (pg_name (i := 3) sc_l_pairs.nd rfl (Or.inl rfl)) (pss_cons (ps_set (i := 4) sc_l_pairs.nd rfl (Or.inl rfl) (pe_call GW hrW rfl mW FW.kp bW .nil pass0 (pa_cons (pv 0) pa_nil)))
      (C8.pss_cut (ps_if (PW.pt (pw_and (pt_cmpR op_gt (pe_callB call_len (by rfl) g.len PySem.boot_len (pa_cons (pv 2) pa_nil)) pe_int (nomark _)) (pw_and1 (pt_cmpR op_eq (pe_call GD hrD rfl mD FD.kp bD .nil pass0 (pa_cons (pv 0) (pa_cons pe_int pa_nil))) pe_int (nomark _))))) (pss_one (ps_set (i := 4) sc_l_pairs.nd rfl (Or.inl rfl) (pe_ix ix_tup (pe_ix ix_list (pv 2) (pe_call GD hrD rfl mD FD.kp bD .nil pass0 (pa_cons (pv 0) (pa_cons (pe_callB call_len (by rfl) g.len PySem.boot_len (pa_cons (pv 2) pa_nil)) pa_nil))) (fun _ _ => rfl)) pe_int (fun _ _ => rfl)))) pss_nil)
      (pss_one (ps_expr (pe_bm PySem.F.plainAttrs_list PySem.F.slot_list_append PySem.F.type_list_append mt_append (pv 2) (pa_cons (pe_tup (pa_cons (pv 4) (pa_cons (pe_call GN hrN rfl mN FN.kp bN .nil pass0 (pa_cons (pv 0) pa_nil)) pa_nil))) pa_nil)))))))
      (pss_one (ps_ret (pv 2))))), ?_⟩
    refine ⟨Nat.zero_le _, fun q hq => ?_⟩
    have s1 : Same H (upd H q (.lst [])) := Same.new hq
    have nqp : q ≠ p := hS.new_p hq
    have nqc : q ≠ cc := hS.new_c hq
    refine ⟨_, rfl, _, rfl, _, _, rfl, rfl, p, cc, m + 1, rfl, hS.same s1, by omega, by omega, fun v H1 v0 v1 S1 k1 => ⟨_, rfl, by omega, by omega, ?_⟩⟩
    refine for_range (lo := 0) (n := v.toNat) (fun i σ' H' => ∃ (xs : List V) (ps : List (Str × Int)) (x3 x4 : Option V), σ' = [some (.ref p), some (.int m), some (.ref q), x3, x4] ∧ H' q = some (.lst xs) ∧ PrL H' xs ps ∧ GoodPs ps ∧ ps.length = i ∧ Src H' p cc ∧ Kp p H H')
      ⟨[], [], _, _, rfl, k1 q _ upd_same nqp, .nil, (fun _ h => nomatch h), rfl, S1, (Kp.of s1).trans k1⟩ ?_ ?_
    · rintro i σ' H' hi ⟨xs, ps, x3, x4, rfl, hq', hP, hG, hL, S', kp'⟩
      have hxl : xs.length = ps.length := hP.length
      have tn : ∀ {H2 : Hp}, Kp p H' H2 → PrL H2 xs ps := fun {H2} k2 => hP.mono fun t a b e => k2 t _ e (S'.tup_p e)
      refine ⟨_, rfl, p, cc, rfl, S', fun z H2 hz S2 k2 => ?_⟩
      have hq2 := k2 q _ hq' nqp
      refine ⟨fun σ2 H3 => ∃ (z : Str) (x3 : Option V), σ2 = [some (.ref p), some (.int m), some (.ref q), x3, some (.str z)] ∧ Word z ∧ H3 q = some (.lst xs) ∧ PrL H3 xs ps ∧ Src H3 p cc ∧ Kp p H H3, ?_, ?_⟩
      · refine ⟨_, rfl, _, _, rfl, .inl ⟨_, SqL.of hq2, rfl⟩, _, _, rfl, rfl, _, rfl, ite2 (fun c => ?_) (fun c => ?_)⟩
        · have hpos : 0 < xs.length := by simpa using c
          refine ⟨_, rfl, p, cc, 4, rfl, S2, by decide, by decide, fun v3 H3 b0 b1 S3 k3 => ⟨rfl, _, rfl, ite2 (fun c2 => ?_) (fun c2 => ?_)⟩⟩
          · have hq3 := k3 q _ hq2 nqp
            refine ⟨_, rfl, _, rfl, _, rfl, _, _, rfl, .inl ⟨_, SqL.of hq3, rfl⟩, p, cc, _, rfl, S3, by omega, by omega, fun v4 H4 d0 d1 S4 k4 => ?_⟩
            have hq4 := k4 q _ hq3 nqp
            have hj : v4.toNat < ps.length := by omega
            have hP4 := tn ((k2.trans k3).trans k4)
            obtain ⟨t, et, ht⟩ := hP4.at (List.getElem?_eq_getElem hj)
            refine ⟨q, _, v4, _, rfl, rfl, SqL.of hq4, at_of (z := v4) (j := v4.toNat) (by omega) et, t, _, 0, _, rfl, rfl, SqT.of ht, rfl, ?_⟩
            exact ⟨_, _, rfl, (hG _ (List.getElem_mem hj)).1, hq4, hP4, S4, ((kp'.trans k2).trans k3).trans k4⟩
          · exact ⟨z, _, rfl, hz, k3 q _ hq2 nqp, tn (k2.trans k3), S3, (kp'.trans k2).trans k3⟩
        · exact ⟨z, _, rfl, hz, hq2, tn k2, S2, kp'.trans k2⟩
      · rintro σ2 H3 ⟨z, x3, rfl, hz, hq3, hP3, S3, kp3⟩
        refine ⟨_, rfl, .inl ⟨rfl, _, SqL.of hq3⟩, _, rfl, _, rfl, p, cc, rfl, S3, fun n H4 hn S4 k4 => ⟨by show 2 ≤ sizeLine; decide, fun t ht => ?_⟩⟩
        have hq4 := k4 q _ hq3 nqp
        have ntq : t ≠ q := (ne_of_none hq4 ht).symm
        refine ⟨q, _, _, rfl, rfl, (by rw [upd_ne ntq.symm]; exact hq4), (by show xs.length < sizeLine; exact Nat.lt_of_le_of_lt (show xs.length ≤ 1000 by omega) (by decide)), ?_⟩
        have s5 : Same H4 (upd H4 t (.tup [.str z, .int n])) := Same.new ht
        have kq : ∀ c o, (upd H4 t (.tup [.str z, .int n])) c = some o → c ≠ q → (upd (upd H4 t (.tup [.str z, .int n])) q (.lst (xs ++ [.ref t]))) c = some o := fun c o e n => by rw [upd_ne n]; exact e
        have hP5 : PrL (upd (upd H4 t (.tup [.str z, .int n])) q (.lst (xs ++ [.ref t]))) xs ps := hP3.mono fun c a b e => by
          have cq : c ≠ q := by
            rintro rfl
            rw [e] at hq3
            cases hq3
          exact kq c _ (s5 c _ (k4 c _ e (S3.tup_p e))) cq
        refine ⟨xs ++ [.ref t], ps ++ [(z, n)], _, _, rfl, upd_same, hP5.snoc (kq t _ upd_same ntq), ?_, by rw [List.length_append, hL]; rfl, ?_, ?_⟩
        · intro r hr'
          rcases List.mem_append.mp hr' with e | e
          · exact hG r e
          · rw [List.mem_singleton.mp e]
            exact ⟨hz, hn⟩
        · exact S4.keep fun b o hb e => kq b o (s5 b o e) (by
            rcases hb with rfl | rfl
            · exact nqp.symm
            · exact nqc.symm)
        · intro b o e nb
          exact kq b o (s5 b o (k4 b o (kp3 b o e nb) nb)) (ne_of_none e hq)
    · rintro σ' H' ⟨xs, ps, x3, x4, rfl, hq', hP, hG, hL, S', kp'⟩
      exact ⟨_, rfl, k q H' xs ps hq hq' hP hG (by omega) S' kp'⟩
end
end Cs

set_option Elab.async false
set_option linter.all false
set_option maxRecDepth 100000
set_option maxHeartbeats 4000000
/-! The program's words: is_integer, is_word, is_small, is_pair, distinct. -/
namespace Cs
open PySem L2
/-- a value of a built-in type that is no int -/
def NotInt (K : PySem.W.Frag) (H : Hp) (x : V) : Prop := ∃ ty : String, TyX K H x (.type ty) ∧ (ty = "bool" ∨ kitB ty "int" = some false)
def spIsInteger (K : PySem.W.Frag) : Sp := fun vs H Q _ => (∃ n : Int, vs = [.int n] ∧ Q (.bl true) H) ∨ (∃ x, vs = [x] ∧ NotInt K H x ∧ Q (.bl false) H)
def spIsSmall (K : PySem.W.Frag) : Sp := fun vs H Q _ => (∃ n : Int, vs = [.int n] ∧ Q (.bl (decide (-(10 ^ 30) < n) && decide (n < 10 ^ 30))) H) ∨ (∃ x, vs = [x] ∧ NotInt K H x ∧ Q (.bl false) H)
def spIsWord (K : PySem.W.Frag) : Sp := fun vs H Q _ => (∃ z : Str, vs = [.str z] ∧ z.length ≤ 100000 ∧ ∀ H', Same H H' → Q (.bl (wordB z)) H') ∨ (∃ x ty, vs = [x] ∧ TyX K H x (.type ty) ∧ kitB ty "str" = some false ∧ Q (.bl false) H)
/-- of a good pair -/
def spIsPair (K : PySem.W.Frag) : Sp := fun vs H Q _ => ∃ (t : Addr) (z : Str) (n : Int), vs = [.ref t] ∧ H t = some (.tup [.str z, .int n]) ∧ Word z ∧ Small n ∧ ∀ H', Same H H' → Q (.bl true) H'
def spDistinct (K : PySem.W.Frag) : Sp := fun vs H Q _ => ∃ (a : Addr) (zs : List Str), vs = [.ref a] ∧ SqL K H a (zs.map V.str) ∧ zs.length ≤ 1000 ∧
  ∀ (p : Addr) (H' : Hp) (ws : List Str), H p = none → Same H H' → H' p = some (.lst (ws.map V.str)) → Asc ws → (∀ z, z ∈ ws ↔ z ∈ zs) → ws.length ≤ zs.length → Q (.ref p) H'
theorem wordB_of {z : Str} (h : Word z) : wordB z = true := by
  unfold wordB
  simp only [Bool.and_eq_true, decide_eq_true_eq, List.all_eq_true]
  exact ⟨⟨h.1, h.2.1⟩, h.2.2⟩
theorem kit_int {K : PySem.W.Frag} {H : Hp} {x : V} (h : NotInt K H x) : ∃ ty, TyX K H x (.type ty) ∧ (ty = "bool" ∨ kitB ty "int" = some false) := h
theorem yes_it {σ : L2.St} {H : Hp} {A B : Hp → Prop} (h : A H) : tYes σ H (fun b H3 => if b = true then A H3 else B H3) := iteT (A := A H) (B := B H) h
/-- a set comprehension of texts over a walk -/
theorem scT_it {J : It} {n : Nat} {G : Hp → Prop} {Y : Nat → Hp → V → Hp → Prop} (wk : Walk J n G Y) {w : World} {g : TG} {tt : TT} {te : TE} {vs : List Nat} {σ : L2.St} {H1 : Hp} {D : Addr} {Qd : Hp → Prop} (Pv : Nat → Hp → Prop)
    (h0 : Pv 0 (upd H1 D (TSetO w D []))) (hG : ∀ i H, i ≤ n → Pv i H → G H)
    (hs : ∀ i x H H', i < n → Pv i H → Y i H x H' → g x (wipe σ vs) H' fun σ2 H2 => wipe σ2 vs = wipe σ vs ∧ tt σ2 H2 fun b H3 =>
      if b = true then te σ2 H3 fun y H4 => ∃ (z : Str) (zs : List Str), y = .str z ∧ H4 D = some (TSetO w D zs) ∧ zs.length + 1 < scanBound ∧ Pv (i + 1) (upd H4 D (TSetO w D (addT zs z))) else Pv (i + 1) H3)
    (hd : ∀ H, Pv n H → Qd H) :
    ∃ W : Nat → Nat → Hp → Prop, (∃ m, W 0 m (upd H1 D (TSetO w D []))) ∧ ∀ i m H, W i m H →
      (J.stop i H ∧ Qd H) ∨ (J.go i H ∧ ∃ Nx : Hp → Prop, (∀ H', Nx H' → ∃ m', m' < m ∧ W (i + 1) m' H') ∧ ∀ x H', J.yld i H x H' → g x (wipe σ vs) H' fun σ2 H2 => wipe σ2 vs = wipe σ vs ∧ tt σ2 H2 fun b H3 =>
        if b = true then te σ2 H3 fun y H4 => ∃ (z : Str) (zs : List Str), y = .str z ∧ H4 D = some (TSetO w D zs) ∧ zs.length + 1 < scanBound ∧ Nx (upd H4 D (TSetO w D (addT zs z))) else Nx H3) := by
  refine ⟨fun i m H => m = n - i ∧ i ≤ n ∧ Pv i H, ⟨n, by simp, Nat.zero_le _, h0⟩, ?_⟩
  rintro i m H ⟨rfl, hi, p⟩
  by_cases lt : i < n
  · exact .inr ⟨wk.goes i H lt (hG i H hi p), Pv (i + 1), fun H' r => ⟨n - (i + 1), by omega, rfl, lt, r⟩, fun x H' y => hs i x H H' lt p (wk.yields i H x H' lt (hG i H hi p) y)⟩
  · obtain rfl : i = n := by omega
    exact .inl ⟨wk.stops H (hG i H hi p), hd H p⟩
section
variable {P : Program} {w : World} {K : PySem.W.Frag} {mg : Str → Option Value} {base : Heap}
theorem ok_is_integer {f : Addr} {fd : FuncData} (F : Fun K "is_integer" "is_integer" s_is_integer f fd) (g : Bi mg) : FnOk P w K mg base CX0 1 f fd ["thing"] (spIsInteger K) := by
  refine F.ok sc_is_integer (fun vs H Q E h => ?_) (fun cdv A outer s H vs Q E hr h => ?_)
  · rcases h with ⟨_, rfl, _⟩ | ⟨_, rfl, _⟩ <;> rfl
  · refine ⟨_, (pss_one (ps_ret (pe_and (pe_callB call_isi (by rfl) g.isinstance (by decide +kernel) (pa_cons (pv 0) (pa_cons (pe_bltn (v := .ty "int") (by rfl) g.int (by decide +kernel) rfl) pa_nil))) (pe_one (pe_not (pe_callB call_isi (by rfl) g.isinstance (by decide +kernel) (pa_cons (pv 0) (pa_cons (pe_bltn (v := .ty "bool") (by rfl) g.bool (by decide +kernel) rfl) pa_nil)))))))), ?_⟩
    rcases h with ⟨n, rfl, q⟩ | ⟨x, rfl, ⟨ty, ht, hc⟩, q⟩
    · refine ⟨_, rfl, _, _, _, _, true, rfl, .ty "int", .base (.int n), kit_ty (by decide +kernel), _, rfl, iteT ?_⟩
      exact ⟨_, rfl, _, _, _, _, false, rfl, .ty "bool", .base (.int n), kit_ty (by decide +kernel), _, rfl, q⟩
    · rcases hc with e | e
      · subst e
        refine ⟨_, rfl, _, _, _, _, true, rfl, .ty "int", ht, kit_ty (by decide +kernel), _, rfl, iteT ?_⟩
        exact ⟨_, rfl, _, _, _, _, true, rfl, .ty "bool", ht, kit_ty (by decide +kernel), _, rfl, q⟩
      · exact ⟨_, rfl, _, _, _, _, false, rfl, .ty "int", ht, kit_ty e, _, rfl, iteF q⟩
theorem ok_is_small {f fIi : Addr} {fd fdIi : FuncData} (F : Fun K "is_small" "is_small" s_is_small f fd) (g : Bi mg) (FIi : Def P w K mg base CX0 1 "is_integer" ["thing"] (spIsInteger K) fIi fdIi) : FnOk P w K mg base CX0 2 f fd ["thing"] (spIsSmall K) := by
  obtain ⟨GIi, mIi, _, bIi⟩ := id FIi
  refine F.ok sc_is_small (fun vs H Q E h => ?_) (fun cdv A outer s H vs Q E hr h => ?_)
  · rcases h with ⟨_, rfl, _⟩ | ⟨_, rfl, _⟩ <;> rfl
  · have hrIi : Room 1 _ := hr.mono (by decide)
    refine ⟨_, (pss_one (ps_ret (pe_and (pe_call GIi hrIi rfl mIi FIi.kp bIi .nil pass0 (pa_cons (pv 0) pa_nil)) (pe_one (pe_chain op_lt op_lt (pe_un un_neg (pe_op op_pow pe_int pe_int)) (pv 0) (pe_op op_pow pe_int pe_int)))))), ?_⟩
    rcases h with ⟨n, rfl, q⟩ | ⟨x, rfl, hx, q⟩
    · refine ⟨_, rfl, .inl ⟨n, rfl, _, rfl, iteT ?_⟩⟩
      refine ⟨_, _, rfl, rfl, ⟨by decide, by decide, by decide⟩, _, rfl, _, rfl, _, _, rfl, rfl, _, rfl, ?_⟩
      have e : ((10 : Int) ^ (30 : Int).toNat) = 10 ^ 30 := rfl
      by_cases c : -(10 ^ 30 : Int) < n
      · rw [decide_eq_true (show -((10 : Int) ^ (30 : Int).toNat) < n from c)]
        rw [decide_eq_true c] at q
        exact iteT ⟨_, _, rfl, rfl, ⟨by decide, by decide, by decide⟩, _, _, rfl, rfl, q⟩
      · rw [decide_eq_false (show ¬ -((10 : Int) ^ (30 : Int).toNat) < n from c)]
        rw [decide_eq_false c] at q
        exact iteF q
    · exact ⟨_, rfl, .inr ⟨x, rfl, hx, _, rfl, iteF q⟩⟩
theorem ok_is_word {f : Addr} {fd : FuncData} {tk : Tok} (F : Fun K "is_word" "is_word" s_is_word f fd) (g : Bi mg) (mLET : mg "LETTERS" = some (.str LET tk)) : FnOk P w K mg base CX0 1 f fd ["thing"] (spIsWord K) := by
  refine F.ok sc_is_word (fun vs H Q E h => ?_) (fun cdv A outer s H vs Q E hr h => ?_)
  · rcases h with ⟨_, rfl, _⟩ | ⟨_, _, rfl, _⟩ <;> rfl
  · refine ⟨_, (pss_cons (ps_if (PW.pt (pw_or (pt_not (pt_val (pe_callB call_isi (by rfl) g.isinstance (by decide +kernel) (pa_cons (pv 0) (pa_cons (pe_bltn (v := .ty "str") (by rfl) g.str (by decide +kernel) rfl) pa_nil))))) (pw_or1 (pt_not (pt_chain op_le op_le pe_int (pe_callB call_len (by rfl) g.len PySem.boot_len (pa_cons (pv 0) pa_nil)) pe_int))))) (pss_one (ps_ret pe_bl)) pss_nil)
      (pss_one (ps_ret (pe_callB (cr_all rfl) (by rfl) g.all (by decide +kernel) (pa_cons (pe_lc (own := [("sign", 1)]) (g := gName 1)  (by rfl) sc_is_word.nd (pi_str (pv 0)) (blkOk_by (own := [("sign", 1)]) (N := ["thing", "sign"]) (sc := defScope s_is_word) (by decide +kernel)) (fun _ _ _ _ _ => (pg_name (i := 1) sc_is_word.nd rfl (Or.inl rfl))) (fun _ _ _ _ _ => pts_nil) (fun _ _ _ _ _ => (pe_cmpR op_in_sign (pv 1) (pe_glob (v := .str LET) rfl mLET ⟨_, rfl⟩) (by rfl)))) pa_nil))))), ?_⟩
    rcases h with ⟨z, rfl, hz, q⟩ | ⟨x, ty, rfl, ht, hc, q⟩
    · refine ⟨_, rfl, _, _, _, _, true, rfl, .ty "str", .base (.str z), kit_ty (by decide +kernel), _, rfl, iteF ?_⟩
      have hl : z.length ≤ sizeLine := Nat.le_trans hz (by decide)
      refine ⟨_, rfl, _, _, rfl, ⟨hl, rfl⟩, _, _, rfl, rfl, _, rfl, ?_⟩
      have go : 1 ≤ z.length → z.length ≤ 8 → Q (.bl (wordB z)) H := fun _ _ => q H (Same.refl H)
      by_cases c : (1 : Int) ≤ (z.length : Int)
      · rw [decide_eq_true c]
        refine iteT ⟨_, _, rfl, rfl, _, rfl, ?_⟩
        by_cases d : ((z.length : Nat) : Int) ≤ 8
        · rw [decide_eq_true d]
          refine iteF ?_
          refine ⟨_, rfl, z, rfl, fun D hD => ?_⟩
          refine lc_it walk_str (fun i H' => Same H H' ∧ H' D = some (.lst ((z.cps.toList.take i).map fun c => .bl (decide (c ∈ LET.cps.toList))))) ⟨Same.new hD, upd_same⟩ (fun _ _ _ _ => True.intro) ?_ ?_
          · rintro i x H' H2 hi ⟨s', hD'⟩ ⟨rfl, c, hc, rfl⟩
            have hc' : z.cps.toList[i]? = some c := by rw [Array.getElem?_toList]; exact hc
            refine ⟨rfl, yes_it ?_⟩
            refine ⟨_, rfl, c, LET, rfl, rfl, _, hD', ?_, ?_, ?_⟩
            · rw [List.length_map, List.length_take]
              exact Nat.lt_of_le_of_lt (Nat.min_le_left _ _) (Nat.lt_of_lt_of_le hi hl)
            · exact fun b o e => by rw [upd_ne (ne_of_none e hD)]; exact s' b o e
            · rw [upd_same, List.take_succ, hc', List.map_append]
              rfl
          · rintro H' ⟨s', hD'⟩
            refine ⟨D, (z.cps.toList.map fun c => decide (c ∈ LET.cps.toList)), rfl, SqL.of ?_, ?_⟩
            · rw [hD', List.map_map, List.take_of_length_le (by rw [Array.length_toList]; exact Nat.le_refl _)]
              rfl
            · have e : (z.cps.toList.map fun c => decide (c ∈ LET.cps.toList)).all id = wordB z := by
                unfold wordB
                rw [List.all_map, decide_eq_true (show 1 ≤ z.length by omega), decide_eq_true (show z.length ≤ 8 by omega)]
                rfl
              rw [e]
              exact q H' s'
        · rw [decide_eq_false d]
          refine iteT ?_
          have e : wordB z = false := by
            unfold wordB
            rw [decide_eq_false (show ¬ z.length ≤ 8 by omega)]
            simp
          have := q H (Same.refl H)
          rw [e] at this
          exact this
      · rw [decide_eq_false c]
        refine iteF ⟨_, rfl, iteT ?_⟩
        have e : wordB z = false := by
          unfold wordB
          rw [decide_eq_false (show ¬ 1 ≤ z.length by omega)]
          simp
        have := q H (Same.refl H)
        rw [e] at this
        exact this
    · exact ⟨_, rfl, _, _, _, _, false, rfl, .ty "str", ht, kit_ty hc, _, rfl, iteT q⟩
theorem ok_is_pair {f fIw fIs : Addr} {fd fdIw fdIs : FuncData} (F : Fun K "is_pair" "is_pair" s_is_pair f fd) (g : Bi mg) (FIw : Def P w K mg base CX0 1 "is_word" ["thing"] (spIsWord K) fIw fdIw) (FIs : Def P w K mg base CX0 2 "is_small" ["thing"] (spIsSmall K) fIs fdIs) :
    FnOk P w K mg base CX0 3 f fd ["thing"] (spIsPair K) := by
  obtain ⟨GIw, mIw, _, bIw⟩ := id FIw
  obtain ⟨GIs, mIs, _, bIs⟩ := id FIs
  refine F.ok sc_is_pair (fun vs H Q E h => ?_) (fun cdv A outer s H vs Q E hr h => ?_)
  · obtain ⟨_, _, _, rfl, _⟩ := h
    rfl
  · obtain ⟨t, z, n, rfl, ht, hz, hn, q⟩ := h
    have hrIw : Room 1 _ := hr.mono (by decide)
    have hrIs : Room 2 _ := hr.mono (by decide)
    refine ⟨_, (pss_one (ps_ret (pe_and (pe_callB call_isi (by rfl) g.isinstance (by decide +kernel) (pa_cons (pv 0) (pa_cons (pe_bltn (v := .ty "tuple") (by rfl) g.tuple (by decide +kernel) rfl) pa_nil))) (pe_and (pe_cmpR op_eq (pe_callB call_len (by rfl) g.len PySem.boot_len (pa_cons (pv 0) pa_nil)) pe_int (nomark _)) (pe_and (pe_call GIw hrIw rfl mIw FIw.kp bIw .nil pass0 (pa_cons (pe_ix ix_tup (pv 0) pe_int (fun _ _ => rfl)) pa_nil)) (pe_one (pe_call GIs hrIs rfl mIs FIs.kp bIs .nil pass0 (pa_cons (pe_ix ix_tup (pv 0) pe_int (fun _ _ => rfl)) pa_nil)))))))), ?_⟩
    refine ⟨_, rfl, _, _, _, _, true, rfl, .ty "tuple", .base (.tup ht), kit_ty (by decide +kernel), _, rfl, iteT ?_⟩
    refine ⟨_, rfl, _, _, rfl, .inr ⟨_, SqT.of ht, rfl⟩, rfl, _, rfl, iteT ?_⟩
    refine ⟨_, rfl, t, _, 0, _, rfl, rfl, SqT.of ht, rfl, .inl ⟨z, rfl, Nat.le_trans hz.2.1 (by decide), fun H' s' => ?_⟩⟩
    rw [wordB_of hz]
    refine ⟨_, rfl, iteT ?_⟩
    refine ⟨_, rfl, t, _, 1, _, rfl, rfl, SqT.of (s' _ _ ht), rfl, .inl ⟨n, rfl, ?_⟩⟩
    rw [decide_eq_true hn.1, decide_eq_true hn.2]
    exact q H' s'
theorem ok_distinct {f : Addr} {fd : FuncData} (F : Fun K "distinct" "distinct" s_distinct f fd) (g : Bi mg) : FnOk P w K mg base CX0 1 f fd ["words"] (spDistinct K) := by
  refine F.ok sc_distinct (fun vs H Q E h => ?_) (fun cdv A outer s H vs Q E hr h => ?_)
  · obtain ⟨_, _, rfl, _⟩ := h
    rfl
  · obtain ⟨a, zs, rfl, ha, hl, q⟩ := h
    refine ⟨_, (pss_one (ps_ret (pe_callB (cr_sortT rfl) (by rfl) g.sorted (by decide +kernel) (pa_cons (pe_scT (own := [("word", 1)]) (g := gName 1)  (by rfl) sc_distinct.nd (pi_list (pv 0)) (blkOk_by (own := [("word", 1)]) (N := ["words", "word"]) (sc := defScope s_distinct) (by decide +kernel)) (fun _ _ _ _ _ => (pg_name (i := 1) sc_distinct.nd rfl (Or.inl rfl))) (fun _ _ _ _ _ => pts_nil) (fun _ _ _ _ _ => (pe_callTy SkE.call_str_str (by rfl) g.str (by decide +kernel) (pa_cons (pv 1) pa_nil)))) pa_nil)))), ?_⟩
    refine ⟨_, rfl, a, rfl, ⟨_, ha⟩, fun D hD => ?_⟩
    refine scT_it walk_list (fun i H' => Same H H' ∧ H' D = some (TSetO w D (once (zs.take i)))) ⟨Same.new hD, upd_same⟩ (fun i H' _ h => h.1.seq ha) ?_ ?_
    · rintro i x H' H2 hi ⟨s', hD'⟩ ⟨rfl, hx⟩
      rw [List.length_map] at hi
      have ex : x = V.str zs[i] := by
        rw [List.getElem?_map, List.getElem?_eq_getElem hi] at hx
        exact (Option.some.inj hx).symm
      subst ex
      refine ⟨rfl, yes_it ?_⟩
      refine ⟨_, rfl, _, rfl, zs[i], _, rfl, hD', ?_, ?_, ?_⟩
      · have h1 := once_len (zs.take i)
        rw [List.length_take] at h1
        exact Nat.lt_of_le_of_lt (show (once (zs.take i)).length + 1 ≤ 1001 by omega) (by decide)
      · exact fun b o e => by rw [upd_ne (ne_of_none e hD)]; exact s' b o e
      · rw [upd_same, List.take_succ, List.getElem?_eq_getElem hi]
        show some (TSetO w D (addT (once (zs.take i)) zs[i])) = some (TSetO w D (once (zs.take i ++ [zs[i]])))
        rw [once_snoc]
    · rintro H' ⟨s', hD'⟩
      rw [List.length_map, List.take_length] at hD'
      have h1 := once_len zs
      refine ⟨D, _, rfl, hD', by omega, fun ys p hp hs hn => ?_⟩
      refine q p _ ys (s'.free hn) (s'.trans (Same.new hn)) upd_same (asc_of_sorted hs (hp.nodup_iff.mpr (once_nodup zs))) (fun z => by rw [hp.mem_iff, once_mem]) (by rw [hp.length_eq]; exact h1)
end
end Cs

set_option Elab.async false
set_option linter.all false
set_option maxRecDepth 100000
set_option maxHeartbeats 4000000
/-! Counts.__init__ with pairs and no keywords. -/
namespace Cs
open PySem L2
/-- Counts at p, its dict at d with the table t -/
structure Cnt (C : Addr) (H : Hp) (p d : Addr) (t : Tab) : Prop where
  ob : ∃ dx, H p = some (.ins C dx [("held", .ref d)])
  dc : H d = some (.dK (tv t))
  hd : Held t
  wd : ∀ z ∈ keys t, Word z
theorem put_new {t : Tab} {z : Str} {n : Int} (h : z ∉ keys t) : put t z n = t ++ [(z, n)] := by
  unfold put
  rw [any_keys, if_neg (by simpa using h)]
theorem noZero_take {t : Tab} (nd : (keys t).Nodup) {i : Nat} {q : Str × Int} (h : t[i]? = some q) :
    noZero (t.take (i + 1)) = if q.2 ≠ 0 then put (noZero (t.take i)) q.1 q.2 else noZero (t.take i) := by
  have e : t.take (i + 1) = t.take i ++ [q] := by rw [List.take_succ, h]; rfl
  unfold noZero
  rw [e, List.filter_append]
  by_cases z : q.2 ≠ 0
  · rw [if_pos z, put_new]
    · rw [List.filter_cons, if_pos (decide_eq_true z)]
      rfl
    · intro m
      obtain ⟨r, hr, er⟩ := List.mem_map.mp m
      have h1 : r ∈ t.take i := (List.mem_filter.mp hr).1
      have h2 : (keys (t.take i ++ [q])).Nodup := by
        rw [← e]
        unfold keys
        rw [List.map_take]
        exact nd.sublist (List.take_sublist _ _)
      unfold keys at h2
      rw [List.map_append, List.nodup_append] at h2
      exact h2.2.2 r.1 (List.mem_map.mpr ⟨r, h1, rfl⟩) q.1 (by simp) er
  · rw [if_neg z, List.filter_cons, if_neg (by simpa using z)]
    simp
theorem addUp_keys (z : Str) : ∀ ps, z ∈ keys (addUp ps) → ∃ q ∈ ps, q.1 = z := snoc_rec (fun h => nomatch h) fun l a ih h => by
  rw [addUp_snoc] at h
  rcases mem_keys_put.mp h with m | m
  · obtain ⟨q, hq, e⟩ := ih m
    exact ⟨q, List.mem_append_left _ hq, e⟩
  · exact ⟨a, List.mem_append_right _ (List.mem_singleton.mpr rfl), m.symm⟩
theorem noZero_keys {t : Tab} {z : Str} (h : z ∈ keys (noZero t)) : z ∈ keys t := by
  obtain ⟨q, hq, e⟩ := List.mem_map.mp h
  exact List.mem_map.mpr ⟨q, (noZero_mem.mp hq).1, e⟩
/-- all the words of pairs are words -/
def WdP (ps : List (Str × Int)) : Prop := ∀ q ∈ ps, Word q.1
theorem WdP.held {ps : List (Str × Int)} (h : WdP ps) : ∀ z ∈ keys (noZero (addUp ps)), Word z := fun z m => by
  obtain ⟨q, hq, e⟩ := addUp_keys z ps (noZero_keys m)
  rw [← e]
  exact h q hq
/-- a dict comprehension over a walk -/
theorem dc_it {J : It} {n : Nat} {G : Hp → Prop} {Y : Nat → Hp → V → Hp → Prop} (wk : Walk J n G Y) {g : TG} {tt : TT} {tk tx : TE} {vs : List Nat} {σ : L2.St} {H1 : Hp} {D : Addr} {Qd : Hp → Prop} (Pv : Nat → Hp → Prop)
    (h0 : Pv 0 (upd H1 D (.dK []))) (hG : ∀ i H, i ≤ n → Pv i H → G H)
    (hs : ∀ i x H H', i < n → Pv i H → Y i H x H' → g x (wipe σ vs) H' fun σ2 H2 => wipe σ2 vs = wipe σ vs ∧ tt σ2 H2 fun b H3 =>
      if b = true then tk σ2 H3 fun y H4 => tx σ2 H4 fun z H5 => ∃ kvs k, y = kV k ∧ H5 D = some (.dK kvs) ∧ kvs.length < sizeLine ∧ Pv (i + 1) (upd H5 D (.dK (putK kvs k z))) else Pv (i + 1) H3)
    (hd : ∀ H, Pv n H → Qd H) :
    ∃ W : Nat → Nat → Hp → Prop, (∃ m, W 0 m (upd H1 D (.dK []))) ∧ ∀ i m H, W i m H →
      (J.stop i H ∧ Qd H) ∨ (J.go i H ∧ ∃ Nx : Hp → Prop, (∀ H', Nx H' → ∃ m', m' < m ∧ W (i + 1) m' H') ∧ ∀ x H', J.yld i H x H' → g x (wipe σ vs) H' fun σ2 H2 => wipe σ2 vs = wipe σ vs ∧ tt σ2 H2 fun b H3 =>
        if b = true then tk σ2 H3 fun y H4 => tx σ2 H4 fun z H5 => ∃ kvs k, y = kV k ∧ H5 D = some (.dK kvs) ∧ kvs.length < sizeLine ∧ Nx (upd H5 D (.dK (putK kvs k z))) else Nx H3) := by
  refine ⟨fun i m H => m = n - i ∧ i ≤ n ∧ Pv i H, ⟨n, by simp, Nat.zero_le _, h0⟩, ?_⟩
  rintro i m H ⟨rfl, hi, p⟩
  by_cases lt : i < n
  · exact .inr ⟨wk.goes i H lt (hG i H hi p), Pv (i + 1), fun H' r => ⟨n - (i + 1), by omega, rfl, lt, r⟩, fun x H' y => hs i x H H' lt p (wk.yields i H x H' lt (hG i H hi p) y)⟩
  · obtain rfl : i = n := by omega
    exact .inl ⟨wk.stops H (hG i H hi p), hd H p⟩
theorem val_getD (t : Tab) (z : Str) : ((look t z).map V.int).getD (.int 0) = .int (val t z) := by
  unfold val
  cases look t z <;> rfl
/-- __init__ behind its binding: the pairs a tuple at pt, the keywords an empty dict at dn -/
def spInitB (C : Addr) : Sp := fun vs H Q _ => ∃ (x pt dn dx : Addr) (xs : List V) (ps : List (Str × Int)), vs = [.ref x, .ref pt, .ref dn] ∧ H x = some (.ins C dx []) ∧ H pt = some (.tup xs) ∧ PrL H xs ps ∧ H dn = some (.dK []) ∧ ps.length ≤ 1000 ∧ WdP ps ∧
  ∀ (d : Addr) (H' : Hp), H d = none → Cnt C H' x d (noZero (addUp ps)) → (∀ b o, H b = some o → b ≠ x → H' b = some o) → Q .non H'
section
variable {P : Program} {w : World} {K : PySem.W.Frag} {mg : Str → Option Value} {base : Heap}
theorem init_body {C f : Addr} {cdv : Value} {A : Around} {outer : List Env} {s : Shared} {H : Hp} {vs : List V} {Q : VK} {E : XK} (g : Bi mg) (cl : Cls K C) (nH : NoAttr K C "held")
    (hr : Room 0 (A.deeper (PyProof.Rows.envOfC "Counts.__init__" (defScope s_Counts_init) s.heap.objs.size f cdv))) (h : spInitB C vs H Q E) :
    ∃ t, PSs (cxOf CX0 P w K mg base ["self", "pairs", "numbers", "word", "held", "number"] "Counts.__init__" (defScope s_Counts_init) f cdv A outer s H E).nox (defBody s_Counts_init) t ∧ t { nx := fun _ H' => Q .non H', rt := Q } (L2.start ["self", "pairs", "numbers", "word", "held", "number"] vs) H := by
  obtain ⟨x, pt, dn, dx, xs, ps, rfl, hx, hpt, hP, hdn, hl, hW, k⟩ := h
  have hu := hu_of hr
  refine ⟨_, (pss_cons (ps_lock (ps_for PassesOwn.never rfl (pi_keys (pv 2)) (pg_name (i := 3) sc_Counts_init.nd rfl (Or.inl rfl)) pss_never))
      (pss_cons (ps_set (i := 4) sc_Counts_init.nd rfl (Or.inl rfl) pe_dnewK)
      (pss_cons (ps_for PassesOwn.never rfl (pi_list (pe_op op_cat (pe_callTy call_list_of (by rfl) g.list (by decide +kernel) (pa_cons (pv 1) pa_nil)) (LiI.pe_listItems rfl (pv 2) (by rfl) g.list (by decide +kernel)))) (pg_tup rfl (pgs_cons (pg_name (i := 3) sc_Counts_init.nd rfl (Or.inl rfl)) (pgs_cons (pg_name (i := 5) sc_Counts_init.nd rfl (Or.inl rfl)) pgs_nil))) (pss_one (ps_dput hu (pv 4) (pv 3) (pe_op op_add (pe_dget2 hu (pv 4) (pv 3) pe_int ⟨rfl, rfl, rfl, rfl⟩) (pv 5)) rfl)))
      (pss_one (ps_fld (pv 0) (pe_lock (pe_dc (own := [("word", 3), ("number", 5)]) (g := gTup K 2 (gCons (gName 3) (gCons (gName 5) gNil))) (by rfl) sc_Counts_init.nd (pi_items (pv 4)) (blkOk_by (own := [("word", 3), ("number", 5)]) (N := ["self", "pairs", "numbers", "word", "held", "number"]) (sc := defScope s_Counts_init) (by decide +kernel)) (fun _ _ _ _ _ => (pg_tup rfl (pgs_cons (pg_name (i := 3) sc_Counts_init.nd rfl (Or.inl rfl)) (pgs_cons (pg_name (i := 5) sc_Counts_init.nd rfl (Or.inl rfl)) pgs_nil)))) (fun _ _ _ _ _ => (pts_one (pt_cmpR op_ne (pv 5) pe_int (nomark _)))) (fun _ _ _ _ _ => (pv 3)) (fun _ _ _ _ _ => (pv 5)))) rfl))))), ?_⟩
  have nxd : x ≠ dn := ne_of hx hdn (by intro z; cases z)
  have npd : pt ≠ dn := ne_of hpt hdn (by intro z; cases z)
  have nxp : x ≠ pt := ne_of hx hpt (by intro z; cases z)
  -- for word in numbers: nothing
  refine ⟨dn, _, hdn, trivial, fun od => ?_⟩
  refine ⟨_, rfl, dn, od, rfl, .inl ⟨[], upd_same, ?_⟩⟩
  refine for_it walk_keys (fun i σ' H' => i = 0 ∧ H' = upd H dn (.frz od (.dK [])) ∧ σ' = [some (.ref x), some (.ref pt), some (.ref dn), none, none, none]) ⟨rfl, rfl, rfl⟩ (fun i σ' H' _ h => by rw [h.2.1]; exact upd_same) (fun i x σ' H' H2 hi => absurd hi (Nat.not_lt_zero _)) ?_
  rintro σ' H' ⟨_, rfl, rfl⟩
  refine ⟨upd_same, ?_⟩
  have eH : upd (upd H dn (.frz od (.dK []))) dn (.dK []) = H := by
    funext b
    by_cases e : b = dn
    · rw [e, upd_same, hdn]
    · rw [upd_ne e, upd_ne e]
  rw [eH]
  -- held = {}
  intro e he
  have s1 : Same H (upd H e (.dK [])) := Same.new he
  -- list(pairs) + list(numbers.items())
  refine ⟨_, rfl, pt, _, rfl, .inr (SqT.of (s1 _ _ hpt)), fun l1 hl1 => ?_⟩
  have s2 := s1.trans (Same.new (o := .lst xs) hl1)
  refine ⟨_, rfl, dn, [], rfl, s2 _ _ hdn, fun H3 p3 ts sm hp3 hts hnp hlst hpr => ?_⟩
  cases hpr
  have nel : e ≠ l1 := ne_of_none upd_same hl1
  refine ⟨l1, p3, xs, [], rfl, rfl, sm _ _ upd_same, hlst, ?_, fun l hl4 => ?_⟩
  · rw [hP.length]
    exact Nat.le_trans hl (by decide)
  rw [List.append_nil]
  have s3 : Same H H3 := s2.trans sm
  have s4 : Same H (upd H3 l (.lst xs)) := s3.trans (Same.new hl4)
  have he3 : H3 e = some (.dK []) := sm _ _ (by rw [upd_ne nel]; exact upd_same)
  have nel4 : e ≠ l := ne_of_none he3 hl4
  have hlx : H l = none := s3.free hl4
  refine ⟨l, rfl, ⟨_, SqL.of upd_same⟩, for_list (K := K) (a := l) (xs := xs) (fun i σ' H' => ∃ x3 x5 : Option V, σ' = [some (.ref x), some (.ref pt), some (.ref dn), x3, some (.ref e), x5] ∧ Same H H' ∧ H' l = some (.lst xs) ∧ H' e = some (.dK (tv (addUp (ps.take i)))))
    ⟨_, _, rfl, s4, upd_same, by rw [upd_ne nel4]; exact he3⟩ (fun i σ' H' _ ⟨_, _, _, _, h, _⟩ => SqL.of h) ?_ ?_⟩
  · rintro i y σ' H' hy ⟨x3, x5, rfl, s', hl', he'⟩
    have hi : i < ps.length := by
      have := (List.getElem?_eq_some_iff.mp hy).1
      rw [hP.length] at this
      exact this
    obtain ⟨t, et, ht⟩ := hP.at (List.getElem?_eq_getElem hi)
    rw [et] at hy
    obtain rfl := Option.some.inj hy
    refine ⟨t, _, rfl, SqT.of (s' _ _ ht), rfl, _, _, rfl, _, _, rfl, rfl, ?_⟩
    refine ⟨_, rfl, e, rfl, .inl ⟨_, .inl he'⟩, _, rfl, _, DGet.k (k := Sum.inr ps[i].1) he', _, rfl, val (addUp (ps.take i)) ps[i].1, ps[i].2, (by rw [tv_val]; exact val_getD _ _), rfl, _, rfl, _, rfl, e, _, rfl, DPut.k (k := Sum.inr ps[i].1) he' ?_, ?_⟩
    · rw [tv_len]
      have h1 := addUp_len (ps.take i)
      rw [List.length_take] at h1
      exact Nat.lt_of_le_of_lt (show (addUp (ps.take i)).length ≤ 1000 by omega) (by decide)
    · refine ⟨_, _, rfl, fun b o q => by rw [upd_ne (ne_of_none q he)]; exact s' b o q, by rw [upd_ne (ne_of hl' he' (by intro z; cases z))]; exact hl', ?_⟩
      rw [upd_same, tv_put, List.take_succ, List.getElem?_eq_getElem hi]
      show some (HO.dK (tv (put (addUp (ps.take i)) ps[i].1 (val (addUp (ps.take i)) ps[i].1 + ps[i].2)))) = some (HO.dK (tv (addUp (ps.take i ++ [ps[i]]))))
      rw [addUp_snoc]
  · rintro σ' H5 ⟨x3, x5, rfl, s5, hl5, he5⟩
    rw [hP.length, List.take_length] at he5
    generalize et : addUp ps = t at he5
    have ndt : (keys t).Nodup := by rw [← et]; exact addUp_nd ps
    have lent : t.length ≤ 1000 := by rw [← et]; exact Nat.le_trans (addUp_len ps) hl
    -- self.held = {..}
    refine ⟨e, _, he5, trivial, fun oe => ?_⟩
    refine ⟨_, rfl, e, oe, _, rfl, upd_same, fun D hD => ?_⟩
    have nDe : D ≠ e := (ne_of_none upd_same hD).symm
    have hDH : H5 D = none := by rw [upd_ne nDe] at hD; exact hD
    have xe : x ≠ e := ne_of_none hx he
    refine dc_it walk_items (fun i H' => (∀ b o, H5 b = some o → b ≠ e → H' b = some o) ∧ H' e = some (.frz oe (.dK (tv t))) ∧ H' D = some (.dK (tv (noZero (t.take i))))) ⟨fun b o q n => by rw [upd_ne (ne_of_none q hDH), upd_ne n]; exact q, by rw [upd_ne nDe.symm]; exact upd_same, upd_same⟩
      (fun i H' _ h => h.2.1) ?_ ?_
    · rintro i v H' H2 hi ⟨k1, k2, k3⟩ ⟨T, a, b, rfl, hT, rfl, ha, hb⟩
      rw [tv_len] at hi
      have hi2 : (tv t)[i]? = some (Sum.inr t[i].1, V.int t[i].2) := by
        unfold tv
        rw [List.getElem?_map, List.getElem?_eq_getElem hi]
        rfl
      dsimp only at ha hb
      rw [hi2] at ha hb
      obtain rfl : V.str t[i].1 = a := Option.some.inj ha
      obtain rfl : V.int t[i].2 = b := Option.some.inj hb
      have sT : Same H' (upd H' T (.tup [V.str t[i].1, V.int t[i].2])) := Same.new hT
      refine ⟨T, _, rfl, SqT.of upd_same, rfl, _, _, rfl, _, _, rfl, rfl, rfl, _, rfl, rfl, _, rfl, ?_⟩
      have nz := noZero_take ndt (List.getElem?_eq_getElem hi)
      by_cases z : t[i].2 = 0
      · rw [decide_eq_true (show V.int t[i].2 = V.int 0 by rw [z])]
        rw [if_neg (by simpa using z)] at nz
        refine iteF ?_
        refine ⟨fun c o q n => sT _ _ (k1 c o q n), sT _ _ k2, ?_⟩
        rw [nz]
        exact sT _ _ k3
      · rw [decide_eq_false (show ¬ V.int t[i].2 = V.int 0 from fun q => z (V.int.inj q))]
        rw [if_pos z] at nz
        refine iteT ?_
        refine ⟨_, rfl, _, rfl, _, Sum.inr t[i].1, rfl, sT _ _ k3, ?_, ?_, ?_, ?_⟩
        · rw [tv_len]
          have h1 : (noZero (t.take i)).length ≤ (t.take i).length := List.length_filter_le _ _
          rw [List.length_take] at h1
          exact Nat.lt_of_le_of_lt (show (noZero (t.take i)).length ≤ 1000 by omega) (by decide)
        · intro c o q n
          rw [upd_ne (ne_of_none q hDH)]
          exact sT _ _ (k1 c o q n)
        · rw [upd_ne nDe.symm]
          exact sT _ _ k2
        · rw [upd_same, tv_put, nz]
    · rintro H' ⟨k1, k2, k3⟩
      rw [tv_len, List.take_length] at k3
      refine ⟨k2, _, rfl, x, C, dx, [], rfl, ?_, cl, nH, (by show 0 < 1000; decide), ?_⟩
      · rw [upd_ne xe]
        exact k1 _ _ (s5 _ _ hx) xe
      · have nDx : D ≠ x := (ne_of_none (s5 _ _ hx) hDH).symm
        refine k D _ (s5.free hDH) ⟨⟨dx, upd_same⟩, ?_, Held.of (by rw [et]; exact ndt), hW.held⟩ fun b o q n => ?_
        · rw [upd_ne nDx, upd_ne nDe, et]
          exact k3
        · have be : b ≠ e := ne_of_none q he
          rw [upd_ne n, upd_ne be]
          exact k1 _ _ (s5 _ _ q) be
end
end Cs

set_option Elab.async false
set_option linter.all false
set_option maxRecDepth 100000
set_option maxHeartbeats 4000000
/-! Counts: its methods, by what they hold. -/
namespace Cs
open PySem L2
theorem fnR_of {P : Program} {w : World} {K : PySem.W.Frag} {mg : Str → Option Value} {base : Heap} {CX : CXT} {k : Nat} {f : Addr} {fd : FuncData} {ps : List Str} {sp : Sp} (F : FnOk P w K mg base CX k f fd ps sp) (hb : Binds K fd ps []) : FnR P w K mg base CX k f sp := by
  intro A outer s H us vs Q E hr e0 r h
  have hl : us.length = ps.length := by rw [← r.length]; exact F.len _ _ _ _ h
  have kin : K.In s.heap := e0.mod.kin.keeps fun b o e => (e0.bs b o e).1
  have hb' := hb s us kin (by rw [List.append_nil]; exact hl)
  rw [List.append_nil] at hb'
  exact F.run A outer s H ⟨us, []⟩ us vs Q E hr e0 hb' r h
/-- __init__ called with pairs -/
def spInit (C : Addr) : Sp := fun vs H Q _ => ∃ (x dx : Addr) (xs : List V) (ps : List (Str × Int)), vs = .ref x :: xs ∧ H x = some (.ins C dx []) ∧ PrL H xs ps ∧ ps.length ≤ 1000 ∧ WdP ps ∧
  ∀ (d : Addr) (H' : Hp), H d = none → Cnt C H' x d (noZero (addUp ps)) → (∀ b o, H b = some o → b ≠ x → H' b = some o) → Q .non H'
/-- the class as the top has made it -/
structure CT (P : Program) (w : World) (K : PySem.W.Frag) (mg : Str → Option Value) (base : Heap) (C fI : Addr) : Prop where
  cl : Cls K C
  nH : NoAttr K C "held"
  mgC : mg "Counts" = some (.ref C)
  mke : Mk K C fI
  ini : FnR P w K mg base CX0 1 fI (spInit C)
/-- a method -/
structure MDef (P : Program) (w : World) (K : PySem.W.Frag) (mg : Str → Option Value) (base : Heap) (CX : CXT) (k : Nat) (C : Addr) (m : Str) (ps : List Str) (sp : Sp) (f : Addr) (fd : FuncData) : Prop where
  me : Meth K C m f
  ok : FnOk P w K mg base CX k f fd ps sp
  b : Binds K fd ps []
theorem flds_held (d : Addr) : ([("held", .ref d)] : List (Str × V)).lookup ("held" : Str) = some (.ref d) := by
  rw [List.lookup_cons, beq_self_eq_true]
theorem Cnt.same {C : Addr} {H H' : Hp} {p d : Addr} {t : Tab} (s : Same H H') (h : Cnt C H p d t) : Cnt C H' p d t := by
  obtain ⟨⟨dx, a⟩, b, c, e⟩ := h
  exact ⟨⟨dx, s _ _ a⟩, s _ _ b, c, e⟩
/-- what a method hands out that gives new counts -/
def NewC (C : Addr) (H : Hp) (Q : VK) (F : Str → Int) (n : Nat) : Prop := ∀ (r e : Addr) (H' : Hp) (u : Tab), H r = none → H e = none → Same H H' → Cnt C H' r e u → (∀ z, val u z = F z) → u.length ≤ n → Q (.ref r) H'
def spWords (C : Addr) : Sp := fun vs H Q _ => ∃ (p d : Addr) (t : Tab), vs = [.ref p] ∧ Cnt C H p d t ∧ t.length ≤ 1000 ∧
  ∀ (q : Addr) (H' : Hp) (ws : List Str), H q = none → Same H H' → H' q = some (.lst (ws.map V.str)) → Asc ws → (∀ z, z ∈ ws ↔ z ∈ keys t) → ws.length ≤ t.length → Q (.ref q) H'
def spPairsM (C : Addr) : Sp := fun vs H Q _ => ∃ (p d : Addr) (t : Tab), vs = [.ref p] ∧ Cnt C H p d t ∧ t.length ≤ 1000 ∧
  ∀ (q : Addr) (H' : Hp) (xs : List V) (l : Tab), H q = none → Same H H' → H' q = some (.lst xs) → PrL H' xs l → Told (val t) l → WdP l → l.length ≤ t.length → Q (.ref q) H'
def spCopy (C : Addr) : Sp := fun vs H Q _ => ∃ (p d : Addr) (t : Tab), vs = [.ref p] ∧ Cnt C H p d t ∧ t.length ≤ 1000 ∧ NewC C H Q (val t) t.length
theorem noZero_len (t : Tab) : (noZero t).length ≤ t.length := List.length_filter_le _ _
theorem sumOf_told {f : Str → Int} {l : Tab} (h : Told f l) (z : Str) : sumOf l z = f z := by
  have nd : (keys l).Nodup := h.asc.nodup
  rw [← addUp_val, ]
  have key : ∀ (m : Tab), (keys m).Nodup → ∀ z, sumOf m z = val m z := by
    intro m
    induction m with
    | nil => intro _ z; rfl
    | cons q m ih =>
      intro nd z
      obtain ⟨n1, n2⟩ := List.nodup_cons.mp (show (q.1 :: keys m).Nodup from nd)
      have hz := ih n2 z
      unfold sumOf at hz ⊢
      unfold val look
      rw [List.filter_cons, List.find?_cons]
      by_cases e : q.1 = z
      · rw [if_pos (decide_eq_true e), decide_eq_true e, List.map_cons, List.sum_cons, hz]
        subst e
        unfold val
        rw [look_none n1]
        simp
      · rw [if_neg (by simpa using e), decide_eq_false e, hz]
        rfl
  rw [addUp_val, key l nd]
  unfold val
  by_cases m : z ∈ keys l
  · obtain ⟨n, a, b⟩ := look_some m
    rw [a]
    exact ((h.mem z n).mp b).1
  · rw [look_none m]
    have := mt (h.keys_iff z).mpr m
    have e : f z = 0 := Classical.byContradiction this
    rw [e]
    rfl
section
variable {P : Program} {w : World} {K : PySem.W.Frag} {mg : Str → Option Value} {base : Heap}
theorem ok_init {C f : Addr} {oc od kV doc pm an cdv ct osl} (g : Bi mg) (cl : Cls K C) (nH : NoAttr K C "held")
    (lk : K.lookup f = some ⟨oc, od, .func (PySem.W.fnOf "__init__" "Counts.__init__" (defArgs s_Counts_init) (defBody s_Counts_init) (defScope s_Counts_init) .none kV doc pm an cdv ct), osl⟩) (hcd : PySem.W.codeIn K cdv "Counts.__init__" = true) :
    FnR P w K mg base CX0 1 f (spInit C) := by
  have G := StX.fn_starkw (P := P) (w := w) (mg := mg) (base := base) (CX := CX0) (k := 0) (ps := ["self"]) (pv := "pairs") (pd := "numbers") (sp := spInitB C) lk hcd sc_Counts_init StX.cxUp_none
    (fun us rest hl => match us, rest, hl with | [a], [], _ => rfl | [a], r :: rs, _ => rfl)
    (fun A outer s H vs Q E hr h => by
      obtain ⟨t, a, b⟩ := init_body (P := P) (w := w) (mg := mg) (base := base) (outer := outer) (s := s) g cl nH hr h
      exact ⟨t, a.nox, b⟩)
  refine G.imp fun vs H Q E h => ?_
  obtain ⟨x, dx, xs, ps, rfl, hx, hP, hl, hW, k⟩ := h
  refine ⟨[.ref x], xs, rfl, rfl, by rw [hP.length]; exact Nat.le_trans hl (by decide), fun p d hp hd hne => ?_⟩
  have s1 : Same H (upd H p (.tup xs)) := Same.new hp
  have hd1 : (upd H p (.tup xs)) d = none := by rw [upd_ne hne]; exact hd
  have s2 : Same H (upd (upd H p (.tup xs)) d (.dK [])) := s1.trans (Same.new hd1)
  refine ⟨x, p, d, dx, xs, ps, rfl, s2 _ _ hx, (by rw [upd_ne hne.symm]; exact upd_same), hP.mono (fun t a b e => s2 _ _ e), upd_same, hl, hW, fun e H' he hc kp => ?_⟩
  exact k e H' (s2.free he) hc fun b o q n => kp b o (s2 _ _ q) n
theorem ok_words {C f fDi : Addr} {fd fdDi : FuncData} {fI : Addr} (F : Fun K "words" "Counts.words" s_Counts_words f fd) (g : Bi mg) (T : CT P w K mg base C fI) (FDi : Def P w K mg base CX0 1 "distinct" ["words"] (spDistinct K) fDi fdDi) : FnOk P w K mg base CX0 2 f fd ["self"] (spWords C) := by
  obtain ⟨GDi, mDi, _, bDi⟩ := id FDi
  refine F.ok sc_Counts_words (fun vs H Q E h => ?_) (fun cdv A outer s H vs Q E hr h => ?_)
  · obtain ⟨_, _, _, rfl, _⟩ := h
    rfl
  · obtain ⟨p, d, t, rfl, hc, hl, k⟩ := h
    have hrDi : Room 1 _ := hr.mono (by decide)
    obtain ⟨⟨dx, hp⟩, hd, hh, hw⟩ := id hc
    refine ⟨_, (pss_one (ps_ret (pe_call GDi hrDi rfl mDi FDi.kp bDi .nil pass0 (pa_cons (pe_callTy (call_listD rfl) (by rfl) g.list (by decide +kernel) (pa_cons (pe_fld (pv 0) rfl) pa_nil)) pa_nil)))), ?_⟩
    refine ⟨_, rfl, p, C, dx, _, _, rfl, hp, T.cl, T.nH, flds_held d, d, _, rfl, .inl hd, fun q hq => ?_⟩
    have e : (tv t).map (fun kv => kV kv.1) = (keys t).map V.str := by
      unfold tv keys
      rw [List.map_map, List.map_map]
      rfl
    rw [e]
    have s1 : Same H (upd H q (.lst ((keys t).map V.str))) := Same.new hq
    refine ⟨q, keys t, rfl, SqL.of upd_same, by unfold keys; rw [List.length_map]; exact hl, fun r H' ws hr' s2 h2 ha hm hle => ?_⟩
    exact k r H' ws (s1.free hr') (s1.trans s2) h2 ha hm (by unfold keys at hle; rw [List.length_map] at hle; exact hle)
theorem ok_pairsM {C f fWo : Addr} {fd fdWo : FuncData} {fI : Addr} (F : Fun K "pairs" "Counts.pairs" s_Counts_pairs f fd) (g : Bi mg) (T : CT P w K mg base C fI) (MWo : MDef P w K mg base CX0 2 C "words" ["self"] (spWords C) fWo fdWo) : FnOk P w K mg base CX0 3 f fd ["self"] (spPairsM C) := by
  refine F.ok sc_Counts_pairs (fun vs H Q E h => ?_) (fun cdv A outer s H vs Q E hr h => ?_)
  · obtain ⟨_, _, _, rfl, _⟩ := h
    rfl
  · obtain ⟨p, d, t, rfl, hc, hl, k⟩ := h
    have hrWo : Room 2 _ := hr.mono (by decide)
    have hu := hu_of hr
    obtain ⟨⟨dx, hp⟩, hd, hh, hw⟩ := id hc
    refine ⟨_, (pss_one (ps_ret (pe_lc (own := [("word", 1)]) (g := gName 1) (te := (tTup (tCons _ (tCons (tDGet (tFld K _ "held") _) tNil))))  (by rfl) sc_Counts_pairs.nd (pi_list (pe_meth0 (pv 0) T.cl MWo.me MWo.ok hrWo MWo.b .nil pass0)) (blkOk_by (own := [("word", 1)]) (N := ["self", "word"]) (sc := defScope s_Counts_pairs) (by decide +kernel)) (fun _ _ _ _ _ => (pg_name (i := 1) sc_Counts_pairs.nd rfl (Or.inl rfl))) (fun _ _ _ _ _ => pts_nil) (fun _ _ _ _ _ => (pe_tup (pa_cons (pv 1) (pa_cons (pe_dget hu (pe_fld (pv 0) rfl) (pv 1) (fun _ _ => rfl)) pa_nil))))))), ?_⟩
    refine ⟨_, rfl, p, dx, _, rfl, hp, rfl, p, d, t, rfl, hc, hl, fun q H1 ws hq s1 h1 ha hm hle => ⟨q, rfl, ⟨_, SqL.of h1⟩, fun D hD => ?_⟩⟩
    refine lc_it (walk_list (xs := ws.map V.str)) (fun i H' => Same H1 H' ∧ ∃ xs, H' D = some (.lst xs) ∧ PrL H' xs ((ws.take i).map fun z => (z, val t z))) ⟨Same.new hD, [], upd_same, .nil⟩ (fun i H' _ h => SqL.of (h.1 _ _ h1)) ?_ ?_
    · rintro i x H' H2 hi ⟨s', xs, hD', hP'⟩ ⟨rfl, hx⟩
      rw [List.length_map] at hi
      have ex : x = V.str ws[i] := by
        rw [List.getElem?_map, List.getElem?_eq_getElem hi] at hx
        exact (Option.some.inj hx).symm
      subst ex
      obtain ⟨n, en, _⟩ := look_some ((hm ws[i]).mp (List.getElem_mem hi))
      have ev : val t ws[i] = n := by unfold val; rw [en]; rfl
      have hd' := s' _ _ (s1 _ _ hd)
      have hxl : xs.length = i := by
        rw [hP'.length, List.length_map, List.length_take]
        omega
      refine ⟨rfl, yes_it ?_⟩
      refine ⟨_, rfl, _, rfl, p, C, dx, _, _, rfl, s' _ _ (s1 _ _ hp), T.cl, T.nH, flds_held d, _, rfl, d, .int n, rfl, ?_, by show 2 ≤ sizeLine; decide, fun T2 hT2 => ?_⟩
      · have := DGet.k (k := Sum.inr ws[i]) hd'
        rw [tv_val, en] at this
        exact this
      · have nTD : D ≠ T2 := ne_of_none hD' hT2
        have sT : Same H2 (upd H2 T2 (.tup [.str ws[i], .int n])) := Same.new hT2
        refine ⟨xs, by rw [upd_ne nTD]; exact hD', by rw [hxl]; exact Nat.lt_of_le_of_lt (show i ≤ 1000 by omega) (by decide), fun b o q => ?_, xs ++ [.ref T2], upd_same, ?_⟩
        · rw [upd_ne (ne_of_none q hD)]
          exact sT _ _ (s' _ _ q)
        · rw [List.take_succ, List.getElem?_eq_getElem hi, List.map_append]
          show PrL _ (xs ++ [.ref T2]) (_ ++ [(ws[i], val t ws[i])])
          rw [ev]
          refine PrL.snoc (hP'.mono fun c a b e => ?_) (by rw [upd_ne nTD.symm]; exact upd_same)
          have cD : c ≠ D := by
            rintro rfl
            rw [hD'] at e
            cases e
          rw [upd_ne cD]
          exact sT _ _ e
    · rintro H' ⟨s', xs, hD', hP'⟩
      rw [List.length_map, List.take_length] at hP'
      exact k D H' xs _ (s1.free hD) (s1.trans s') hD' hP' (hh.told ha hm) (fun q m => by
        obtain ⟨z, hz, e⟩ := List.mem_map.mp m
        rw [← e]
        exact hw z ((hm z).mp hz)) (by rw [List.length_map]; exact hle)
end
end Cs

set_option Elab.async false
set_option linter.all false
set_option maxRecDepth 100000
set_option maxHeartbeats 4000000
/-! Counts: of, only, total, len, the store of one word. -/
namespace Cs
open PySem L2
def spOf (K : PySem.W.Frag) (C : Addr) : Sp := fun vs H Q _ => ∃ (a : Addr) (xs : List V) (ps : List (Str × Int)), vs = [.ref C, .ref a] ∧ H a = some (.lst xs) ∧ PrL H xs ps ∧ GoodPs ps ∧ ps.length ≤ 1000 ∧ NewC C H Q (sumOf ps) ps.length
def spTotal (C : Addr) : Sp := fun vs H Q _ => ∃ (p d : Addr) (t : Tab), vs = [.ref p] ∧ Cnt C H p d t ∧ t.length ≤ 1000 ∧ ∀ H', Same H H' → Q (.int (t.map (·.2)).sum) H'
def spLen (C : Addr) : Sp := fun vs H Q _ => ∃ (p d : Addr) (t : Tab), vs = [.ref p] ∧ Cnt C H p d t ∧ Q (.int t.length) H
def spSet (C : Addr) : Sp := fun vs H Q _ => ∃ (p d : Addr) (t : Tab) (z : Str) (n : Int), vs = [.ref p, .str z, .int n] ∧ Word z ∧ Small n ∧ Cnt C H p d t ∧ t.length ≤ 1000 ∧
  ∀ (u : Tab) (H' : Hp), Cnt C H' p d u → (∀ y, val u y = if y = z then n else val t y) → u.length ≤ t.length + 1 → (∀ b o, H b = some o → b ≠ d → H' b = some o) → Q .non H'
def spOnlyB (C : Addr) : Sp := fun vs H Q _ => ∃ (p d wt : Addr) (t : Tab) (zs : List Str), vs = [.ref p, .ref wt] ∧ H wt = some (.tup (zs.map V.str)) ∧ Cnt C H p d t ∧ t.length ≤ 1000 ∧ NewC C H Q (fun z => if z ∈ zs then val t z else 0) t.length
def spOnly (C : Addr) : Sp := fun vs H Q _ => ∃ (p d : Addr) (t : Tab) (zs : List Str), vs = .ref p :: zs.map V.str ∧ zs.length ≤ 1000 ∧ Cnt C H p d t ∧ t.length ≤ 1000 ∧ NewC C H Q (fun z => if z ∈ zs then val t z else 0) t.length
theorem inV_str (z : Str) (zs : List Str) : inV (.str z) (zs.map V.str) = decide (z ∈ zs) := by
  unfold inV
  rw [List.any_map, Bool.eq_iff_iff, List.any_eq_true, decide_eq_true_eq]
  constructor
  · rintro ⟨y, m, e⟩
    have e : (y == z) = true := e
    rw [← eq_of_beq e]
    exact m
  · intro m
    exact ⟨z, m, beq_self_eq_true z⟩
theorem flat_strs (zs : List Str) : (zs.map V.str).all flatV = true := by
  rw [List.all_map, List.all_eq_true]
  intro z _
  rfl
theorem sumOf_filter (l : Tab) (zs : List Str) (z : Str) : sumOf (l.filter fun q => decide (q.1 ∈ zs)) z = if z ∈ zs then sumOf l z else 0 := by
  unfold sumOf
  rw [List.filter_filter]
  by_cases h : z ∈ zs
  · rw [if_pos h]
    congr 2
    apply List.filter_congr
    intro q _
    by_cases e : q.1 = z
    · simp [e, h]
    · simp [e]
  · rw [if_neg h, List.filter_eq_nil_iff.mpr]
    · rfl
    · intro q _ k
      rw [Bool.and_eq_true, decide_eq_true_eq, decide_eq_true_eq] at k
      exact h (k.1 ▸ k.2)
theorem held_put {t : Tab} (h : Held t) {z : Str} {n : Int} (hn : n ≠ 0) : Held (put t z n) := ⟨nd_put h.nd, fun q m => by
  rcases mem_put (y := q.1) (m := q.2) m with ⟨_, e⟩ | ⟨_, e⟩
  · rw [e]
    exact hn
  · exact h.nz _ e⟩
theorem held_drop {t : Tab} (h : Held t) {z : Str} : Held (drop t z) := ⟨nd_drop h.nd, fun q m => h.nz q (List.mem_filter.mp m).1⟩
section
variable {P : Program} {w : World} {K : PySem.W.Frag} {mg : Str → Option Value} {base : Heap}
theorem made {C : Addr} {H : Hp} {x dx : Addr} (hx : H x = none) (hd : H dx = none) : Same H (upd (upd H dx (.own x)) x (.ins C dx [])) := fun b o e => by
  rw [upd_ne (ne_of_none e hx), upd_ne (ne_of_none e hd)]
  exact e
/-- Counts(*pairs) at hand: the pairs stand as a list or tuple -/
theorem mk_pairs {C : Addr} {H1 : Hp} {xs : List V} {l : Tab} {Q : VK} {n : Nat} {G : Str → Int} (hP : PrL H1 xs l) (hw : WdP l) (hl : l.length ≤ 1000) (hn : l.length ≤ n) (hG : ∀ z, sumOf l z = G z) (k : NewC C H1 Q G n) {E : XK} :
    ∀ x dx, H1 x = none → H1 dx = none → dx ≠ x → spInit C (V.ref x :: xs) (upd (upd H1 dx (.own x)) x (.ins C dx [])) (fun v H2 => v = .non ∧ Q (.ref x) H2) E := by
  intro x dx hx hdx ne
  have s2 := made (C := C) hx hdx
  refine ⟨x, dx, xs, l, rfl, upd_same, hP.mono (fun c a b e => s2 _ _ e), hl, hw, fun e H' he hC kp => ⟨rfl, ?_⟩⟩
  have s3 : Same H1 H' := fun b o e => kp b o (s2 _ _ e) (ne_of_none e hx)
  refine k x e H' _ hx (s2.free he) s3 hC (fun z => ?_) (Nat.le_trans (noZero_len _) (Nat.le_trans (addUp_len l) hn))
  rw [noZero_val (addUp_nd l), addUp_val, hG]
theorem NewC.later {C : Addr} {H H1 : Hp} {Q : VK} {G : Str → Int} {n : Nat} (s : Same H H1) (k : NewC C H Q G n) : NewC C H1 Q G n := fun r e H' u hr he s' hc hv hl => k r e H' u (s.free hr) (s.free he) (s.trans s') hc hv hl
theorem ok_of {C f fIp : Addr} {fd fdIp : FuncData} {fI : Addr} (F : Fun K "of" "Counts.of" s_Counts_of f fd) (g : Bi mg) (T : CT P w K mg base C fI) (FIp : Def P w K mg base CX0 3 "is_pair" ["thing"] (spIsPair K) fIp fdIp) : FnOk P w K mg base CX0 4 f fd ["cls", "pairs"] (spOf K C) := by
  obtain ⟨GIp, mIp, _, bIp⟩ := id FIp
  refine F.ok sc_Counts_of (fun vs H Q E h => ?_) (fun cdv A outer s H vs Q E hr h => ?_)
  · obtain ⟨_, _, _, rfl, _⟩ := h
    rfl
  · obtain ⟨a, xs, ps, rfl, ha, hP, hG, hl, k⟩ := h
    have hrIp : Room 3 _ := hr.mono (by decide)
    have hrI : Room 2 _ := hr.mono (by decide)
    refine ⟨_, (pss_cons (ps_if (pt_not (pt_val (pe_callB call_isiT (by rfl) g.isinstance (by decide +kernel) (pa_cons (pv 1) (pa_cons (pe_tup (pa_cons (pe_bltn (v := .ty "list") (by rfl) g.list (by decide +kernel) rfl) (pa_cons (pe_bltn (v := .ty "tuple") (by rfl) g.tuple (by decide +kernel) rfl) pa_nil))) pa_nil))))) (pss_one ps_never) pss_nil)
      (pss_cons (ps_for PassesOwn.never rfl (pi_enum (by rfl) g.enumerate (pa_cons (pv 1) pa_nil)) (pg_tup rfl (pgs_cons (pg_name (i := 2) sc_Counts_of.nd rfl (Or.inl rfl)) (pgs_cons (pg_name (i := 3) sc_Counts_of.nd rfl (Or.inl rfl)) pgs_nil))) (pss_one (ps_if (pt_not (pt_val (pe_call GIp hrIp rfl mIp FIp.kp bIp .nil pass0 (pa_cons (pv 3) pa_nil)))) (pss_one ps_never) pss_nil)))
      (pss_one (ps_ret (pe_mkSL (i := 0) T.mke T.ini hrI rfl (Or.inl rfl) pass0 (pv 1)))))), ?_⟩
    refine ⟨_, rfl, by show 2 ≤ sizeLine; decide, fun tp htp => ?_⟩
    have s1 : Same H (upd H tp (.tup [.ty "list", .ty "tuple"])) := Same.new htp
    refine ⟨_, tp, _, _, _, true, rfl, upd_same, .cons (.ty "list") (.cons (.ty "tuple") .nil), .base (.lst (s1 _ _ ha)), kitAny_cons (b := true) (kit_ty (b := "list") (by decide +kernel)) (fun h => by cases h) (fun _ => rfl), _, rfl, iteF ?_⟩
    refine ⟨_, rfl, a, xs, rfl, SqL.of (s1 _ _ ha), ?_⟩
    refine for_it (walk_enum (xs := xs)) (fun i σ' H' => ∃ x2 x3 : Option V, σ' = [some (.ref C), some (.ref a), x2, x3] ∧ Same H H') ⟨_, _, rfl, s1⟩ (fun i σ' H' _ ⟨_, _, _, h⟩ => SqL.of (h _ _ ha)) ?_ ?_
    · rintro i v σ' H' H2 hi ⟨x2, x3, rfl, s'⟩ ⟨T2, x, y, rfl, hT2, rfl, ex, ey⟩
      obtain rfl : V.int (i : Nat) = x := Option.some.inj ex
      have hi2 : i < ps.length := by rw [← hP.length]; exact hi
      obtain ⟨t, et, ht⟩ := hP.at (List.getElem?_eq_getElem hi2)
      dsimp only at ey
      rw [et] at ey
      obtain rfl := Option.some.inj ey
      have sT : Same H' (upd H' T2 (.tup [.int (i : Nat), .ref t])) := Same.new hT2
      refine ⟨T2, _, rfl, SqT.of upd_same, rfl, _, _, rfl, _, _, rfl, rfl, ?_⟩
      refine ⟨_, rfl, t, _, _, rfl, sT _ _ (s' _ _ ht), (hG _ (List.getElem_mem hi2)).1, (hG _ (List.getElem_mem hi2)).2, fun H3 s3 => ⟨_, rfl, iteF ?_⟩⟩
      exact ⟨_, _, rfl, (s'.trans sT).trans s3⟩
    · rintro σ' H' ⟨x2, x3, rfl, s'⟩
      exact ⟨rfl, _, rfl, a, xs, rfl, .inr (SqL.of (s' _ _ ha)), mk_pairs (hP.mono fun c a b e => s' _ _ e) (fun q m => (hG q m).1) hl (Nat.le_refl _) (fun z => rfl) (k.later s')⟩
theorem ok_len {C f : Addr} {fd : FuncData} {fI : Addr} (F : Fun K "__len__" "Counts.__len__" s_Counts_len f fd) (g : Bi mg) (T : CT P w K mg base C fI) : FnOk P w K mg base CX0 1 f fd ["self"] (spLen C) := by
  refine F.ok sc_Counts_len (fun vs H Q E h => ?_) (fun cdv A outer s H vs Q E hr h => ?_)
  · obtain ⟨_, _, _, rfl, _⟩ := h
    rfl
  · obtain ⟨p, d, t, rfl, hc, k⟩ := h
    obtain ⟨⟨dx, hp⟩, hd, hh, hw⟩ := id hc
    refine ⟨_, (pss_one (ps_ret (pe_callB call_lenD (by rfl) g.len PySem.boot_len (pa_cons (pe_fld (pv 0) rfl) pa_nil)))), ?_⟩
    refine ⟨_, rfl, p, C, dx, _, _, rfl, hp, T.cl, T.nH, flds_held d, d, _, rfl, hd, ?_⟩
    rw [tv_len]
    exact k
theorem ok_set {C f fIw fIs : Addr} {fd fdIw fdIs : FuncData} {fI : Addr} (F : Fun K "__setitem__" "Counts.__setitem__" s_Counts_setitem f fd) (g : Bi mg) (T : CT P w K mg base C fI) (FIw : Def P w K mg base CX0 1 "is_word" ["thing"] (spIsWord K) fIw fdIw) (FIs : Def P w K mg base CX0 2 "is_small" ["thing"] (spIsSmall K) fIs fdIs) :
    FnOk P w K mg base CX0 3 f fd ["self", "word", "number"] (spSet C) := by
  obtain ⟨GIw, mIw, _, bIw⟩ := id FIw
  obtain ⟨GIs, mIs, _, bIs⟩ := id FIs
  refine F.ok sc_Counts_setitem (fun vs H Q E h => ?_) (fun cdv A outer s H vs Q E hr h => ?_)
  · obtain ⟨_, _, _, _, _, rfl, _⟩ := h
    rfl
  · obtain ⟨p, d, t, z, n, rfl, hz, hn, hc, hl, k⟩ := h
    have hrIw : Room 1 _ := hr.mono (by decide)
    have hrIs : Room 2 _ := hr.mono (by decide)
    have hu := hu_of hr
    refine ⟨_, (pss_cons (ps_if (pt_not (pt_val (pe_call GIw hrIw rfl mIw FIw.kp bIw .nil pass0 (pa_cons (pv 1) pa_nil)))) (pss_one ps_never) pss_nil)
      (pss_cons (ps_if (pt_not (pt_val (pe_call GIs hrIs rfl mIs FIs.kp bIs .nil pass0 (pa_cons (pv 2) pa_nil)))) (pss_one ps_never) pss_nil)
      (pss_one (ps_if (pt_cmpR op_ne (pv 2) pe_int (nomark _)) (pss_one (ps_dput hu (pe_fld (pv 0) rfl) (pv 1) (pv 2) rfl)) (pss_one (ps_if (pt_cmp (pc_din hu (pv 1) (pe_fld (pv 0) rfl))) (pss_one (ps_ddel (pe_fld (pv 0) rfl) (pv 1))) pss_nil)))))), ?_⟩
    refine ⟨_, rfl, .inl ⟨z, rfl, Nat.le_trans hz.2.1 (by decide), fun H1 s1 => ?_⟩⟩
    rw [wordB_of hz]
    refine ⟨_, rfl, iteF ?_⟩
    refine ⟨_, rfl, .inl ⟨n, rfl, ?_⟩⟩
    rw [decide_eq_true hn.1, decide_eq_true hn.2]
    refine ⟨_, rfl, iteF ?_⟩
    obtain ⟨⟨dx, hp⟩, hd, hh, hw⟩ := id (hc.same s1)
    have npd : p ≠ d := ne_of hp hd (by intro z; cases z)
    refine ⟨_, rfl, rfl, _, rfl, ?_⟩
    by_cases e : n = 0
    · rw [decide_eq_true (show V.int n = V.int 0 by rw [e])]
      refine iteF ?_
      refine ⟨_, rfl, _, rfl, p, C, dx, _, _, rfl, hp, T.cl, T.nH, flds_held d, d, _, rfl, DGet.k (k := Sum.inr z) hd, _, rfl, ?_⟩
      rw [tv_val]
      cases q : look t z with
      | none =>
        refine iteF ?_
        refine k t H1 (hc.same s1) (fun y => ?_) (Nat.le_succ _) fun b o e _ => s1 b o e
        by_cases ey : y = z
        · rw [if_pos ey, ey, e]
          unfold val
          rw [q]
          rfl
        · rw [if_neg ey]
      | some v =>
        refine iteT ?_
        refine ⟨_, rfl, p, C, dx, _, _, rfl, hp, T.cl, T.nH, flds_held d, _, rfl, d, _, Sum.inr z, rfl, hd, rfl, (by rw [tv_val, q]; rfl), ?_⟩
        rw [tv_drop]
        refine k (drop t z) _ ⟨⟨dx, by rw [upd_ne npd]; exact hp⟩, upd_same, held_drop hh, fun y m => hw y (by rw [keys_drop] at m; exact (List.mem_filter.mp m).1)⟩ (fun y => by rw [val_drop hh.nd, e]) (Nat.le_trans (List.length_filter_le _ _) (Nat.le_succ _)) fun b o e n => ?_
        rw [upd_ne n]
        exact s1 b o e
    · rw [decide_eq_false (show ¬ V.int n = V.int 0 from fun q => e (V.int.inj q))]
      refine iteT ?_
      refine ⟨_, rfl, _, rfl, p, C, dx, _, _, rfl, hp, T.cl, T.nH, flds_held d, _, rfl, d, _, rfl, DPut.k (k := Sum.inr z) hd (by rw [tv_len]; exact Nat.lt_of_le_of_lt hl (by decide)), ?_⟩
      rw [tv_put]
      refine k (put t z n) _ ⟨⟨dx, by rw [upd_ne npd]; exact hp⟩, upd_same, held_put hh e, fun y m => (mem_keys_put.mp m).elim (hw y) (fun q => q ▸ hz)⟩ (fun y => val_put hh.nd) (len_put _ _ _) fun b o e n => ?_
      rw [upd_ne n]
      exact s1 b o e
end
end Cs

set_option Elab.async false
set_option linter.all false
set_option maxRecDepth 100000
set_option maxHeartbeats 4000000
/-! Counts: reading a word, sums, differences, multiples, smaller and greater integers. -/
namespace Cs
open PySem L2
structure Bj (mg : Str → Option Value) : Prop extends Bi mg where
  min : mg "min" = none
  max : mg "max" = none
/-- what isinstance asks of an instance's class -/
structure CI (K : PySem.W.Frag) (C : Addr) : Prop where
  cl : Cls K C
  ha : PySem.W.findIn K (.ref C) "__class__" = some (some (.builtin "object.__class__"))
  hn : PySem.W.specialIn K (.builtin "object.__class__") "__get__" = some (some (.builtin "getset_descriptor.__get__"))
  htk : PySem.W.takesIn K (.builtin "object.__class__") = some true
  hm : PySem.W.mroIn K C (.type "object") = some true
theorem CI.ty {K : PySem.W.Frag} {C : Addr} {H : Hp} {p dx : Addr} {fs : List (Str × V)} (c : CI K C) (h : H p = some (.ins C dx fs)) : TyX K H (.ref p) (.ref C) := .base (.ins h c.cl c.ha c.hn c.htk c.hm)
theorem kit_self {K : PySem.W.Frag} {C : Addr} : PySem.W.kitOne K (.ref C) (.ref C) = some true := by
  unfold PySem.W.kitOne
  rw [if_pos (beq_self_eq_true _)]
/-- operators as their callers have them -/
structure ODef (P : Program) (w : World) (K : PySem.W.Frag) (mg : Str → Option Value) (base : Heap) (CX : CXT) (k : Nat) (C : Addr) (m : Str) (ps : List Str) (sp : Sp) (f : Addr) (fd : FuncData) : Prop where
  c : OpC K C m f
  ok : FnOk P w K mg base CX k f fd ps sp
  b : Binds K fd ps []
structure GDef (P : Program) (w : World) (K : PySem.W.Frag) (mg : Str → Option Value) (base : Heap) (CX : CXT) (k : Nat) (C : Addr) (m : Str) (ps : List Str) (sp : Sp) (f : Addr) (fd : FuncData) : Prop where
  c : Spc K C m f
  fi : PySem.W.fnIn K f = true
  ok : FnOk P w K mg base CX k f fd ps sp
  b : Binds K fd ps []
def spGet (C : Addr) : Sp := fun vs H Q _ => ∃ (p d : Addr) (t : Tab) (z : Str), vs = [.ref p, .str z] ∧ Word z ∧ Cnt C H p d t ∧ ∀ H', Same H H' → Q (.int (val t z)) H'
def spJoint (C : Addr) : Sp := fun vs H Q _ => ∃ (p d q e : Addr) (t u : Tab), vs = [.ref p, .ref q] ∧ Cnt C H p d t ∧ Cnt C H q e u ∧ t.length ≤ 400 ∧ u.length ≤ 400 ∧
  ∀ (l : Addr) (H' : Hp) (ws : List Str), H l = none → Same H H' → H' l = some (.lst (ws.map V.str)) → Asc ws → (∀ z, z ∈ ws ↔ z ∈ keys t ∨ z ∈ keys u) → ws.length ≤ t.length + u.length → Q (.ref l) H'
/-- a op b word by word -/
def spBin (C : Addr) (G : Int → Int → Int) : Sp := fun vs H Q _ => ∃ (p d q e : Addr) (t u : Tab), vs = [.ref p, .ref q] ∧ Cnt C H p d t ∧ Cnt C H q e u ∧ t.length ≤ 400 ∧ u.length ≤ 400 ∧ NewC C H Q (fun z => G (val t z) (val u z)) (t.length + u.length)
def spUn (C : Addr) (G : Int → Int) : Sp := fun vs H Q _ => ∃ (p d : Addr) (t : Tab), vs = [.ref p] ∧ Cnt C H p d t ∧ t.length ≤ 1000 ∧ NewC C H Q (fun z => G (val t z)) t.length
def spMul (C : Addr) : Sp := fun vs H Q _ => ∃ (p d : Addr) (t : Tab) (n : Int), vs = [.ref p, .int n] ∧ Cnt C H p d t ∧ t.length ≤ 1000 ∧ (∀ z, n.natAbs.log2 + (val t z).natAbs.log2 < 1000000) ∧ NewC C H Q (fun z => n * val t z) t.length
/-- [(word, ..) for word in words] -/
theorem lc_pairs {K : PySem.W.Frag} {a : Addr} {ws : List Str} {j : Nat} {te : TE} {vs : List Nat} {σ : L2.St} {H1 : Hp} {D : Addr} {Qd : Hp → Prop} {G : Str → Int} (ha : H1 a = some (.lst (ws.map V.str))) (hD : H1 D = none) (hl : ws.length ≤ 1000)
    (hw : ∀ x, wipe ((wipe σ vs).set j (some x)) vs = wipe σ vs)
    (he : ∀ z ∈ ws, ∀ H', Same H1 H' → ∀ Qe : VK, (∀ T H'', H' T = none → Same H' H'' → H'' T = some (.tup [.str z, .int (G z)]) → Qe (.ref T) H'') → te ((wipe σ vs).set j (some (.str z))) H' Qe)
    (k : ∀ H' xs, Same H1 H' → H' D = some (.lst xs) → PrL H' xs (ws.map fun z => (z, G z)) → Qd H') :
    ∃ W : Nat → Nat → Hp → Prop, (∃ m, W 0 m (upd H1 D (.lst []))) ∧ ∀ i m H, W i m H →
      ((Itl K a).stop i H ∧ Qd H) ∨ ((Itl K a).go i H ∧ ∃ Nx : Hp → Prop, (∀ H', Nx H' → ∃ m', m' < m ∧ W (i + 1) m' H') ∧ ∀ x H', (Itl K a).yld i H x H' → gName j x (wipe σ vs) H' fun σ2 H2 => wipe σ2 vs = wipe σ vs ∧ tYes σ2 H2 fun b H3 =>
        if b = true then te σ2 H3 fun y H4 => ∃ acc, H4 D = some (.lst acc) ∧ acc.length < sizeLine ∧ Nx (upd H4 D (.lst (acc ++ [y]))) else Nx H3) := by
  refine lc_it (walk_list (xs := ws.map V.str)) (fun i H' => Same H1 H' ∧ ∃ xs, H' D = some (.lst xs) ∧ PrL H' xs ((ws.take i).map fun z => (z, G z))) ⟨Same.new hD, [], upd_same, .nil⟩ (fun i H' _ h => SqL.of (h.1 _ _ ha)) ?_ ?_
  · rintro i x H' H2 hi ⟨s', xs, hD', hP'⟩ ⟨rfl, hx⟩
    rw [List.length_map] at hi
    have ex : x = V.str ws[i] := by
      rw [List.getElem?_map, List.getElem?_eq_getElem hi] at hx
      exact (Option.some.inj hx).symm
    subst ex
    have hxl : xs.length = i := by
      rw [hP'.length, List.length_map, List.length_take]
      omega
    refine ⟨hw _, yes_it ?_⟩
    refine he ws[i] (List.getElem_mem hi) H2 s' _ fun T H3 hT s3 hT3 => ?_
    have nTD : D ≠ T := ne_of_none hD' hT
    refine ⟨xs, s3 _ _ hD', by rw [hxl]; exact Nat.lt_of_le_of_lt (show i ≤ 1000 by omega) (by decide), fun b o q => ?_, xs ++ [.ref T], upd_same, ?_⟩
    · rw [upd_ne (ne_of_none q hD)]
      exact s3 _ _ (s' _ _ q)
    · rw [List.take_succ, List.getElem?_eq_getElem hi, List.map_append]
      refine PrL.snoc (hP'.mono fun c a b e => ?_) (by rw [upd_ne nTD.symm]; exact hT3)
      have cD : c ≠ D := by
        rintro rfl
        rw [hD'] at e
        cases e
      rw [upd_ne cD]
      exact s3 _ _ e
  · rintro H' ⟨s', xs, hD', hP'⟩
    rw [List.length_map, List.take_length] at hP'
    exact k H' xs s' hD' hP'
/-- a table by ascending words -/
theorem sumOf_map {ws : List Str} (h : Asc ws) (G : Str → Int) (z : Str) : sumOf (ws.map fun y => (y, G y)) z = if z ∈ ws then G z else 0 := by
  have nd := h.nodup
  clear h
  unfold sumOf
  induction ws with
  | nil => rfl
  | cons y ws ih =>
    obtain ⟨n1, n2⟩ := List.nodup_cons.mp nd
    rw [List.map_cons, List.filter_cons]
    by_cases e : y = z
    · subst e
      rw [if_pos (by simp), List.map_cons, List.sum_cons, ih n2, if_neg n1, if_pos List.mem_cons_self]
      simp
    · rw [if_neg (by simpa using e), ih n2]
      by_cases m : z ∈ ws
      · rw [if_pos m, if_pos (List.mem_cons_of_mem _ m)]
      · rw [if_neg m, if_neg]
        intro q
        rcases List.mem_cons.mp q with q | q
        · exact e q.symm
        · exact m q
theorem sumOf_append (l m : Tab) (z : Str) : sumOf (l ++ m) z = sumOf l z + sumOf m z := by
  unfold sumOf
  rw [List.filter_append, List.map_append, List.sum_append]
theorem val_out {t : Tab} {z : Str} (h : z ∉ keys t) : val t z = 0 := by
  unfold val
  rw [look_none h]
  rfl
theorem PrL.append {H : Hp} : ∀ {xs ys : List V} {l m : Tab}, PrL H xs l → PrL H ys m → PrL H (xs ++ ys) (l ++ m)
  | _, _, _, _, .nil, h => h
  | _, _, _, _, .cons r t, h => .cons r (PrL.append t h)
theorem wd_map {ws : List Str} (h : ∀ z ∈ ws, Word z) (G : Str → Int) : WdP (ws.map fun z => (z, G z)) := fun q m => by
  obtain ⟨z, hz, e⟩ := List.mem_map.mp m
  rw [← e]
  exact h z hz
section
variable {P : Program} {w : World} {K : PySem.W.Frag} {mg : Str → Option Value} {base : Heap}
theorem ok_get {C f fIw : Addr} {fd fdIw : FuncData} {fI : Addr} (F : Fun K "__getitem__" "Counts.__getitem__" s_Counts_getitem f fd) (g : Bi mg) (T : CT P w K mg base C fI) (FIw : Def P w K mg base CX0 1 "is_word" ["thing"] (spIsWord K) fIw fdIw) :
    FnOk P w K mg base CX0 2 f fd ["self", "word"] (spGet C) := by
  obtain ⟨GIw, mIw, _, bIw⟩ := id FIw
  refine F.ok sc_Counts_getitem (fun vs H Q E h => ?_) (fun cdv A outer s H vs Q E hr h => ?_)
  · obtain ⟨_, _, _, _, rfl, _⟩ := h
    rfl
  · obtain ⟨p, d, t, z, rfl, hz, hc, k⟩ := h
    have hrIw : Room 1 _ := hr.mono (by decide)
    have hu := hu_of hr
    refine ⟨_, (pss_cons (ps_if (pt_not (pt_val (pe_call GIw hrIw rfl mIw FIw.kp bIw .nil pass0 (pa_cons (pv 1) pa_nil)))) (pss_one ps_never) pss_nil)
      (pss_one (ps_ret (pe_dget2 hu (pe_fld (pv 0) rfl) (pv 1) pe_int ⟨rfl, rfl, rfl, rfl⟩)))), ?_⟩
    refine ⟨_, rfl, .inl ⟨z, rfl, Nat.le_trans hz.2.1 (by decide), fun H1 s1 => ?_⟩⟩
    rw [wordB_of hz]
    refine ⟨_, rfl, iteF ?_⟩
    obtain ⟨⟨dx, hp⟩, hd, hh, hw⟩ := id (hc.same s1)
    refine ⟨_, rfl, p, C, dx, _, _, rfl, hp, T.cl, T.nH, flds_held d, d, rfl, .inl ⟨_, .inl hd⟩, _, rfl, _, DGet.k (k := Sum.inr z) hd, ?_⟩
    rw [tv_val, val_getD]
    exact k H1 s1
theorem ok_joint {C f fDi fWo : Addr} {fd fdDi fdWo : FuncData} {fI : Addr} (F : Fun K "joint_words" "joint_words" s_joint_words f fd) (g : Bi mg) (T : CT P w K mg base C fI) (FDi : Def P w K mg base CX0 1 "distinct" ["words"] (spDistinct K) fDi fdDi)
    (MWo : MDef P w K mg base CX0 2 C "words" ["self"] (spWords C) fWo fdWo) : FnOk P w K mg base CX0 3 f fd ["one", "other"] (spJoint C) := by
  obtain ⟨GDi, mDi, _, bDi⟩ := id FDi
  refine F.ok sc_joint_words (fun vs H Q E h => ?_) (fun cdv A outer s H vs Q E hr h => ?_)
  · obtain ⟨_, _, _, _, _, _, rfl, _⟩ := h
    rfl
  · obtain ⟨p, d, q, e, t, u, rfl, hc, hc2, hl, hl2, k⟩ := h
    have hrDi : Room 1 _ := hr.mono (by decide)
    have hrWo : Room 2 _ := hr.mono (by decide)
    refine ⟨_, (pss_one (ps_ret (pe_call GDi hrDi rfl mDi FDi.kp bDi .nil pass0 (pa_cons (pe_op op_cat (pe_meth0 (pv 0) T.cl MWo.me MWo.ok hrWo MWo.b .nil pass0) (pe_meth0 (pv 1) T.cl MWo.me MWo.ok hrWo MWo.b .nil pass0)) pa_nil)))), ?_⟩
    obtain ⟨⟨dx, hp⟩, _⟩ := id hc
    refine ⟨_, rfl, p, dx, _, rfl, hp, rfl, p, d, t, rfl, hc, by omega, fun l1 H1 ws1 hl1 s1 h1 ha1 hm1 hle1 => ?_⟩
    obtain ⟨⟨dx2, hq⟩, _⟩ := id (hc2.same s1)
    refine ⟨_, rfl, q, dx2, _, rfl, hq, rfl, q, e, u, rfl, hc2.same s1, by omega, fun l2 H2 ws2 hl2' s2 h2 ha2 hm2 hle2 => ?_⟩
    refine ⟨l1, l2, _, _, rfl, rfl, s2 _ _ h1, h2, ?_, fun l3 hl3 => ?_⟩
    · rw [List.length_map, List.length_map]
      exact Nat.le_trans (show ws1.length + ws2.length ≤ 1000 by omega) (by decide)
    have s3 : Same H2 (upd H2 l3 (.lst (ws1.map V.str ++ ws2.map V.str))) := Same.new hl3
    refine ⟨l3, ws1 ++ ws2, rfl, SqL.of (by rw [upd_same, List.map_append]), by rw [List.length_append]; omega, fun l4 H4 ws hl4 s4 h4 ha hm hle => ?_⟩
    have s13 := (s1.trans s2).trans s3
    refine k l4 H4 ws (s13.free hl4) (s13.trans s4) h4 ha (fun z => ?_) ?_
    · rw [hm, List.mem_append, hm1, hm2]
    · rw [List.length_append] at hle
      omega
theorem ok_add {C f fPa : Addr} {fd fdPa : FuncData} {fI : Addr} (F : Fun K "__add__" "Counts.__add__" s_Counts_add f fd) (g : Bi mg) (T : CT P w K mg base C fI) (ci : CI K C) (MPa : MDef P w K mg base CX0 3 C "pairs" ["self"] (spPairsM C) fPa fdPa) :
    FnOk P w K mg base CX0 4 f fd ["self", "other"] (spBin C fun a b => a + b) := by
  refine F.ok sc_Counts_add (fun vs H Q E h => ?_) (fun cdv A outer s H vs Q E hr h => ?_)
  · obtain ⟨_, _, _, _, _, _, rfl, _⟩ := h
    rfl
  · obtain ⟨p, d, q, e, t, u, rfl, hc, hc2, hl, hl2, k⟩ := h
    have hrPa : Room 3 _ := hr.mono (by decide)
    have hrI : Room 2 _ := hr.mono (by decide)
    refine ⟨_, (pss_cons (ps_if (pt_not (pt_val (pe_callB call_isi (by rfl) g.isinstance (by decide +kernel) (pa_cons (pv 1) (pa_cons (pe_glob (v := .ref C) rfl T.mgC rfl) pa_nil))))) (pss_one (ps_never)) pss_nil)
      (pss_cons (ps_set (i := 2) sc_Counts_add.nd rfl (Or.inl rfl) (pe_op op_cat (pe_meth0 (pv 0) T.cl MPa.me MPa.ok hrPa MPa.b .nil pass0) (pe_meth0 (pv 1) T.cl MPa.me MPa.ok hrPa MPa.b .nil pass0)))
      (pss_one (ps_ret (pe_mkS T.mke T.ini hrI rfl T.mgC pass0 (pv 2)))))), ?_⟩
    obtain ⟨⟨dx, hp⟩, _⟩ := id hc
    obtain ⟨⟨dx2, hq⟩, _⟩ := id hc2
    refine ⟨_, rfl, _, _, _, _, true, rfl, .own C, ci.ty hq, kit_self, _, rfl, iteF ?_⟩
    refine ⟨_, rfl, p, dx, _, rfl, hp, rfl, p, d, t, rfl, hc, by omega, fun l1 H1 xs1 m1 hl1 s1 h1 hP1 ht1 hw1 hle1 => ?_⟩
    obtain ⟨⟨dx3, hq3⟩, _⟩ := id (hc2.same s1)
    refine ⟨_, rfl, q, dx3, _, rfl, hq3, rfl, q, e, u, rfl, hc2.same s1, by omega, fun l2 H2 xs2 m2 hl2' s2 h2 hP2 ht2 hw2 hle2 => ?_⟩
    have hx1 := hP1.length
    have hx2 := hP2.length
    refine ⟨l1, l2, _, _, rfl, rfl, s2 _ _ h1, h2, Nat.le_trans (show xs1.length + xs2.length ≤ 1000 by omega) (by decide), fun l3 hl3 => ?_⟩
    have s3 : Same H2 (upd H2 l3 (.lst (xs1 ++ xs2))) := Same.new hl3
    refine ⟨_, rfl, l3, _, rfl, .inr (SqL.of upd_same), ?_⟩
    have hP : PrL (upd H2 l3 (.lst (xs1 ++ xs2))) (xs1 ++ xs2) (m1 ++ m2) := PrL.append (hP1.mono fun _ _ _ e => s3 _ _ (s2 _ _ e)) (hP2.mono fun _ _ _ e => s3 _ _ e)
    refine mk_pairs hP (fun r mr => (List.mem_append.mp mr).elim (hw1 r) (hw2 r)) (by rw [List.length_append]; omega) (by rw [List.length_append]; omega) (fun z => ?_) (k.later ((s1.trans s2).trans s3))
    rw [sumOf_append, sumOf_told ht1, sumOf_told ht2]
theorem ok_neg {C f fWo : Addr} {fd fdWo : FuncData} {fI : Addr} (F : Fun K "__neg__" "Counts.__neg__" s_Counts_neg f fd) (g : Bi mg) (T : CT P w K mg base C fI) (MWo : MDef P w K mg base CX0 2 C "words" ["self"] (spWords C) fWo fdWo) :
    FnOk P w K mg base CX0 3 f fd ["self"] (spUn C fun a => -a) := by
  refine F.ok sc_Counts_neg (fun vs H Q E h => ?_) (fun cdv A outer s H vs Q E hr h => ?_)
  · obtain ⟨_, _, _, rfl, _⟩ := h
    rfl
  · obtain ⟨p, d, t, rfl, hc, hl, k⟩ := h
    have hrWo : Room 2 _ := hr.mono (by decide)
    have hrI : Room 2 _ := hr.mono (by decide)
    have hu := hu_of hr
    obtain ⟨⟨dx, hp⟩, hd, hh, hw⟩ := id hc
    refine ⟨_, (pss_cons (ps_setLc (i := 1) (own := [("word", 2)]) (g := gName 2) (te := (tTup (tCons _ (tCons (tUn _ (tDGet (tFld K _ "held") _)) tNil))))  (by rfl) sc_Counts_neg.nd rfl rfl (sw_true rfl rfl rfl (by decide +kernel)) (pi_list (pe_meth0 (pv 0) T.cl MWo.me MWo.ok hrWo MWo.b .nil pass0)) (blkOk_by (own := [("word", 2)]) (N := ["self", "pairs", "word"]) (sc := defScope s_Counts_neg) (by decide +kernel)) (fun _ _ _ _ _ => (pg_name (i := 2) sc_Counts_neg.nd rfl (Or.inl rfl))) (fun _ _ _ _ _ => pts_nil) (fun _ _ _ _ _ => (pe_tup (pa_cons (pv 2) (pa_cons (pe_un un_neg (pe_dget hu (pe_fld (pv 0) rfl) (pv 2) (fun _ _ => rfl))) pa_nil)))))
      (pss_one (ps_ret (pe_mkS T.mke T.ini hrI rfl T.mgC pass0 (pv 1))))), ?_⟩
    refine ⟨_, rfl, p, dx, _, rfl, hp, rfl, p, d, t, rfl, hc, hl, fun q H1 ws hq s1 h1 ha hm hle => ⟨q, rfl, ⟨_, SqL.of h1⟩, fun D hD => ?_⟩⟩
    refine lc_pairs (G := fun z => -val t z) h1 hD (by omega) (fun _ => rfl) (fun z hz H' s' Qe q => ?_) fun H' xs s' hD' hP' => ?_
    · obtain ⟨n, en, _⟩ := look_some ((hm z).mp hz)
      have ev : val t z = n := by unfold val; rw [en]; rfl
      have hg : DGet H' d (V.str z) (some (V.int n)) := by
        have := DGet.k (k := Sum.inr z) (s' _ _ (s1 _ _ hd))
        rw [tv_val, en] at this
        exact this
      refine ⟨_, rfl, _, rfl, p, C, dx, _, _, rfl, s' _ _ (s1 _ _ hp), T.cl, T.nH, flds_held d, _, rfl, d, .int n, rfl, hg, _, rfl, by show 2 ≤ sizeLine; decide, fun T2 hT2 => q T2 _ hT2 (Same.new hT2) ?_⟩
      rw [upd_same, ev]
    · refine ⟨_, rfl, D, xs, rfl, .inr (SqL.of hD'), mk_pairs hP' (wd_map (fun z hz => hw z ((hm z).mp hz)) _) (by rw [List.length_map]; omega) (by rw [List.length_map]; exact hle) (fun z => ?_) (k.later (s1.trans s'))⟩
      rw [sumOf_map ha]
      by_cases c : z ∈ ws
      · rw [if_pos c]
      · rw [if_neg c, val_out (mt (hm z).mpr c)]
        rfl
theorem ok_abs {C f fWo : Addr} {fd fdWo : FuncData} {fI : Addr} (F : Fun K "__abs__" "Counts.__abs__" s_Counts_abs f fd) (g : Bi mg) (T : CT P w K mg base C fI) (MWo : MDef P w K mg base CX0 2 C "words" ["self"] (spWords C) fWo fdWo) :
    FnOk P w K mg base CX0 3 f fd ["self"] (spUn C fun a => if a < 0 then -a else a) := by
  refine F.ok sc_Counts_abs (fun vs H Q E h => ?_) (fun cdv A outer s H vs Q E hr h => ?_)
  · obtain ⟨_, _, _, rfl, _⟩ := h
    rfl
  · obtain ⟨p, d, t, rfl, hc, hl, k⟩ := h
    have hrWo : Room 2 _ := hr.mono (by decide)
    have hrI : Room 2 _ := hr.mono (by decide)
    have hu := hu_of hr
    obtain ⟨⟨dx, hp⟩, hd, hh, hw⟩ := id hc
    refine ⟨_, (pss_cons (ps_setLc (i := 1) (own := [("word", 2)]) (g := gName 2) (te := (tTup (tCons _ (tCons (tCB _ (tCons (tDGet (tFld K _ "held") _) tNil)) tNil))))  (by rfl) sc_Counts_abs.nd rfl rfl (sw_true rfl rfl rfl (by decide +kernel)) (pi_list (pe_meth0 (pv 0) T.cl MWo.me MWo.ok hrWo MWo.b .nil pass0)) (blkOk_by (own := [("word", 2)]) (N := ["self", "pairs", "word"]) (sc := defScope s_Counts_abs) (by decide +kernel)) (fun _ _ _ _ _ => (pg_name (i := 2) sc_Counts_abs.nd rfl (Or.inl rfl))) (fun _ _ _ _ _ => pts_nil) (fun _ _ _ _ _ => (pe_tup (pa_cons (pv 2) (pa_cons (pe_callB call_abs (by rfl) g.abs (by decide +kernel) (pa_cons (pe_dget hu (pe_fld (pv 0) rfl) (pv 2) (fun _ _ => rfl)) pa_nil)) pa_nil)))))
      (pss_one (ps_ret (pe_mkS T.mke T.ini hrI rfl T.mgC pass0 (pv 1))))), ?_⟩
    refine ⟨_, rfl, p, dx, _, rfl, hp, rfl, p, d, t, rfl, hc, hl, fun q H1 ws hq s1 h1 ha hm hle => ⟨q, rfl, ⟨_, SqL.of h1⟩, fun D hD => ?_⟩⟩
    refine lc_pairs (G := fun z => if val t z < 0 then -val t z else val t z) h1 hD (by omega) (fun _ => rfl) (fun z hz H' s' Qe q => ?_) fun H' xs s' hD' hP' => ?_
    · obtain ⟨n, en, _⟩ := look_some ((hm z).mp hz)
      have ev : val t z = n := by unfold val; rw [en]; rfl
      have hg : DGet H' d (V.str z) (some (V.int n)) := by
        have := DGet.k (k := Sum.inr z) (s' _ _ (s1 _ _ hd))
        rw [tv_val, en] at this
        exact this
      refine ⟨_, rfl, _, rfl, p, C, dx, _, _, rfl, s' _ _ (s1 _ _ hp), T.cl, T.nH, flds_held d, _, rfl, d, .int n, rfl, hg, _, rfl, by show 2 ≤ sizeLine; decide, fun T2 hT2 => q T2 _ hT2 (Same.new hT2) ?_⟩
      rw [upd_same, ev]
    · refine ⟨_, rfl, D, xs, rfl, .inr (SqL.of hD'), mk_pairs hP' (wd_map (fun z hz => hw z ((hm z).mp hz)) _) (by rw [List.length_map]; omega) (by rw [List.length_map]; exact hle) (fun z => ?_) (k.later (s1.trans s'))⟩
      rw [sumOf_map ha]
      by_cases c : z ∈ ws
      · rw [if_pos c]
      · rw [if_neg c, val_out (mt (hm z).mpr c)]
        rfl
theorem ok_mul {C f fWo : Addr} {fd fdWo : FuncData} {fI : Addr} (F : Fun K "__mul__" "Counts.__mul__" s_Counts_mul f fd) (g : Bi mg) (T : CT P w K mg base C fI) (MWo : MDef P w K mg base CX0 2 C "words" ["self"] (spWords C) fWo fdWo) :
    FnOk P w K mg base CX0 3 f fd ["self", "times"] (spMul C) := by
  refine F.ok sc_Counts_mul (fun vs H Q E h => ?_) (fun cdv A outer s H vs Q E hr h => ?_)
  · obtain ⟨_, _, _, _, rfl, _⟩ := h
    rfl
  · obtain ⟨p, d, t, m, rfl, hc, hl, hb, k⟩ := h
    have hrWo : Room 2 _ := hr.mono (by decide)
    have hrI : Room 2 _ := hr.mono (by decide)
    have hu := hu_of hr
    obtain ⟨⟨dx, hp⟩, hd, hh, hw⟩ := id hc
    refine ⟨_, (pss_cons (ps_if (pt_not (pt_val (pe_callB call_isi (by rfl) g.isinstance (by decide +kernel) (pa_cons (pv 1) (pa_cons (pe_bltn (v := .ty "int") (by rfl) g.int (by decide +kernel) rfl) pa_nil))))) (pss_one (ps_never)) pss_nil)
      (pss_cons (ps_setLc (i := 2) (own := [("word", 3)]) (g := gName 3) (te := (tTup (tCons _ (tCons (tOp _ _ (tDGet (tFld K _ "held") _)) tNil))))  (by rfl) sc_Counts_mul.nd rfl rfl (sw_true rfl rfl rfl (by decide +kernel)) (pi_list (pe_meth0 (pv 0) T.cl MWo.me MWo.ok hrWo MWo.b .nil pass0)) (blkOk_by (own := [("word", 3)]) (N := ["self", "times", "pairs", "word"]) (sc := defScope s_Counts_mul) (by decide +kernel)) (fun _ _ _ _ _ => (pg_name (i := 3) sc_Counts_mul.nd rfl (Or.inl rfl))) (fun _ _ _ _ _ => pts_nil) (fun _ _ _ _ _ => (pe_tup (pa_cons (pv 3) (pa_cons (pe_op op_mulW (pv 1) (pe_dget hu (pe_fld (pv 0) rfl) (pv 3) (fun _ _ => rfl))) pa_nil)))))
      (pss_one (ps_ret (pe_mkS T.mke T.ini hrI rfl T.mgC pass0 (pv 2)))))), ?_⟩
    refine ⟨_, rfl, _, _, _, _, true, rfl, .ty "int", .base (.int m), kit_ty (by decide +kernel), _, rfl, iteF ?_⟩
    refine ⟨_, rfl, p, dx, _, rfl, hp, rfl, p, d, t, rfl, hc, hl, fun q H1 ws hq s1 h1 ha hm hle => ⟨q, rfl, ⟨_, SqL.of h1⟩, fun D hD => ?_⟩⟩
    refine lc_pairs (G := fun z => m * val t z) h1 hD (by omega) (fun _ => rfl) (fun z hz H' s' Qe q => ?_) fun H' xs s' hD' hP' => ?_
    · obtain ⟨n, en, _⟩ := look_some ((hm z).mp hz)
      have ev : val t z = n := by unfold val; rw [en]; rfl
      have hg : DGet H' d (V.str z) (some (V.int n)) := by
        have := DGet.k (k := Sum.inr z) (s' _ _ (s1 _ _ hd))
        rw [tv_val, en] at this
        exact this
      have hbz := hb z
      rw [ev] at hbz
      refine ⟨_, rfl, _, rfl, _, rfl, p, C, dx, _, _, rfl, s' _ _ (s1 _ _ hp), T.cl, T.nH, flds_held d, _, rfl, d, .int n, rfl, hg, _, _, rfl, rfl, hbz, by show 2 ≤ sizeLine; decide, fun T2 hT2 => q T2 _ hT2 (Same.new hT2) ?_⟩
      rw [upd_same, ev]
    · refine ⟨_, rfl, D, xs, rfl, .inr (SqL.of hD'), mk_pairs hP' (wd_map (fun z hz => hw z ((hm z).mp hz)) _) (by rw [List.length_map]; omega) (by rw [List.length_map]; exact hle) (fun z => ?_) (k.later (s1.trans s'))⟩
      rw [sumOf_map ha]
      by_cases c : z ∈ ws
      · rw [if_pos c]
      · rw [if_neg c, val_out (mt (hm z).mpr c), Int.mul_zero]
end
end Cs

set_option Elab.async false
set_option linter.all false
set_option maxRecDepth 100000
set_option maxHeartbeats 4000000
/-! The laws' common helpers: the model, what is told of it, whether counts are equal to it. -/
namespace Cs
open PySem L2
/-- a model at m: a dict of words and integers -/
structure Mdl (H : Hp) (m : Addr) (u : Tab) : Prop where
  dc : H m = some (.dK (tv u))
  nd : (keys u).Nodup
  wd : ∀ z ∈ keys u, Word z
theorem Mdl.same {H H' : Hp} {m : Addr} {u : Tab} (s : Same H H') (h : Mdl H m u) : Mdl H' m u := ⟨s _ _ h.dc, h.nd, h.wd⟩
def spModel : Sp := fun vs H Q _ => ∃ (a : Addr) (xs : List V) (ps : List (Str × Int)), vs = [.ref a] ∧ H a = some (.lst xs) ∧ PrL H xs ps ∧ WdP ps ∧ ps.length ≤ 1000 ∧
  ∀ (m : Addr) (H' : Hp), H m = none → Same H H' → Mdl H' m (addUp ps) → Q (.ref m) H'
def spTold : Sp := fun vs H Q _ => ∃ (m : Addr) (u : Tab), vs = [.ref m] ∧ Mdl H m u ∧ u.length < 64 ∧
  ∀ (q : Addr) (H' : Hp) (xs : List V) (l : Tab), H q = none → Same H H' → H' q = some (.lst xs) → PrL H' xs l → Told (val u) l → WdP l → l.length ≤ u.length → Q (.ref q) H'
def spEqual (C : Addr) : Sp := fun vs H Q _ => ∃ (p d m : Addr) (t u : Tab), vs = [.ref p, .ref m] ∧ Cnt C H p d t ∧ t.length ≤ 1000 ∧ Mdl H m u ∧ u.length < 64 ∧ (∀ z, val t z = val u z) ∧ ∀ H', Same H H' → Q (.bl true) H'
/-- pairs as data -/
def pd (l : Tab) : PyData := .list (l.map fun q => .tuple [.str q.1, .int q.2])
theorem word_ok {z : Str} (h : Word z) : PyData.strOk z = true := by
  unfold PyData.strOk
  rw [← Array.all_toList, List.all_eq_true]
  intro c hc
  have h1 := h.2.2 c hc
  have h2 : ∀ c ∈ LET.cps.toList, c < 0x110000 := by decide +kernel
  exact decide_eq_true (h2 c h1)
theorem pd_can : ∀ {l : Tab}, WdP l → PyData.canLayAll0 (l.map fun q => .tuple [.str q.1, .int q.2]) = true
  | [], _ => rfl
  | q :: l, h => by
    rw [List.map_cons, PyData.canLayAll0, pd_can fun r m => h r (List.mem_cons_of_mem _ m)]
    have := word_ok (h q List.mem_cons_self)
    simp [PyData.canLay0, PyData.canLayAll0, this]
theorem pd_depth : ∀ l : Tab, PyData.depthAll (l.map fun q => .tuple [.str q.1, .int q.2]) ≤ 1
  | [] => Nat.zero_le _
  | q :: l => by
    rw [List.map_cons, PyData.depthAll]
    have := pd_depth l
    simp only [PyData.depth, PyData.depthAll]
    omega
theorem pd_shaped {l : Tab} (h : WdP l) : SeqAt.shaped (pd l) = true := by
  unfold SeqAt.shaped pd
  rw [Bool.and_eq_true]
  refine ⟨by rw [PyData.canLay0]; exact pd_can h, decide_eq_true ?_⟩
  rw [PyData.depth]
  have := pd_depth l
  omega
theorem pd_refl {l : Tab} (h : WdP l) : PyData.eqv (pd l) (pd l) = true := SeqAt.eqv_refl _ (SeqAt.canLay_of_shaped (pd_shaped h))
theorem PrL.dp {K : PySem.W.Frag} {H : Hp} : ∀ {xs : List V} {l : Tab}, PrL H xs l → DpAll K H xs (l.map fun q => .tuple [.str q.1, .int q.2])
  | _, _, .nil => .nil
  | _, _, .cons ⟨t, e, ht⟩ r => .cons (by rw [e]; exact .tup (SqT.of ht) (.cons (.str _) (.cons (.int _) .nil))) (PrL.dp r)
section
variable {P : Program} {w : World} {K : PySem.W.Frag} {mg : Str → Option Value} {base : Heap}
theorem ok_model {f : Addr} {fd : FuncData} (F : Fun K "_law_model" "_law_model" s_l_model f fd) (g : Bi mg) : FnOk P w K mg base CX0 1 f fd ["_law_pairs_here"] spModel := by
  refine F.ok sc_l_model (fun vs H Q E h => ?_) (fun cdv A outer s H vs Q E hr h => ?_)
  · obtain ⟨_, _, _, rfl, _⟩ := h
    rfl
  · obtain ⟨a, xs, ps, rfl, ha, hP, hW, hl, k⟩ := h
    have hu := hu_of hr
    refine ⟨_, (pss_cons (ps_set (i := 1) sc_l_model.nd rfl (Or.inl rfl) pe_dnewK)
      (pss_cons (ps_for PassesOwn.never rfl (pi_list (pv 0)) (pg_tup rfl (pgs_cons (pg_name (i := 2) sc_l_model.nd rfl (Or.inl rfl)) (pgs_cons (pg_name (i := 3) sc_l_model.nd rfl (Or.inl rfl)) pgs_nil))) (pss_one (ps_dput hu (pv 1) (pv 2) (pe_op op_add (pe_dget2 hu (pv 1) (pv 2) pe_int ⟨rfl, rfl, rfl, rfl⟩) (pv 3)) rfl)))
      (pss_one (ps_ret (pv 1))))), ?_⟩
    intro e he
    have s1 : Same H (upd H e (.dK [])) := Same.new he
    refine ⟨_, rfl, a, rfl, ⟨_, SqL.of (s1 _ _ ha)⟩, for_list (K := K) (a := a) (xs := xs) (fun i σ' H' => ∃ x2 x3 : Option V, σ' = [some (.ref a), some (.ref e), x2, x3] ∧ Same H H' ∧ H' e = some (.dK (tv (addUp (ps.take i)))))
      ⟨_, _, rfl, s1, upd_same⟩ (fun i σ' H' _ ⟨_, _, _, h, _⟩ => SqL.of (h _ _ ha)) ?_ ?_⟩
    · rintro i y σ' H' hy ⟨x2, x3, rfl, s', he'⟩
      have hi : i < ps.length := by
        have := (List.getElem?_eq_some_iff.mp hy).1
        rw [hP.length] at this
        exact this
      obtain ⟨t, et, ht⟩ := hP.at (List.getElem?_eq_getElem hi)
      rw [et] at hy
      obtain rfl := Option.some.inj hy
      refine ⟨t, _, rfl, SqT.of (s' _ _ ht), rfl, _, _, rfl, _, _, rfl, rfl, ?_⟩
      refine ⟨_, rfl, e, rfl, .inl ⟨_, .inl he'⟩, _, rfl, _, DGet.k (k := Sum.inr ps[i].1) he', _, rfl, val (addUp (ps.take i)) ps[i].1, ps[i].2, (by rw [tv_val]; exact val_getD _ _), rfl, _, rfl, _, rfl, e, _, rfl, DPut.k (k := Sum.inr ps[i].1) he' ?_, ?_⟩
      · rw [tv_len]
        have h1 := addUp_len (ps.take i)
        rw [List.length_take] at h1
        exact Nat.lt_of_le_of_lt (show (addUp (ps.take i)).length ≤ 1000 by omega) (by decide)
      · refine ⟨_, _, rfl, fun b o q => by rw [upd_ne (ne_of_none q he)]; exact s' b o q, ?_⟩
        rw [upd_same, tv_put, List.take_succ, List.getElem?_eq_getElem hi]
        show some (HO.dK (tv (put (addUp (ps.take i)) ps[i].1 (val (addUp (ps.take i)) ps[i].1 + ps[i].2)))) = some (HO.dK (tv (addUp (ps.take i ++ [ps[i]]))))
        rw [addUp_snoc]
    · rintro σ' H' ⟨x2, x3, rfl, s', he'⟩
      rw [hP.length, List.take_length] at he'
      refine ⟨_, rfl, k e H' he s' ⟨he', addUp_nd ps, fun z m => ?_⟩⟩
      obtain ⟨q, hq, eq⟩ := addUp_keys z ps m
      rw [← eq]
      exact hW q hq
theorem ok_told {f : Addr} {fd : FuncData} (F : Fun K "_law_told" "_law_told" s_l_told f fd) (g : Bi mg) : FnOk P w K mg base CX0 1 f fd ["_law_model_here"] spTold := by
  refine F.ok sc_l_told (fun vs H Q E h => ?_) (fun cdv A outer s H vs Q E hr h => ?_)
  · obtain ⟨_, _, rfl, _⟩ := h
    rfl
  · obtain ⟨m, u, rfl, hm, hl, k⟩ := h
    have hu := hu_of hr
    refine ⟨_, (pss_cons (ps_set (i := 1) sc_l_told.nd rfl (Or.inl rfl) (pe_callB cr_sortedS (by rfl) g.sorted (by decide +kernel) (pa_cons (pe_lock (pe_lc (own := [("_law_word_here", 2)]) (g := gName 2)  (by rfl) sc_l_told.nd (pi_keys (pv 0)) (blkOk_by (own := [("_law_word_here", 2)]) (N := ["_law_model_here", "_law_words", "_law_word_here"]) (sc := defScope s_l_told) (by decide +kernel)) (fun _ _ _ _ _ => (pg_name (i := 2) sc_l_told.nd rfl (Or.inl rfl))) (fun _ _ _ _ _ => pts_nil) (fun _ _ _ _ _ => (pe_callTy SkE.call_str_str (by rfl) g.str (by decide +kernel) (pa_cons (pv 2) pa_nil))))) pa_nil)))
      (pss_one (ps_ret (pe_lc (own := [("_law_word_here", 2)]) (g := gName 2)  (by rfl) sc_l_told.nd (pi_list (pv 1)) (blkOk_by (own := [("_law_word_here", 2)]) (N := ["_law_model_here", "_law_words", "_law_word_here"]) (sc := defScope s_l_told) (by decide +kernel)) (fun _ _ _ _ _ => (pg_name (i := 2) sc_l_told.nd rfl (Or.inl rfl))) (fun _ _ _ _ _ => (pts_one (pt_cmpR op_ne (pe_dget hu (pv 0) (pv 2) (fun _ _ => rfl)) pe_int (nomark _)))) (fun _ _ _ _ _ => (pe_tup (pa_cons (pv 2) (pa_cons (pe_dget hu (pv 0) (pv 2) (fun _ _ => rfl)) pa_nil)))))))), ?_⟩
    refine ⟨m, _, hm.dc, trivial, fun od => ?_⟩
    refine ⟨_, rfl, m, od, rfl, .inl ⟨_, upd_same, fun D hD => ?_⟩⟩
    have nDm : D ≠ m := (ne_of_none upd_same hD).symm
    have hDH : H D = none := by rw [upd_ne nDm] at hD; exact hD
    refine lc_it walk_keys (fun i H' => (∀ b o, H b = some o → b ≠ m → H' b = some o) ∧ H' m = some (.frz od (.dK (tv u))) ∧ H' D = some (.lst (((keys u).take i).map V.str))) ⟨fun b o e n => by rw [upd_ne (ne_of_none e hDH), upd_ne n]; exact e, by rw [upd_ne nDm.symm]; exact upd_same, upd_same⟩ (fun i H' _ h => h.2.1) ?_ ?_
    · rintro i v H' H2 hi ⟨k1, k2, k3⟩ ⟨rfl, kk, vv, hv, ev⟩
      rw [tv_len] at hi
      have hi2 : (tv u)[i]? = some (Sum.inr u[i].1, V.int u[i].2) := by
        unfold tv
        rw [List.getElem?_map, List.getElem?_eq_getElem hi]
        rfl
      rw [hi2] at hv
      obtain rfl : Sum.inr u[i].1 = kk := congrArg Prod.fst (Option.some.inj hv)
      obtain rfl : v = V.str u[i].1 := ev
      refine ⟨rfl, yes_it ?_⟩
      refine ⟨_, rfl, _, rfl, _, k3, ?_, fun b o e n => ?_, ?_, ?_⟩
      · rw [List.length_map, List.length_take]
        exact Nat.lt_of_le_of_lt (show min i (keys u).length ≤ 1000 by omega) (by decide)
      · rw [upd_ne (ne_of_none e hDH)]
        exact k1 b o e n
      · rw [upd_ne nDm.symm]
        exact k2
      · have : (keys u)[i]? = some u[i].1 := by
          unfold keys
          rw [List.getElem?_map, List.getElem?_eq_getElem hi]
          rfl
        rw [upd_same, List.take_succ, this, List.map_append]
        rfl
    · rintro H' ⟨k1, k2, k3⟩
      have hkl : (keys u).length = u.length := List.length_map _
      rw [tv_len, ← hkl, List.take_length] at k3
      refine ⟨k2, D, keys u, rfl, SqL.of (by rw [upd_ne nDm]; exact k3), by omega, fun ws q hp hs hq => ?_⟩
      have s1 : Same H (upd H' m (.dK (tv u))) := fun b o e => by
        by_cases n : b = m
        · subst n
          rw [upd_same, ← e, hm.dc]
        · rw [upd_ne n]
          exact k1 b o e n
      generalize upd H' m (.dK (tv u)) = H1 at s1 hq
      have s2 : Same H1 (upd H1 q (.lst (ws.map V.str))) := Same.new hq
      have hqn : H q = none := s1.free hq
      have s3 := s1.trans s2
      have h3 : (upd H1 q (.lst (ws.map V.str))) q = some (.lst (ws.map V.str)) := upd_same
      generalize upd H1 q (.lst (ws.map V.str)) = H3 at s3 h3
      have ha : Asc ws := asc_of_sorted hs (hp.nodup_iff.mpr hm.nd)
      have hmm : ∀ z, z ∈ ws ↔ z ∈ keys u := fun z => hp.mem_iff
      have hwl : ws.length = u.length := by rw [hp.length_eq, hkl]
      have hm3 := hm.same s3
      -- the second comprehension
      refine ⟨_, rfl, q, rfl, ⟨_, SqL.of h3⟩, fun D2 hD2 => ?_⟩
      refine lc_it (walk_list (xs := ws.map V.str)) (fun i H' => Same H3 H' ∧ ∃ xs, H' D2 = some (.lst xs) ∧ PrL H' xs (toldBy u (ws.take i))) ⟨Same.new hD2, [], upd_same, .nil⟩ (fun i H' _ h => SqL.of (h.1 _ _ h3)) ?_ ?_
      · rintro i x H' H2 hi ⟨s', xs, hD', hP'⟩ ⟨rfl, hx⟩
        rw [List.length_map] at hi
        have ex : x = V.str ws[i] := by
          rw [List.getElem?_map, List.getElem?_eq_getElem hi] at hx
          exact (Option.some.inj hx).symm
        subst ex
        obtain ⟨n, en, _⟩ := look_some ((hmm ws[i]).mp (List.getElem_mem hi))
        have ev : val u ws[i] = n := by unfold val; rw [en]; rfl
        have hd' := s' _ _ hm3.dc
        have hg : DGet H2 m (V.str ws[i]) (some (V.int n)) := by
          have := DGet.k (k := Sum.inr ws[i]) hd'
          rw [tv_val, en] at this
          exact this
        have et : toldBy u (ws.take (i + 1)) = toldBy u (ws.take i) ++ (if n ≠ 0 then [(ws[i], n)] else []) := by
          unfold toldBy
          rw [List.take_succ, List.getElem?_eq_getElem hi, List.filter_append, List.map_append]
          congr 1
          show List.map _ (List.filter _ [ws[i]]) = _
          rw [List.filter_cons, ev]
          by_cases c : n ≠ 0
          · rw [if_pos (decide_eq_true c), if_pos c]
            show [(ws[i], val u ws[i])] = _
            rw [ev]
          · rw [if_neg (by simpa using c), if_neg c]
            rfl
        have hxl : xs.length ≤ i := by
          rw [hP'.length]
          unfold toldBy
          rw [List.length_map]
          refine Nat.le_trans (List.length_filter_le _ _) ?_
          rw [List.length_take]
          omega
        refine ⟨rfl, _, rfl, _, rfl, m, _, rfl, hg, rfl, _, rfl, ?_⟩
        by_cases c : n = 0
        · rw [decide_eq_true (show V.int n = V.int 0 by rw [c])]
          rw [if_neg (by simpa using c), List.append_nil] at et
          refine iteF ?_
          rw [et]
          exact ⟨s', xs, hD', hP'⟩
        · rw [decide_eq_false (show ¬ V.int n = V.int 0 from fun q => c (V.int.inj q))]
          rw [if_pos c] at et
          refine iteT ?_
          refine ⟨_, rfl, _, rfl, _, rfl, m, _, rfl, hg, by show 2 ≤ sizeLine; decide, fun T2 hT2 => ?_⟩
          have nTD : D2 ≠ T2 := ne_of_none hD' hT2
          have sT : Same H2 (upd H2 T2 (.tup [.str ws[i], .int n])) := Same.new hT2
          refine ⟨xs, by rw [upd_ne nTD]; exact hD', Nat.lt_of_le_of_lt (show xs.length ≤ 1000 by omega) (by decide), fun b o q => ?_, xs ++ [.ref T2], upd_same, ?_⟩
          · rw [upd_ne (ne_of_none q hD2)]
            exact sT _ _ (s' _ _ q)
          · rw [et]
            refine PrL.snoc (hP'.mono fun c a b e => ?_) (by rw [upd_ne nTD.symm]; exact upd_same)
            have cD : c ≠ D2 := by
              rintro rfl
              rw [hD'] at e
              cases e
            rw [upd_ne cD]
            exact sT _ _ e
      · rintro H' ⟨s', xs, hD', hP'⟩
        rw [List.length_map, List.take_length] at hP'
        refine k D2 H' xs _ (s3.free hD2) (s3.trans s') hD' hP' (told_of hm.nd ha hmm) (fun r mr => ?_) ?_
        · obtain ⟨z, hz, e⟩ := List.mem_map.mp mr
          rw [← e]
          exact hm.wd z ((hmm z).mp (List.mem_filter.mp hz).1)
        · unfold toldBy
          rw [List.length_map, ← hwl]
          exact List.length_filter_le _ _
theorem ok_lint {f : Addr} {fd : FuncData} (F : Fun K "_law_is_integer" "_law_is_integer" s_l_is_integer f fd) (g : Bi mg) : FnOk P w K mg base CX0 1 f fd ["_law_thing"] (spIsInteger K) := by
  refine F.ok sc_l_is_integer (fun vs H Q E h => ?_) (fun cdv A outer s H vs Q E hr h => ?_)
  · rcases h with ⟨_, rfl, _⟩ | ⟨_, rfl, _⟩ <;> rfl
  · refine ⟨_, (pss_one (ps_ret (pe_and (pe_callB call_isi (by rfl) g.isinstance (by decide +kernel) (pa_cons (pv 0) (pa_cons (pe_bltn (v := .ty "int") (by rfl) g.int (by decide +kernel) rfl) pa_nil))) (pe_one (pe_not (pe_callB call_isi (by rfl) g.isinstance (by decide +kernel) (pa_cons (pv 0) (pa_cons (pe_bltn (v := .ty "bool") (by rfl) g.bool (by decide +kernel) rfl) pa_nil)))))))), ?_⟩
    rcases h with ⟨n, rfl, q⟩ | ⟨x, rfl, ⟨ty, ht, hc⟩, q⟩
    · refine ⟨_, rfl, _, _, _, _, true, rfl, .ty "int", .base (.int n), kit_ty (by decide +kernel), _, rfl, iteT ?_⟩
      exact ⟨_, rfl, _, _, _, _, false, rfl, .ty "bool", .base (.int n), kit_ty (by decide +kernel), _, rfl, q⟩
    · rcases hc with e | e
      · subst e
        refine ⟨_, rfl, _, _, _, _, true, rfl, .ty "int", ht, kit_ty (by decide +kernel), _, rfl, iteT ?_⟩
        exact ⟨_, rfl, _, _, _, _, true, rfl, .ty "bool", ht, kit_ty (by decide +kernel), _, rfl, q⟩
      · exact ⟨_, rfl, _, _, _, _, false, rfl, .ty "int", ht, kit_ty e, _, rfl, iteF q⟩
theorem ok_equal {C f fPa fTo fLi : Addr} {fd fdPa fdTo fdLi : FuncData} {fI : Addr} (F : Fun K "_law_equal" "_law_equal" s_l_equal f fd) (g : Bi mg) (T : CT P w K mg base C fI) (MPa : MDef P w K mg base CX0 3 C "pairs" ["self"] (spPairsM C) fPa fdPa)
    (FTo : Def P w K mg base CX0 1 "_law_told" ["_law_model_here"] spTold fTo fdTo) (FLi : Def P w K mg base CX0 1 "_law_is_integer" ["_law_thing"] (spIsInteger K) fLi fdLi) :
    FnOk P w K mg base CX0 4 f fd ["_law_counts", "_law_model_here"] (spEqual C) := by
  obtain ⟨GTo, mTo, _, bTo⟩ := id FTo
  obtain ⟨GLi, mLi, _, bLi⟩ := id FLi
  refine F.ok sc_l_equal (fun vs H Q E h => ?_) (fun cdv A outer s H vs Q E hr h => ?_)
  · obtain ⟨_, _, _, _, _, rfl, _⟩ := h
    rfl
  · obtain ⟨p, d, m, t, u, rfl, hc, hl, hm, hlu, hv, k⟩ := h
    have hrPa : Room 3 _ := hr.mono (by decide)
    have hrTo : Room 1 _ := hr.mono (by decide)
    have hrLi : Room 1 _ := hr.mono (by decide)
    obtain ⟨⟨dx, hp⟩, hd, hh, hw⟩ := id hc
    refine ⟨_, (pss_cons (ps_set (i := 2) sc_l_equal.nd rfl (Or.inl rfl) (pe_meth0 (pv 0) T.cl MPa.me MPa.ok hrPa MPa.b .nil pass0))
      (pss_cons (ps_if (PW.pt (pw_or (pt_not (pt_val (pe_callB call_isi (by rfl) g.isinstance (by decide +kernel) (pa_cons (pv 2) (pa_cons (pe_bltn (v := .ty "list") (by rfl) g.list (by decide +kernel) rfl) pa_nil))))) (pw_or1 (pt_cmpR (op_neD hr.units) (pv 2) (pe_call GTo hrTo rfl mTo FTo.kp bTo .nil pass0 (pa_cons (pv 1) pa_nil)) (nomark _))))) (pss_one (ps_ret pe_bl)) pss_nil)
      (pss_cons (ps_for PassesOwn.never rfl (pi_list (pv 2)) (pg_name (i := 3) sc_l_equal.nd rfl (Or.inl rfl)) (pss_one (ps_if (PW.pt (pw_or (pt_not (pt_val (pe_callB call_isi (by rfl) g.isinstance (by decide +kernel) (pa_cons (pv 3) (pa_cons (pe_bltn (v := .ty "tuple") (by rfl) g.tuple (by decide +kernel) rfl) pa_nil))))) (pw_or1 (pt_not (pt_val (pe_call GLi hrLi rfl mLi FLi.kp bLi .nil pass0 (pa_cons (pe_ix ix_tup (pv 3) pe_int (fun _ _ => rfl)) pa_nil))))))) (pss_one (ps_ret pe_bl)) pss_nil)))
      (pss_one (ps_ret pe_bl))))), ?_⟩
    refine ⟨_, rfl, p, dx, _, rfl, hp, rfl, p, d, t, rfl, hc, hl, fun q H1 xs l hq s1 h1 hP ht hwl hle => ?_⟩
    refine ⟨_, rfl, _, _, _, _, true, rfl, .ty "list", .base (.lst h1), kit_ty (by decide +kernel), _, rfl, iteF ?_⟩
    refine ⟨_, rfl, _, rfl, m, u, rfl, hm.same s1, hlu, fun q2 H2 xs2 l2 hq2 s2 h2 hP2 ht2 hwl2 hle2 => ?_⟩
    obtain rfl : l = l2 := told_eq ht ht2 hv
    have hP' : PrL H2 xs l := hP.mono fun c a b e => s2 _ _ e
    refine ⟨pd l, pd l, .lst (SqL.of (s2 _ _ h1)) hP'.dp, .lst (SqL.of h2) hP2.dp, pd_shaped hwl, pd_shaped hwl, _, rfl, ?_⟩
    rw [pd_refl hwl]
    refine iteF ?_
    refine ⟨_, rfl, q, rfl, ⟨_, SqL.of (s2 _ _ h1)⟩, for_list (K := K) (a := q) (xs := xs) (fun i σ' H' => ∃ x3 : Option V, σ' = [some (.ref p), some (.ref m), some (.ref q), x3] ∧ Same H2 H') ⟨_, rfl, Same.refl _⟩ (fun i σ' H' _ ⟨_, _, h⟩ => SqL.of (h _ _ (s2 _ _ h1))) ?_ ?_⟩
    · rintro i y σ' H' hy ⟨x3, rfl, s'⟩
      have hi : i < l.length := by
        have := (List.getElem?_eq_some_iff.mp hy).1
        rw [hP.length] at this
        exact this
      obtain ⟨t2, et, ht3⟩ := hP'.at (List.getElem?_eq_getElem hi)
      rw [et] at hy
      obtain rfl := Option.some.inj hy
      have ht4 := s' _ _ ht3
      refine ⟨_, rfl, _, _, _, _, true, rfl, .ty "tuple", .base (.tup ht4), kit_ty (by decide +kernel), _, rfl, iteF ?_⟩
      refine ⟨_, rfl, t2, _, 1, _, rfl, rfl, SqT.of ht4, rfl, .inl ⟨_, rfl, _, rfl, iteF ?_⟩⟩
      exact ⟨_, rfl, s'⟩
    · rintro σ' H' ⟨x3, rfl, s'⟩
      exact k H' ((s1.trans s2).trans s')
end
end Cs

set_option Elab.async false
set_option linter.all false
set_option maxRecDepth 100000
set_option maxHeartbeats 4000000
/-! Counts: differences, smaller and greater integers, distances, multiples from the left, changes in place. -/
namespace Cs
open PySem L2
structure TDef (P : Program) (w : World) (K : PySem.W.Frag) (mg : Str → Option Value) (base : Heap) (CX : CXT) (k : Nat) (C : Addr) (nm : String) (ps : List Str) (sp : Sp) (f h : Addr) (fd : FuncData) : Prop where
  c : OpT K C nm f h
  i1 : PySem.W.findIn K (.type "int") (PySem.dunder nm) = some (some (.builtin "int.__mul__"))
  i2 : PySem.W.findIn K (.type "int") (dunderR nm) = some (some (.builtin "int.__rmul__"))
  ok : FnOk P w K mg base CX k f fd ps sp
  b : Binds K fd ps []
/-- a op= b: the object itself is changed; its dict is a new one -/
def spIn (C : Addr) (G : Int → Int → Int) : Sp := fun vs H Q _ => ∃ (p d q e : Addr) (t u : Tab), vs = [.ref p, .ref q] ∧ Cnt C H p d t ∧ Cnt C H q e u ∧ t.length ≤ 400 ∧ u.length ≤ 400 ∧
  ∀ (d' : Addr) (H' : Hp) (v : Tab), H d' = none → Cnt C H' p d' v → (∀ z, val v z = G (val t z) (val u z)) → v.length ≤ t.length + u.length → (∀ b o, H b = some o → b ≠ p → H' b = some o) → Q (.ref p) H'
def spImul (C : Addr) : Sp := fun vs H Q _ => ∃ (p d : Addr) (t : Tab) (n : Int), vs = [.ref p, .int n] ∧ Cnt C H p d t ∧ t.length ≤ 1000 ∧ (∀ z, n.natAbs.log2 + (val t z).natAbs.log2 < 1000000) ∧
  ∀ (d' : Addr) (H' : Hp) (v : Tab), H d' = none → Cnt C H' p d' v → (∀ z, val v z = n * val t z) → v.length ≤ t.length → (∀ b o, H b = some o → b ≠ p → H' b = some o) → Q (.ref p) H'
theorem putF_held (d e : Addr) : putF "held" (V.ref e) ([("held", .ref d)] : List (Str × V)) = ([("held", .ref e)] : List (Str × V)) := by
  show (if ("held" : Str) = "held" then ([("held", V.ref e)] : List (Str × V)) else _) = ([("held", V.ref e)] : List (Str × V))
  rw [if_pos rfl]
section
variable {P : Program} {w : World} {K : PySem.W.Frag} {mg : Str → Option Value} {base : Heap}
theorem ok_sub {C f fGe fJw : Addr} {fd fdGe fdJw : FuncData} {fI : Addr} (F : Fun K "__sub__" "Counts.__sub__" s_Counts_sub f fd) (g : Bj mg) (T : CT P w K mg base C fI) (ci : CI K C) (SGe : GDef P w K mg base CX0 2 C "__getitem__" ["self", "word"] (spGet C) fGe fdGe)
    (FJw : Def P w K mg base CX0 3 "joint_words" ["one", "other"] (spJoint C) fJw fdJw) : FnOk P w K mg base CX0 4 f fd ["self", "other"] (spBin C fun a b => a - b) := by
  obtain ⟨GJw, mJw, _, bJw⟩ := id FJw
  refine F.ok sc_Counts_sub (fun vs H Q E h => ?_) (fun cdv A outer s H vs Q E hr h => ?_)
  · obtain ⟨_, _, _, _, _, _, rfl, _⟩ := h
    rfl
  · obtain ⟨p, d, q, e, t, u, rfl, hc, hc2, hl, hl2, k⟩ := h
    have hrJw : Room 3 _ := hr.mono (by decide)
    have hrGe : Room 3 _ := hr.mono (by decide)
    have hrI : Room 2 _ := hr.mono (by decide)
    refine ⟨_, (pss_cons (ps_if (pt_not (pt_val (pe_callB call_isi (by rfl) g.isinstance (by decide +kernel) (pa_cons (pv 1) (pa_cons (pe_glob (v := .ref C) rfl T.mgC rfl) pa_nil))))) (pss_one (ps_never)) pss_nil)
      (pss_cons (ps_setLc (i := 2) (own := [("word", 3)]) (g := gName 3)  (by rfl) sc_Counts_sub.nd rfl rfl (sw_true rfl rfl rfl (by decide +kernel)) (pi_list (pe_call GJw hrJw rfl mJw FJw.kp bJw .nil pass0 (pa_cons (pv 0) (pa_cons (pv 1) pa_nil)))) (blkOk_by (own := [("word", 3)]) (N := ["self", "other", "pairs", "word"]) (sc := defScope s_Counts_sub) (by decide +kernel)) (fun _ _ _ _ _ => (pg_name (i := 3) sc_Counts_sub.nd rfl (Or.inl rfl))) (fun _ _ _ _ _ => pts_nil) (fun _ _ _ _ _ => (pe_tup (pa_cons (pv 3) (pa_cons (pe_op op_sub (pe_ixO SGe.c SGe.fi SGe.ok hrGe SGe.b pass0 (pv 0) (pv 3)) (pe_ixO SGe.c SGe.fi SGe.ok hrGe SGe.b pass0 (pv 1) (pv 3))) pa_nil)))))
      (pss_one (ps_ret (pe_mkS T.mke T.ini hrI rfl T.mgC pass0 (pv 2)))))), ?_⟩
    obtain ⟨⟨dx, hp⟩, _⟩ := id hc
    obtain ⟨⟨dx2, hq⟩, _⟩ := id hc2
    refine ⟨_, rfl, _, _, _, _, true, rfl, .own C, ci.ty hq, kit_self, _, rfl, iteF ?_⟩
    refine ⟨_, rfl, _, rfl, p, d, q, e, t, u, rfl, hc, hc2, hl, hl2, fun l H1 ws hl' s1 h1 ha hm hle => ⟨l, rfl, ⟨_, SqL.of h1⟩, fun D hD => ?_⟩⟩
    have hww : ∀ z ∈ ws, Word z := fun z hz => ((hm z).mp hz).elim (hc.wd z) (hc2.wd z)
    refine lc_pairs (G := fun z => val t z - val u z) h1 hD (by omega) (fun _ => rfl) (fun z hz H' s' Qe qk => ?_) fun H' xs s' hD' hP' => ?_
    · have hcA := (hc.same s1).same s'
      obtain ⟨⟨dxA, hpA⟩, _⟩ := id hcA
      refine ⟨_, rfl, _, rfl, _, rfl, p, dxA, _, rfl, hpA, p, d, t, z, rfl, hww z hz, hcA, fun H2 s2 => ?_⟩
      have hcB := ((hc2.same s1).same s').same s2
      obtain ⟨⟨dxB, hqB⟩, _⟩ := id hcB
      refine ⟨_, rfl, _, rfl, q, dxB, _, rfl, hqB, q, e, u, z, rfl, hww z hz, hcB, fun H3 s3 => ⟨_, _, rfl, rfl, ?_⟩⟩
      
      exact ⟨by show 2 ≤ sizeLine; decide, fun T2 hT2 => qk T2 _ ((s2.trans s3).free hT2) ((s2.trans s3).trans (Same.new hT2)) upd_same⟩
    · refine ⟨_, rfl, D, xs, rfl, .inr (SqL.of hD'), mk_pairs hP' (wd_map hww _) (by rw [List.length_map]; omega) (by rw [List.length_map]; exact hle) (fun z => ?_) (k.later (s1.trans s'))⟩
      rw [sumOf_map ha]
      by_cases c : z ∈ ws
      · rw [if_pos c]
      · have c1 : ¬ (z ∈ keys t ∨ z ∈ keys u) := mt (hm z).mpr c
        rw [if_neg c, val_out (fun m => c1 (.inl m)), val_out (fun m => c1 (.inr m))]
        rfl
theorem ok_and {C f fGe fJw : Addr} {fd fdGe fdJw : FuncData} {fI : Addr} (F : Fun K "__and__" "Counts.__and__" s_Counts_and f fd) (g : Bj mg) (T : CT P w K mg base C fI) (ci : CI K C) (SGe : GDef P w K mg base CX0 2 C "__getitem__" ["self", "word"] (spGet C) fGe fdGe)
    (FJw : Def P w K mg base CX0 3 "joint_words" ["one", "other"] (spJoint C) fJw fdJw) : FnOk P w K mg base CX0 4 f fd ["self", "other"] (spBin C fun a b => if b < a then b else a) := by
  obtain ⟨GJw, mJw, _, bJw⟩ := id FJw
  refine F.ok sc_Counts_and (fun vs H Q E h => ?_) (fun cdv A outer s H vs Q E hr h => ?_)
  · obtain ⟨_, _, _, _, _, _, rfl, _⟩ := h
    rfl
  · obtain ⟨p, d, q, e, t, u, rfl, hc, hc2, hl, hl2, k⟩ := h
    have hrJw : Room 3 _ := hr.mono (by decide)
    have hrGe : Room 3 _ := hr.mono (by decide)
    have hrI : Room 2 _ := hr.mono (by decide)
    refine ⟨_, (pss_cons (ps_if (pt_not (pt_val (pe_callB call_isi (by rfl) g.isinstance (by decide +kernel) (pa_cons (pv 1) (pa_cons (pe_glob (v := .ref C) rfl T.mgC rfl) pa_nil))))) (pss_one (ps_never)) pss_nil)
      (pss_cons (ps_setLc (i := 2) (own := [("word", 3)]) (g := gName 3)  (by rfl) sc_Counts_and.nd rfl rfl (sw_true rfl rfl rfl (by decide +kernel)) (pi_list (pe_call GJw hrJw rfl mJw FJw.kp bJw .nil pass0 (pa_cons (pv 0) (pa_cons (pv 1) pa_nil)))) (blkOk_by (own := [("word", 3)]) (N := ["self", "other", "pairs", "word"]) (sc := defScope s_Counts_and) (by decide +kernel)) (fun _ _ _ _ _ => (pg_name (i := 3) sc_Counts_and.nd rfl (Or.inl rfl))) (fun _ _ _ _ _ => pts_nil) (fun _ _ _ _ _ => (pe_tup (pa_cons (pv 3) (pa_cons (pe_callB (call_min2 rfl) (by rfl) g.min (by decide +kernel) (pa_cons (pe_callTy call_int1 (by rfl) g.int (by decide +kernel) (pa_cons (pe_ixO SGe.c SGe.fi SGe.ok hrGe SGe.b pass0 (pv 0) (pv 3)) pa_nil)) (pa_cons (pe_callTy call_int1 (by rfl) g.int (by decide +kernel) (pa_cons (pe_ixO SGe.c SGe.fi SGe.ok hrGe SGe.b pass0 (pv 1) (pv 3)) pa_nil)) pa_nil))) pa_nil)))))
      (pss_one (ps_ret (pe_mkS T.mke T.ini hrI rfl T.mgC pass0 (pv 2)))))), ?_⟩
    obtain ⟨⟨dx, hp⟩, _⟩ := id hc
    obtain ⟨⟨dx2, hq⟩, _⟩ := id hc2
    refine ⟨_, rfl, _, _, _, _, true, rfl, .own C, ci.ty hq, kit_self, _, rfl, iteF ?_⟩
    refine ⟨_, rfl, _, rfl, p, d, q, e, t, u, rfl, hc, hc2, hl, hl2, fun l H1 ws hl' s1 h1 ha hm hle => ⟨l, rfl, ⟨_, SqL.of h1⟩, fun D hD => ?_⟩⟩
    have hww : ∀ z ∈ ws, Word z := fun z hz => ((hm z).mp hz).elim (hc.wd z) (hc2.wd z)
    refine lc_pairs (G := fun z => if val u z < val t z then val u z else val t z) h1 hD (by omega) (fun _ => rfl) (fun z hz H' s' Qe qk => ?_) fun H' xs s' hD' hP' => ?_
    · have hcA := (hc.same s1).same s'
      obtain ⟨⟨dxA, hpA⟩, _⟩ := id hcA
      refine ⟨_, rfl, _, rfl, _, rfl, p, dxA, _, rfl, hpA, p, d, t, z, rfl, hww z hz, hcA, fun H2 s2 => ?_⟩
      have hcB := ((hc2.same s1).same s').same s2
      obtain ⟨⟨dxB, hqB⟩, _⟩ := id hcB
      refine Or.inl ⟨_, rfl, _, rfl, _, rfl, q, dxB, _, rfl, hqB, q, e, u, z, rfl, hww z hz, hcB, fun H3 s3 => Or.inl ⟨_, rfl, _, _, rfl, ?_⟩⟩
      
      exact ⟨by show 2 ≤ sizeLine; decide, fun T2 hT2 => qk T2 _ ((s2.trans s3).free hT2) ((s2.trans s3).trans (Same.new hT2)) upd_same⟩
    · refine ⟨_, rfl, D, xs, rfl, .inr (SqL.of hD'), mk_pairs hP' (wd_map hww _) (by rw [List.length_map]; omega) (by rw [List.length_map]; exact hle) (fun z => ?_) (k.later (s1.trans s'))⟩
      rw [sumOf_map ha]
      by_cases c : z ∈ ws
      · rw [if_pos c]
      · have c1 : ¬ (z ∈ keys t ∨ z ∈ keys u) := mt (hm z).mpr c
        rw [if_neg c, val_out (fun m => c1 (.inl m)), val_out (fun m => c1 (.inr m))]
        rfl
theorem ok_or {C f fGe fJw : Addr} {fd fdGe fdJw : FuncData} {fI : Addr} (F : Fun K "__or__" "Counts.__or__" s_Counts_or f fd) (g : Bj mg) (T : CT P w K mg base C fI) (ci : CI K C) (SGe : GDef P w K mg base CX0 2 C "__getitem__" ["self", "word"] (spGet C) fGe fdGe)
    (FJw : Def P w K mg base CX0 3 "joint_words" ["one", "other"] (spJoint C) fJw fdJw) : FnOk P w K mg base CX0 4 f fd ["self", "other"] (spBin C fun a b => if b > a then b else a) := by
  obtain ⟨GJw, mJw, _, bJw⟩ := id FJw
  refine F.ok sc_Counts_or (fun vs H Q E h => ?_) (fun cdv A outer s H vs Q E hr h => ?_)
  · obtain ⟨_, _, _, _, _, _, rfl, _⟩ := h
    rfl
  · obtain ⟨p, d, q, e, t, u, rfl, hc, hc2, hl, hl2, k⟩ := h
    have hrJw : Room 3 _ := hr.mono (by decide)
    have hrGe : Room 3 _ := hr.mono (by decide)
    have hrI : Room 2 _ := hr.mono (by decide)
    refine ⟨_, (pss_cons (ps_if (pt_not (pt_val (pe_callB call_isi (by rfl) g.isinstance (by decide +kernel) (pa_cons (pv 1) (pa_cons (pe_glob (v := .ref C) rfl T.mgC rfl) pa_nil))))) (pss_one (ps_never)) pss_nil)
      (pss_cons (ps_setLc (i := 2) (own := [("word", 3)]) (g := gName 3)  (by rfl) sc_Counts_or.nd rfl rfl (sw_true rfl rfl rfl (by decide +kernel)) (pi_list (pe_call GJw hrJw rfl mJw FJw.kp bJw .nil pass0 (pa_cons (pv 0) (pa_cons (pv 1) pa_nil)))) (blkOk_by (own := [("word", 3)]) (N := ["self", "other", "pairs", "word"]) (sc := defScope s_Counts_or) (by decide +kernel)) (fun _ _ _ _ _ => (pg_name (i := 3) sc_Counts_or.nd rfl (Or.inl rfl))) (fun _ _ _ _ _ => pts_nil) (fun _ _ _ _ _ => (pe_tup (pa_cons (pv 3) (pa_cons (pe_callB (call_max2 rfl) (by rfl) g.max (by decide +kernel) (pa_cons (pe_callTy call_int1 (by rfl) g.int (by decide +kernel) (pa_cons (pe_ixO SGe.c SGe.fi SGe.ok hrGe SGe.b pass0 (pv 0) (pv 3)) pa_nil)) (pa_cons (pe_callTy call_int1 (by rfl) g.int (by decide +kernel) (pa_cons (pe_ixO SGe.c SGe.fi SGe.ok hrGe SGe.b pass0 (pv 1) (pv 3)) pa_nil)) pa_nil))) pa_nil)))))
      (pss_one (ps_ret (pe_mkS T.mke T.ini hrI rfl T.mgC pass0 (pv 2)))))), ?_⟩
    obtain ⟨⟨dx, hp⟩, _⟩ := id hc
    obtain ⟨⟨dx2, hq⟩, _⟩ := id hc2
    refine ⟨_, rfl, _, _, _, _, true, rfl, .own C, ci.ty hq, kit_self, _, rfl, iteF ?_⟩
    refine ⟨_, rfl, _, rfl, p, d, q, e, t, u, rfl, hc, hc2, hl, hl2, fun l H1 ws hl' s1 h1 ha hm hle => ⟨l, rfl, ⟨_, SqL.of h1⟩, fun D hD => ?_⟩⟩
    have hww : ∀ z ∈ ws, Word z := fun z hz => ((hm z).mp hz).elim (hc.wd z) (hc2.wd z)
    refine lc_pairs (G := fun z => if val u z > val t z then val u z else val t z) h1 hD (by omega) (fun _ => rfl) (fun z hz H' s' Qe qk => ?_) fun H' xs s' hD' hP' => ?_
    · have hcA := (hc.same s1).same s'
      obtain ⟨⟨dxA, hpA⟩, _⟩ := id hcA
      refine ⟨_, rfl, _, rfl, _, rfl, p, dxA, _, rfl, hpA, p, d, t, z, rfl, hww z hz, hcA, fun H2 s2 => ?_⟩
      have hcB := ((hc2.same s1).same s').same s2
      obtain ⟨⟨dxB, hqB⟩, _⟩ := id hcB
      refine Or.inl ⟨_, rfl, _, rfl, _, rfl, q, dxB, _, rfl, hqB, q, e, u, z, rfl, hww z hz, hcB, fun H3 s3 => Or.inl ⟨_, rfl, _, _, rfl, ?_⟩⟩
      
      exact ⟨by show 2 ≤ sizeLine; decide, fun T2 hT2 => qk T2 _ ((s2.trans s3).free hT2) ((s2.trans s3).trans (Same.new hT2)) upd_same⟩
    · refine ⟨_, rfl, D, xs, rfl, .inr (SqL.of hD'), mk_pairs hP' (wd_map hww _) (by rw [List.length_map]; omega) (by rw [List.length_map]; exact hle) (fun z => ?_) (k.later (s1.trans s'))⟩
      rw [sumOf_map ha]
      by_cases c : z ∈ ws
      · rw [if_pos c]
      · have c1 : ¬ (z ∈ keys t ∨ z ∈ keys u) := mt (hm z).mpr c
        rw [if_neg c, val_out (fun m => c1 (.inl m)), val_out (fun m => c1 (.inr m))]
        rfl
theorem ok_xor {C f fSu fAb : Addr} {fd fdSu fdAb : FuncData} {fI : Addr} (F : Fun K "__xor__" "Counts.__xor__" s_Counts_xor f fd) (g : Bj mg) (T : CT P w K mg base C fI) (ci : CI K C) (OSu : ODef P w K mg base CX0 4 C (PySem.dunder "sub") ["self", "other"] (spBin C fun a b => a - b) fSu fdSu)
    (SAb : GDef P w K mg base CX0 3 C "__abs__" ["self"] (spUn C fun a => if a < 0 then -a else a) fAb fdAb) : FnOk P w K mg base CX0 5 f fd ["self", "other"] (spBin C fun a b => if a - b < 0 then -(a - b) else a - b) := by
  refine F.ok sc_Counts_xor (fun vs H Q E h => ?_) (fun cdv A outer s H vs Q E hr h => ?_)
  · obtain ⟨_, _, _, _, _, _, rfl, _⟩ := h
    rfl
  · obtain ⟨p, d, q, e, t, u, rfl, hc, hc2, hl, hl2, k⟩ := h
    have hrSu : Room 4 _ := hr.mono (by decide)
    have hrAb : Room 4 _ := hr.mono (by decide)
    refine ⟨_, (pss_cons (ps_if (pt_not (pt_val (pe_callB call_isi (by rfl) g.isinstance (by decide +kernel) (pa_cons (pv 1) (pa_cons (pe_glob (v := .ref C) rfl T.mgC rfl) pa_nil))))) (pss_one (ps_never)) pss_nil)
      (pss_one (ps_ret (pe_callB (call_absO SAb.c SAb.ok hrAb SAb.b pass0) (by rfl) g.abs (by decide +kernel) (pa_cons (pe_op (op_own OSu.c OSu.ok hrSu OSu.b pass0) (pv 0) (pv 1)) pa_nil))))), ?_⟩
    obtain ⟨⟨dx, hp⟩, _⟩ := id hc
    obtain ⟨⟨dx2, hq⟩, _⟩ := id hc2
    refine ⟨_, rfl, _, _, _, _, true, rfl, .own C, ci.ty hq, kit_self, _, rfl, iteF ?_⟩
    refine ⟨_, rfl, _, rfl, p, q, dx, dx2, _, _, rfl, rfl, hp, hq, p, d, q, e, t, u, rfl, hc, hc2, hl, hl2, fun r1 e1 H1 t1 hr1 he1 s1 hc1 hv1 hl1 => ?_⟩
    obtain ⟨⟨dx3, hr3⟩, _⟩ := id hc1
    refine ⟨r1, dx3, _, rfl, hr3, r1, e1, t1, rfl, hc1, by omega, fun r2 e2 H2 t2 hr2 he2 s2 hc2' hv2 hl2' => ?_⟩
    refine k r2 e2 H2 t2 (s1.free hr2) (s1.free he2) (s1.trans s2) hc2' (fun z => ?_) (by omega)
    rw [hv2]
    dsimp only
    rw [hv1]
theorem ok_rmul {C f fMu fRm : Addr} {fd fdMu : FuncData} {fI : Addr} (F : Fun K "__rmul__" "Counts.__rmul__" s_Counts_rmul f fd) (g : Bj mg) (T : CT P w K mg base C fI) (OMu : TDef P w K mg base CX0 3 C "mul" ["self", "times"] (spMul C) fMu fRm fdMu) : FnOk P w K mg base CX0 4 f fd ["self", "times"] (spMul C) := by
  refine F.ok sc_Counts_rmul (fun vs H Q E h => ?_) (fun cdv A outer s H vs Q E hr h => ?_)
  · obtain ⟨_, _, _, _, rfl, _⟩ := h
    rfl
  · obtain ⟨p, d, t, n, rfl, hc, hl, hb, k⟩ := h
    have hrMu : Room 3 _ := hr.mono (by decide)
    refine ⟨_, (pss_one (ps_ret (pe_op (op_ownI OMu.c OMu.i1 OMu.i2 OMu.ok hrMu OMu.b pass0) (pv 0) (pv 1)))), ?_⟩
    obtain ⟨⟨dx, hp⟩, _⟩ := id hc
    exact ⟨_, rfl, _, rfl, p, dx, _, n, rfl, rfl, hp, p, d, t, n, rfl, hc, hl, hb, k⟩
theorem ok_iadd {C f fOp : Addr} {fd fdOp : FuncData} {fI : Addr} (F : Fun K "__iadd__" "Counts.__iadd__" s_Counts_iadd f fd) (g : Bj mg) (T : CT P w K mg base C fI) (OAd : ODef P w K mg base CX0 4 C (PySem.dunder "add") ["self", "other"] (spBin C fun a b => a + b) fOp fdOp) : FnOk P w K mg base CX0 5 f fd ["self", "other"] (spIn C fun a b => a + b) := by
  refine F.ok sc_Counts_iadd (fun vs H Q E h => ?_) (fun cdv A outer s H vs Q E hr h => ?_)
  · obtain ⟨_, _, _, _, _, _, rfl, _⟩ := h
    rfl
  · obtain ⟨p, d, q, e, t, u, rfl, hc, hc2, hl, hl2, k⟩ := h
    have hrAd : Room 4 _ := hr.mono (by decide)
    refine ⟨_, (pss_cons (ps_set (i := 2) sc_Counts_iadd.nd rfl (Or.inl rfl) (pe_op (op_own OAd.c OAd.ok hrAd OAd.b pass0) (pv 0) (pv 1)))
      (pss_cons (ps_fld (pv 0) (pe_fld (pv 2) rfl) rfl)
      (pss_one (ps_ret (pv 0))))), ?_⟩
    obtain ⟨⟨dx, hp⟩, _⟩ := id hc
    obtain ⟨⟨dx2, hq⟩, _⟩ := id hc2
    refine ⟨_, rfl, _, rfl, p, q, dx, dx2, _, _, rfl, rfl, hp, hq, p, d, q, e, t, u, rfl, hc, hc2, hl, hl2, fun r1 e1 H1 t1 hr1 he1 s1 hc1 hv1 hl1 => ?_⟩
    obtain ⟨⟨dx3, hr3⟩, hd3, hh3, hw3⟩ := id hc1
    have npr : p ≠ r1 := ne_of_none hp hr1
    refine ⟨_, rfl, r1, C, dx3, _, _, rfl, hr3, T.cl, T.nH, flds_held e1, _, rfl, p, C, dx, _, rfl, s1 _ _ hp, T.cl, T.nH, (by show 1 < 1000; decide), ?_⟩
    rw [putF_held]
    refine ⟨_, rfl, k e1 _ t1 he1 ⟨⟨dx, upd_same⟩, by rw [upd_ne (ne_of hd3 (s1 _ _ hp) (by intro z; cases z))]; exact hd3, hh3, hw3⟩ hv1 hl1 fun b o eb nb => ?_⟩
    rw [upd_ne nb]
    exact s1 _ _ eb
theorem ok_isub {C f fOp : Addr} {fd fdOp : FuncData} {fI : Addr} (F : Fun K "__isub__" "Counts.__isub__" s_Counts_isub f fd) (g : Bj mg) (T : CT P w K mg base C fI) (OSu : ODef P w K mg base CX0 4 C (PySem.dunder "sub") ["self", "other"] (spBin C fun a b => a - b) fOp fdOp) : FnOk P w K mg base CX0 5 f fd ["self", "other"] (spIn C fun a b => a - b) := by
  refine F.ok sc_Counts_isub (fun vs H Q E h => ?_) (fun cdv A outer s H vs Q E hr h => ?_)
  · obtain ⟨_, _, _, _, _, _, rfl, _⟩ := h
    rfl
  · obtain ⟨p, d, q, e, t, u, rfl, hc, hc2, hl, hl2, k⟩ := h
    have hrSu : Room 4 _ := hr.mono (by decide)
    refine ⟨_, (pss_cons (ps_set (i := 2) sc_Counts_isub.nd rfl (Or.inl rfl) (pe_op (op_own OSu.c OSu.ok hrSu OSu.b pass0) (pv 0) (pv 1)))
      (pss_cons (ps_fld (pv 0) (pe_fld (pv 2) rfl) rfl)
      (pss_one (ps_ret (pv 0))))), ?_⟩
    obtain ⟨⟨dx, hp⟩, _⟩ := id hc
    obtain ⟨⟨dx2, hq⟩, _⟩ := id hc2
    refine ⟨_, rfl, _, rfl, p, q, dx, dx2, _, _, rfl, rfl, hp, hq, p, d, q, e, t, u, rfl, hc, hc2, hl, hl2, fun r1 e1 H1 t1 hr1 he1 s1 hc1 hv1 hl1 => ?_⟩
    obtain ⟨⟨dx3, hr3⟩, hd3, hh3, hw3⟩ := id hc1
    have npr : p ≠ r1 := ne_of_none hp hr1
    refine ⟨_, rfl, r1, C, dx3, _, _, rfl, hr3, T.cl, T.nH, flds_held e1, _, rfl, p, C, dx, _, rfl, s1 _ _ hp, T.cl, T.nH, (by show 1 < 1000; decide), ?_⟩
    rw [putF_held]
    refine ⟨_, rfl, k e1 _ t1 he1 ⟨⟨dx, upd_same⟩, by rw [upd_ne (ne_of hd3 (s1 _ _ hp) (by intro z; cases z))]; exact hd3, hh3, hw3⟩ hv1 hl1 fun b o eb nb => ?_⟩
    rw [upd_ne nb]
    exact s1 _ _ eb
theorem ok_iand {C f fOp : Addr} {fd fdOp : FuncData} {fI : Addr} (F : Fun K "__iand__" "Counts.__iand__" s_Counts_iand f fd) (g : Bj mg) (T : CT P w K mg base C fI) (OAn : ODef P w K mg base CX0 4 C (PySem.dunder "and") ["self", "other"] (spBin C fun a b => if b < a then b else a) fOp fdOp) : FnOk P w K mg base CX0 5 f fd ["self", "other"] (spIn C fun a b => if b < a then b else a) := by
  refine F.ok sc_Counts_iand (fun vs H Q E h => ?_) (fun cdv A outer s H vs Q E hr h => ?_)
  · obtain ⟨_, _, _, _, _, _, rfl, _⟩ := h
    rfl
  · obtain ⟨p, d, q, e, t, u, rfl, hc, hc2, hl, hl2, k⟩ := h
    have hrAn : Room 4 _ := hr.mono (by decide)
    refine ⟨_, (pss_cons (ps_set (i := 2) sc_Counts_iand.nd rfl (Or.inl rfl) (pe_op (op_own OAn.c OAn.ok hrAn OAn.b pass0) (pv 0) (pv 1)))
      (pss_cons (ps_fld (pv 0) (pe_fld (pv 2) rfl) rfl)
      (pss_one (ps_ret (pv 0))))), ?_⟩
    obtain ⟨⟨dx, hp⟩, _⟩ := id hc
    obtain ⟨⟨dx2, hq⟩, _⟩ := id hc2
    refine ⟨_, rfl, _, rfl, p, q, dx, dx2, _, _, rfl, rfl, hp, hq, p, d, q, e, t, u, rfl, hc, hc2, hl, hl2, fun r1 e1 H1 t1 hr1 he1 s1 hc1 hv1 hl1 => ?_⟩
    obtain ⟨⟨dx3, hr3⟩, hd3, hh3, hw3⟩ := id hc1
    have npr : p ≠ r1 := ne_of_none hp hr1
    refine ⟨_, rfl, r1, C, dx3, _, _, rfl, hr3, T.cl, T.nH, flds_held e1, _, rfl, p, C, dx, _, rfl, s1 _ _ hp, T.cl, T.nH, (by show 1 < 1000; decide), ?_⟩
    rw [putF_held]
    refine ⟨_, rfl, k e1 _ t1 he1 ⟨⟨dx, upd_same⟩, by rw [upd_ne (ne_of hd3 (s1 _ _ hp) (by intro z; cases z))]; exact hd3, hh3, hw3⟩ hv1 hl1 fun b o eb nb => ?_⟩
    rw [upd_ne nb]
    exact s1 _ _ eb
theorem ok_ior {C f fOp : Addr} {fd fdOp : FuncData} {fI : Addr} (F : Fun K "__ior__" "Counts.__ior__" s_Counts_ior f fd) (g : Bj mg) (T : CT P w K mg base C fI) (OOr : ODef P w K mg base CX0 4 C (PySem.dunder "or") ["self", "other"] (spBin C fun a b => if b > a then b else a) fOp fdOp) : FnOk P w K mg base CX0 5 f fd ["self", "other"] (spIn C fun a b => if b > a then b else a) := by
  refine F.ok sc_Counts_ior (fun vs H Q E h => ?_) (fun cdv A outer s H vs Q E hr h => ?_)
  · obtain ⟨_, _, _, _, _, _, rfl, _⟩ := h
    rfl
  · obtain ⟨p, d, q, e, t, u, rfl, hc, hc2, hl, hl2, k⟩ := h
    have hrOr : Room 4 _ := hr.mono (by decide)
    refine ⟨_, (pss_cons (ps_set (i := 2) sc_Counts_ior.nd rfl (Or.inl rfl) (pe_op (op_own OOr.c OOr.ok hrOr OOr.b pass0) (pv 0) (pv 1)))
      (pss_cons (ps_fld (pv 0) (pe_fld (pv 2) rfl) rfl)
      (pss_one (ps_ret (pv 0))))), ?_⟩
    obtain ⟨⟨dx, hp⟩, _⟩ := id hc
    obtain ⟨⟨dx2, hq⟩, _⟩ := id hc2
    refine ⟨_, rfl, _, rfl, p, q, dx, dx2, _, _, rfl, rfl, hp, hq, p, d, q, e, t, u, rfl, hc, hc2, hl, hl2, fun r1 e1 H1 t1 hr1 he1 s1 hc1 hv1 hl1 => ?_⟩
    obtain ⟨⟨dx3, hr3⟩, hd3, hh3, hw3⟩ := id hc1
    have npr : p ≠ r1 := ne_of_none hp hr1
    refine ⟨_, rfl, r1, C, dx3, _, _, rfl, hr3, T.cl, T.nH, flds_held e1, _, rfl, p, C, dx, _, rfl, s1 _ _ hp, T.cl, T.nH, (by show 1 < 1000; decide), ?_⟩
    rw [putF_held]
    refine ⟨_, rfl, k e1 _ t1 he1 ⟨⟨dx, upd_same⟩, by rw [upd_ne (ne_of hd3 (s1 _ _ hp) (by intro z; cases z))]; exact hd3, hh3, hw3⟩ hv1 hl1 fun b o eb nb => ?_⟩
    rw [upd_ne nb]
    exact s1 _ _ eb
theorem ok_imul {C f fMu fRm : Addr} {fd fdMu : FuncData} {fI : Addr} (F : Fun K "__imul__" "Counts.__imul__" s_Counts_imul f fd) (g : Bj mg) (T : CT P w K mg base C fI) (OMu : TDef P w K mg base CX0 3 C "mul" ["self", "times"] (spMul C) fMu fRm fdMu) : FnOk P w K mg base CX0 4 f fd ["self", "times"] (spImul C) := by
  refine F.ok sc_Counts_imul (fun vs H Q E h => ?_) (fun cdv A outer s H vs Q E hr h => ?_)
  · obtain ⟨_, _, _, _, rfl, _⟩ := h
    rfl
  · obtain ⟨p, d, t, n, rfl, hc, hl, hb, k⟩ := h
    have hrMu : Room 3 _ := hr.mono (by decide)
    refine ⟨_, (pss_cons (ps_set (i := 2) sc_Counts_imul.nd rfl (Or.inl rfl) (pe_op (op_ownI OMu.c OMu.i1 OMu.i2 OMu.ok hrMu OMu.b pass0) (pv 0) (pv 1)))
      (pss_cons (ps_fld (pv 0) (pe_fld (pv 2) rfl) rfl)
      (pss_one (ps_ret (pv 0))))), ?_⟩
    obtain ⟨⟨dx, hp⟩, _⟩ := id hc
    refine ⟨_, rfl, _, rfl, p, dx, _, n, rfl, rfl, hp, p, d, t, n, rfl, hc, hl, hb, fun r1 e1 H1 t1 hr1 he1 s1 hc1 hv1 hl1 => ?_⟩
    obtain ⟨⟨dx3, hr3⟩, hd3, hh3, hw3⟩ := id hc1
    refine ⟨_, rfl, r1, C, dx3, _, _, rfl, hr3, T.cl, T.nH, flds_held e1, _, rfl, p, C, dx, _, rfl, s1 _ _ hp, T.cl, T.nH, (by show 1 < 1000; decide), ?_⟩
    rw [putF_held]
    refine ⟨_, rfl, k e1 _ t1 he1 ⟨⟨dx, upd_same⟩, by rw [upd_ne (ne_of hd3 (s1 _ _ hp) (by intro z; cases z))]; exact hd3, hh3, hw3⟩ hv1 hl1 fun b o eb nb => ?_⟩
    rw [upd_ne nb]
    exact s1 _ _ eb
end
end Cs

set_option Elab.async false
set_option linter.all false
set_option maxRecDepth 100000
set_option maxHeartbeats 4000000
/-! Methods, properties and the like as their callers have them; more plain laws. -/
namespace Cs
open PySem L2
/-- an own special method, a property, a classmethod, a def with a star, as callers have them -/
structure SDef (P : Program) (w : World) (K : PySem.W.Frag) (mg : Str → Option Value) (base : Heap) (CX : CXT) (k : Nat) (C : Addr) (m : Str) (ps : List Str) (sp : Sp) (f : Addr) (fd : FuncData) : Prop where
  c : Spc K C m f
  ns : PySem.W.noSeq K C = true
  ok : FnOk P w K mg base CX k f fd ps sp
  b : Binds K fd ps []
structure PDef (P : Program) (w : World) (K : PySem.W.Frag) (mg : Str → Option Value) (base : Heap) (CX : CXT) (k : Nat) (C : Addr) (m : Str) (sp : Sp) (q f : Addr) (fd : FuncData) : Prop where
  p : PropOf K C m q f
  ok : FnOk P w K mg base CX k f fd ["self"] sp
  b : Binds K fd ["self"] []
structure KDef (P : Program) (w : World) (K : PySem.W.Frag) (mg : Str → Option Value) (base : Heap) (CX : CXT) (k : Nat) (C : Addr) (mc : Value) (m : Str) (sp : Sp) (q f : Addr) : Prop where
  r : ClX.CRead K C mc
  c : ClX.CMet K C mc m q f
  ok : FnR P w K mg base CX k f sp
structure RDef (P : Program) (w : World) (K : PySem.W.Frag) (mg : Str → Option Value) (base : Heap) (CX : CXT) (k : Nat) (C : Addr) (m : Str) (sp : Sp) (f : Addr) : Prop where
  me : Meth K C m f
  ok : FnR P w K mg base CX k f sp
theorem nodup_of_map {α β : Type} {f : α → β} {l : List α} (h : (l.map f).Nodup) : l.Nodup := by
  unfold List.Nodup at h ⊢
  rw [List.pairwise_map] at h
  exact h.imp fun n e => n (by rw [e])
theorem told_perm {t l : Tab} (h : Held t) (k : Told (val t) l) : l.Perm t := by
  have n1 : l.Nodup := by
    have := k.asc.nodup
    unfold keys at this
    exact nodup_of_map this
  have n2 : t.Nodup := by
    have := h.nd
    unfold keys at this
    exact nodup_of_map this
  rw [List.perm_ext_iff_of_nodup n1 n2]
  rintro ⟨z, n⟩
  rw [k.mem]
  constructor
  · rintro ⟨e, q⟩
    have hz : z ∈ keys t := (h.keys_iff z).mpr (e ▸ q)
    obtain ⟨n', a, b⟩ := look_some hz
    have : n = n' := by rw [e]; unfold val; rw [a]; rfl
    rw [this]
    exact b
  · intro m
    refine ⟨?_, h.nz _ m⟩
    unfold val
    rw [look_mem h.nd m]
    rfl
theorem sum_perm {l m : List Int} (h : l.Perm m) : l.sum = m.sum := by
  induction h with
  | nil => rfl
  | cons x _ ih => rw [List.sum_cons, List.sum_cons, ih]
  | swap x y l => rw [List.sum_cons, List.sum_cons, List.sum_cons, List.sum_cons]; omega
  | trans _ _ a b => exact a.trans b
theorem total_told {t l : Tab} (h : Held t) (k : Told (val t) l) : (t.map (·.2)).sum = (l.map (·.2)).sum := (sum_perm ((told_perm h k).map _)).symm
theorem Told.congr {f g : Str → Int} {l : Tab} (h : Told f l) (e : ∀ z, f z = g z) : Told g l := by
  obtain rfl : f = g := funext e
  exact h
theorem cut_last (xs : List V) (x : V) : cutV (xs ++ [x]) none (some (-1)) = xs := by
  unfold cutV
  show ((xs ++ [x]).drop 0).take ((-1 + ((xs ++ [x]).length : Int)).toNat - 0) = xs
  rw [List.length_append, List.drop_zero]
  have : (-1 + ((xs.length + [x].length : Nat) : Int)).toNat - 0 = xs.length := by
    simp only [List.length_singleton]
    omega
  rw [this]
  simp
def pds (zs : List Str) : PyData := .list (zs.map .str)
theorem pds_can : ∀ {zs : List Str}, (∀ z ∈ zs, Word z) → PyData.canLayAll0 (zs.map .str) = true
  | [], _ => rfl
  | z :: zs, h => by
    rw [List.map_cons, PyData.canLayAll0, pds_can fun y m => h y (List.mem_cons_of_mem _ m), PyData.canLay0, word_ok (h z List.mem_cons_self)]
    rfl
theorem pds_depth : ∀ zs : List Str, PyData.depthAll (zs.map .str) = 0
  | [] => rfl
  | z :: zs => by
    rw [List.map_cons, PyData.depthAll, pds_depth zs, PyData.depth]
    rfl
theorem pds_shaped {zs : List Str} (h : ∀ z ∈ zs, Word z) : SeqAt.shaped (pds zs) = true := by
  unfold SeqAt.shaped pds
  rw [Bool.and_eq_true]
  refine ⟨by rw [PyData.canLay0]; exact pds_can h, decide_eq_true ?_⟩
  rw [PyData.depth, pds_depth]
  decide
theorem pds_refl {zs : List Str} (h : ∀ z ∈ zs, Word z) : PyData.eqv (pds zs) (pds zs) = true := SeqAt.eqv_refl _ (SeqAt.canLay_of_shaped (pds_shaped h))
theorem dp_strs {K : PySem.W.Frag} {H : Hp} : ∀ zs : List Str, DpAll K H (zs.map V.str) (zs.map .str)
  | [] => .nil
  | z :: zs => .cons (.str z) (dp_strs zs)
theorem four {α : Type} {l : List α} (h : l.length = 4) : ∃ a b c d, l = [a, b, c, d] := by
  match l, h with
  | [a, b, c, d], _ => exact ⟨a, b, c, d, rfl⟩
def spLaw (K : PySem.W.Frag) : Sp := fun vs H Q _ => ∃ (a : Addr) (ns : List Int), vs = [.ref a] ∧ SqL K H a (ns.map V.int) ∧ ns.length ≤ 63 ∧ ∀ H', Q (.bl true) H'
end Cs

set_option Elab.async false
set_option linter.all false
set_option maxRecDepth 100000
set_option maxHeartbeats 4000000
/-! Plain laws for models made word by word; rows of counts and their models. -/
namespace Cs
open PySem L2
/-- the table of G at the words ws -/
def byT (G : Str → Int) (ws : List Str) : Tab := ws.foldl (fun t z => put t z (G z)) []
theorem byT_snoc (G : Str → Int) (ws : List Str) (z : Str) : byT G (ws ++ [z]) = put (byT G ws) z (G z) := by
  unfold byT
  rw [List.foldl_append]
  rfl
theorem byT_nd (G : Str → Int) : ∀ ws, (keys (byT G ws)).Nodup := snoc_rec List.nodup_nil fun l a h => by
  rw [byT_snoc]
  exact nd_put h
theorem byT_keys (G : Str → Int) (z : Str) : ∀ ws, z ∈ keys (byT G ws) ↔ z ∈ ws := snoc_rec ⟨(fun h => nomatch h), fun h => nomatch h⟩ fun l a h => by
  rw [byT_snoc, mem_keys_put, h, List.mem_append, List.mem_singleton]
theorem byT_val (G : Str → Int) (z : Str) : ∀ ws, val (byT G ws) z = if z ∈ ws then G z else 0 := snoc_rec rfl fun l a h => by
  rw [byT_snoc, val_put (byT_nd G l), h]
  by_cases e : z = a
  · subst e
    rw [if_pos rfl, if_pos (by simp)]
  · rw [if_neg e]
    by_cases m : z ∈ l
    · rw [if_pos m, if_pos (by simp [m])]
    · rw [if_neg m, if_neg (by simp [m, e])]
theorem byT_len (G : Str → Int) : ∀ ws, (byT G ws).length ≤ ws.length := snoc_rec (Nat.le_refl _) fun l a h => by
  rw [byT_snoc, List.length_append]
  have := len_put (byT G l) a (G a)
  simp only [List.length_singleton]
  omega
theorem val_outK {t : Tab} {z : Str} (h : z ∉ keys t) : val t z = 0 := by
  unfold val
  rw [look_none h]
  rfl
theorem keys_len (t : Tab) : (keys t).length = t.length := List.length_map _
theorem keys_at {t : Tab} {i : Nat} (h : i < t.length) : (keys t)[i]? = some t[i].1 := by
  unfold keys
  rw [List.getElem?_map, List.getElem?_eq_getElem h]
  rfl
/-- keys as values -/
theorem tv_keys (t : Tab) : (tv t).map (fun q => kV q.1) = (keys t).map V.str := by
  unfold tv keys
  rw [List.map_map, List.map_map]
  rfl
/-! sizes -/
def Bd (n : Int) : Prop := n.natAbs < 2 ^ 1000
theorem log_of {n : Int} (h : Bd n) : n.natAbs.log2 ≤ 1000 := by
  by_cases e : n.natAbs = 0
  · rw [e]
    decide
  · exact Nat.le_of_lt ((Nat.log2_lt e).mpr h)
theorem logs_of {n m : Int} (h : Bd n) (k : Bd m) : n.natAbs.log2 + m.natAbs.log2 < 1000000 := by
  have := log_of h
  have := log_of k
  omega
theorem Small.bd {n : Int} (h : Small n) : Bd n := by
  have h1 := h.1
  have h2 := h.2
  have h3 : n.natAbs < 10 ^ 30 := by omega
  exact Nat.lt_trans h3 (by decide +kernel)
theorem sumOf_small (z : Str) : ∀ {ps : List (Str × Int)}, GoodPs ps → -(10 ^ 30 * (ps.length : Int)) ≤ sumOf ps z ∧ sumOf ps z ≤ 10 ^ 30 * (ps.length : Int)
  | [], _ => ⟨Int.le_refl _, Int.le_refl _⟩
  | q :: ps, h => by
    obtain ⟨a, b⟩ := sumOf_small z (ps := ps) fun r m => h r (List.mem_cons_of_mem _ m)
    obtain ⟨c, d⟩ := (h q List.mem_cons_self).2
    have e : sumOf (q :: ps) z = (if q.1 = z then q.2 else 0) + sumOf ps z := by
      unfold sumOf
      rw [List.filter_cons]
      by_cases e : q.1 = z
      · rw [if_pos (decide_eq_true e), if_pos e, List.map_cons, List.sum_cons]
      · rw [if_neg (by simpa using e), if_neg e, Int.zero_add]
    rw [e, List.length_cons]
    by_cases e : q.1 = z
    · rw [if_pos e]
      omega
    · rw [if_neg e]
      omega
theorem sumOf_bd {ps : List (Str × Int)} (h : GoodPs ps) (hl : ps.length ≤ 1000) (z : Str) : Bd (sumOf ps z) := by
  obtain ⟨a, b⟩ := sumOf_small z h
  have : (sumOf ps z).natAbs ≤ 10 ^ 30 * 1000 := by omega
  exact Nat.lt_of_le_of_lt this (by decide +kernel)
/-! rows -/
def RowOk (C : Addr) (H : Hp) (x : V) (a : Addr × Addr) : Prop := ∃ (T r : Addr) (t u : Tab), x = .ref T ∧ H T = some (.tup [.ref r, .ref a.2]) ∧ Cnt C H r a.1 t ∧ t.length ≤ 50 ∧ Mdl H a.2 u ∧ u.length ≤ 50 ∧ ∀ z, val t z = val u z
theorem RowOk.same {C : Addr} {H H' : Hp} {x : V} {a : Addr × Addr} (s : Same H H') (h : RowOk C H x a) : RowOk C H' x a := by
  obtain ⟨T, r, t, u, e, hT, hc, hl, hm, hlu, hv⟩ := h
  exact ⟨T, r, t, u, e, s _ _ hT, hc.same s, hl, hm.same s, hlu, hv⟩
theorem pair_snoc {α β : Type} {R : α → β → Prop} : ∀ {xs : List α} {ys : List β} {x : α} {y : β}, Paired R xs ys → R x y → Paired R (xs ++ [x]) (ys ++ [y])
  | _, _, _, _, .nil, h => .cons h .nil
  | _, _, _, _, .cons r t, h => .cons r (pair_snoc t h)
theorem pair_len {α β : Type} {R : α → β → Prop} : ∀ {xs : List α} {ys : List β}, Paired R xs ys → xs.length = ys.length
  | _, _, .nil => rfl
  | _, _, .cons _ t => congrArg (· + 1) (pair_len t)
/-- rows whose results' dicts are apart from each other, from all models of rows and from S -/
structure RWs (C : Addr) (S : List Addr) (H : Hp) (xs : List V) (as : List (Addr × Addr)) : Prop where
  ok : Paired (RowOk C H) xs as
  pw : as.Pairwise fun a b => a.1 ≠ b.1
  mx : ∀ a ∈ as, ∀ b ∈ as, a.1 ≠ b.2
  own : ∀ a ∈ as, a.1 ∉ S
  ex : ∀ s ∈ S, ∃ o, H s = some o
theorem rows_at {C : Addr} {H : Hp} : ∀ {xs : List V} {as : List (Addr × Addr)}, Paired (RowOk C H) xs as → ∀ a ∈ as, (∃ o, H a.1 = some o) ∧ ∃ o, H a.2 = some o
  | _, _, .nil, a, h => nomatch h
  | _, _, .cons r t, a, h => by
    rcases List.mem_cons.mp h with e | e
    · subst e
      obtain ⟨T, r, t, u, _, _, hc, _, hm, _⟩ := r
      exact ⟨⟨_, hc.dc⟩, ⟨_, hm.dc⟩⟩
    · exact rows_at t a e
theorem RWs.same {C : Addr} {S : List Addr} {H H' : Hp} {xs : List V} {as : List (Addr × Addr)} (s : Same H H') (h : RWs C S H xs as) : RWs C S H' xs as := ⟨L2.Paired.mapP h.ok fun _ _ r => r.same s, h.pw, h.mx, h.own, fun b m => by
  obtain ⟨o, e⟩ := h.ex b m
  exact ⟨o, s _ _ e⟩⟩
theorem RWs.snoc {C : Addr} {S : List Addr} {H H' : Hp} {xs : List V} {as : List (Addr × Addr)} {x : V} {e m : Addr} (h : RWs C S H xs as) (s : Same H H') (f1 : H e = none) (f2 : H m = none ∨ m ∈ S) (ne : e ≠ m) (r : RowOk C H' x (e, m)) : RWs C S H' (xs ++ [x]) (as ++ [(e, m)]) := by
  have hS := h.same s
  refine ⟨pair_snoc hS.ok r, ?_, ?_, ?_, hS.ex⟩
  · rw [List.pairwise_append]
    refine ⟨h.pw, List.pairwise_singleton _ _, fun a ha b hb => ?_⟩
    rw [List.mem_singleton.mp hb]
    obtain ⟨⟨_, h1⟩, _⟩ := rows_at h.ok a ha
    exact ne_of_none h1 f1
  · intro a ha b hb
    rcases List.mem_append.mp ha with qa | qa <;> rcases List.mem_append.mp hb with qb | qb
    · exact h.mx a qa b qb
    · rw [List.mem_singleton.mp qb]
      obtain ⟨⟨_, h1⟩, _⟩ := rows_at h.ok a qa
      rcases f2 with f2 | f2
      · exact ne_of_none h1 f2
      · exact fun q => h.own a qa (by rw [q]; exact f2)
    · rw [List.mem_singleton.mp qa]
      obtain ⟨_, ⟨_, h2⟩⟩ := rows_at h.ok b qb
      exact (ne_of_none h2 f1).symm
    · rw [List.mem_singleton.mp qa, List.mem_singleton.mp qb]
      exact ne
  · intro a ha
    rcases List.mem_append.mp ha with qa | qa
    · exact h.own a qa
    · rw [List.mem_singleton.mp qa]
      intro q
      obtain ⟨o, e'⟩ := h.ex _ q
      exact ne_of_none e' f1 rfl
theorem RWs.nil {C : Addr} {S : List Addr} {H : Hp} (h : ∀ s ∈ S, ∃ o, H s = some o) : RWs C S H [] [] := ⟨.nil, .nil, (fun _ h => nomatch h), (fun _ h => nomatch h), h⟩
/-- what stays of rows when the dict at aa.1 is changed -/
theorem rows_step {C : Addr} {H H3 : Hp} {e : Addr} {t0 : List (Key × V)} (he : H e = some (.dK t0)) (kk : ∀ b o, H b = some o → b ≠ e → H3 b = some o) : ∀ {ys : List V} {bs : List (Addr × Addr)}, Paired (RowOk C H) ys bs → (∀ b ∈ bs, e ≠ b.1 ∧ e ≠ b.2) → Paired (RowOk C H3) ys bs
  | _, _, .nil, _ => .nil
  | _, _, .cons hr tl, hd => by
    refine .cons ?_ (rows_step he kk tl fun b hb => hd b (List.mem_cons_of_mem _ hb))
    obtain ⟨Tb, rb, tb, ub, eb, hTb, ⟨⟨dx, h1⟩, h2, h3, h4⟩, hlb, hmb, hlub, hvb⟩ := hr
    obtain ⟨q1, q2⟩ := hd _ List.mem_cons_self
    have dif : ∀ {b : Addr} {o : HO}, H b = some o → (∀ kvs, o ≠ .dK kvs) → H3 b = some o := fun {b o} e1 nn => kk b o e1 (by rintro rfl; rw [he] at e1; exact nn _ (Option.some.inj e1).symm)
    exact ⟨Tb, rb, tb, ub, eb, dif hTb (fun _ q => by cases q), ⟨⟨dx, dif h1 (fun _ q => by cases q)⟩, kk _ _ h2 q1.symm, h3, h4⟩, hlb, ⟨kk _ _ hmb.dc q2.symm, hmb.nd, hmb.wd⟩, hlub, hvb⟩
theorem Cnt.keep {C : Addr} {H H3 : Hp} {e : Addr} {t0 : List (Key × V)} {r d : Addr} {t : Tab} (he : H e = some (.dK t0)) (kk : ∀ b o, H b = some o → b ≠ e → H3 b = some o) (h : Cnt C H r d t) (n : d ≠ e) : Cnt C H3 r d t := by
  obtain ⟨⟨dx, h1⟩, h2, h3, h4⟩ := h
  exact ⟨⟨dx, kk _ _ h1 (by rintro rfl; rw [he] at h1; cases h1)⟩, kk _ _ h2 n, h3, h4⟩
theorem Mdl.keep {H H3 : Hp} {e : Addr} {m : Addr} {u : Tab} (kk : ∀ b o, H b = some o → b ≠ e → H3 b = some o) (h : Mdl H m u) (n : m ≠ e) : Mdl H3 m u := ⟨kk _ _ h.dc n, h.nd, h.wd⟩
end Cs

set_option Elab.async false
set_option linter.all false
set_option maxRecDepth 100000
set_option maxHeartbeats 4000000
/-! Boxes that change: what stays when the source draws, sizes that grow, lengths by a set of words. -/
namespace Cs
open PySem L2
theorem Cnt.kp {C : Addr} {H H' : Hp} {p c r d : Addr} {t : Tab} (S : Src H p c) (k : Kp p H H') (h : Cnt C H r d t) : Cnt C H' r d t := by
  obtain ⟨⟨dx, h1⟩, h2, h3, h4⟩ := h
  obtain ⟨_, _, _, _, e, _⟩ := id S
  exact ⟨⟨dx, k _ _ h1 (by rintro rfl; rw [e] at h1; cases h1)⟩, k _ _ h2 (by rintro rfl; rw [e] at h2; cases h2), h3, h4⟩
theorem Mdl.kp {H H' : Hp} {p c m : Addr} {u : Tab} (S : Src H p c) (k : Kp p H H') (h : Mdl H m u) : Mdl H' m u := by
  obtain ⟨_, _, _, _, e, _⟩ := id S
  exact ⟨k _ _ h.dc (by rintro rfl; have := h.dc; rw [e] at this; cases this), h.nd, h.wd⟩
def BN (k : Nat) (n : Int) : Prop := n.natAbs < 2 ^ k
theorem BN.log {k : Nat} {n : Int} (h : BN k n) : n.natAbs.log2 ≤ k := by
  by_cases e : n.natAbs = 0
  · rw [e]
    exact Nat.zero_le _
  · exact Nat.le_of_lt ((Nat.log2_lt e).mpr h)
theorem BN.logs {j k : Nat} {n m : Int} (h : BN j n) (h2 : BN k m) (l : j + k < 1000000) : n.natAbs.log2 + m.natAbs.log2 < 1000000 := by
  have := h.log
  have := h2.log
  omega
theorem BN.up {j k : Nat} {n : Int} (h : BN j n) (l : j ≤ k) : BN k n := Nat.lt_of_lt_of_le h (Nat.pow_le_pow_right (by decide) l)
theorem BN.add {k : Nat} {n m : Int} (h : BN k n) (h2 : BN k m) : BN (k + 1) (n + m) := by
  unfold BN at *
  rw [Nat.pow_succ]
  omega
theorem BN.neg {k : Nat} {n : Int} (h : BN k n) : BN k (-n) := by
  unfold BN at *
  rw [Int.natAbs_neg]
  exact h
theorem BN.sub {k : Nat} {n m : Int} (h : BN k n) (h2 : BN k m) : BN (k + 1) (n - m) := by
  rw [Int.sub_eq_add_neg]
  exact h.add h2.neg
theorem BN.mul {j k : Nat} {n m : Int} (h : BN j n) (h2 : BN k m) : BN (j + k) (n * m) := by
  unfold BN at *
  rw [Int.natAbs_mul, Nat.pow_add]
  exact Nat.mul_lt_mul'' h h2
theorem Small.bn {n : Int} (h : Small n) : BN 100 n := by
  have h1 := h.1
  have h2 := h.2
  have h3 : n.natAbs < 10 ^ 30 := by omega
  exact Nat.lt_trans h3 (by decide +kernel)
theorem sumOf_bn {ps : List (Str × Int)} (h : GoodPs ps) (hl : ps.length ≤ 1000) (z : Str) : BN 110 (sumOf ps z) := by
  obtain ⟨a, b⟩ := sumOf_small z h
  have : (sumOf ps z).natAbs ≤ 10 ^ 30 * 1000 := by omega
  exact Nat.lt_of_le_of_lt this (by decide +kernel)
theorem nodup_len : ∀ {zs W : List Str}, zs.Nodup → (∀ z ∈ zs, z ∈ W) → zs.length ≤ W.length
  | [], _, _, _ => Nat.zero_le _
  | z :: zs, W, nd, hs => by
    obtain ⟨n1, n2⟩ := List.nodup_cons.mp nd
    have hz := hs z List.mem_cons_self
    have ih := nodup_len (zs := zs) (W := W.erase z) n2 fun y hy => (List.mem_erase_of_ne (by rintro rfl; exact n1 hy)).mpr (hs y (List.mem_cons_of_mem _ hy))
    rw [List.length_erase_of_mem hz] at ih
    have : 0 < W.length := List.length_pos_of_mem hz
    rw [List.length_cons]
    omega
theorem tab_len {W : List Str} {u : Tab} (nd : (keys u).Nodup) (h : ∀ z ∈ keys u, z ∈ W) : u.length ≤ W.length := by
  rw [← keys_len]
  exact nodup_len nd h
/-- the words of counts are among those of their model -/
theorem held_in {t u : Tab} (h : Held t) (e : ∀ z, val t z = val u z) : ∀ z ∈ keys t, z ∈ keys u := fun z m => by
  have := (h.keys_iff z).mp m
  rw [e] at this
  exact Classical.byContradiction fun q => this (val_outK q)
/-- the five changes -/
def opM (mode n a b : Int) : Int := if mode = 0 then a + b else if mode = 1 then a - b else if mode = 2 then (if b < a then b else a) else if mode = 3 then (if b > a then b else a) else n * a
theorem opM_bn {k : Nat} {mode n a b : Int} (hn : BN 100 n) (ha : BN k a) (hb : BN k b) : BN (k + 100) (opM mode n a b) := by
  unfold opM
  split
  · exact (ha.add hb).up (by omega)
  split
  · exact (ha.sub hb).up (by omega)
  split
  · split
    · exact hb.up (by omega)
    · exact ha.up (by omega)
  split
  · split
    · exact hb.up (by omega)
    · exact ha.up (by omega)
  · rw [Nat.add_comm]
    exact hn.mul ha
theorem opM_zero (mode n : Int) : opM mode n 0 0 = 0 := by
  unfold opM
  split
  · rfl
  split
  · rfl
  split
  · rfl
  split
  · rfl
  · exact Int.mul_zero n
end Cs

set_option Elab.async false
set_option linter.all false
set_option maxRecDepth 100000
set_option maxHeartbeats 4000000
/-! Comparisons of an own class: == by its own __eq__, != by object.__ne__; dicts of words and integers compared. -/
namespace Cs
open PySem PySem.Spec PyProof.Rows L2
section
variable {M : Model} {prog : Program} {w : World} {A : Around} {E : Value → Shared → Prop} {s : Shared} {K : PySem.W.Frag} {x C f : Addr} {ox : Obj} {od : Option Obj}
theorem ifBound_objNe {args : List Value} {Q : Option Value → Shared → Prop} (X : K.In s.heap) (I : PySem.W.InstAt s.heap x ox C od) (hs : PySem.W.findIn K (.ref C) "__ne__" = some (some (.builtin "object.__ne__")))
    (h : wpAny M A (call (.builtin "object.__ne__") (.ref x :: args)) (fun v => Q (some v)) E s) : wpAny M A (callSpecialIfBound? (.ref x) "__ne__" args) Q E s := by
  simp only [callSpecialIfBound?, bindSpecialIfBound?]
  refine wpAny_holding (wpAny_bind (wpAny_bind (wpAny_bind (I.type.here ((PySem.W.looks_findIn X hs).here ?_)))))
  refine wpAny_bind (wpAny_askSetting (wpAny_ite ?_))
  have fin : wpAny M A (call (.builtin "object.__ne__") ([.ref x] ++ args) >>= fun v => pure (some v)) Q E s := wpAny_bind (wpAny_mono h (fun v s' h' => wpAny_pure h') fun _ _ h' => h')
  split
  · exact wpAny_bind (wpAny_of_eq (F.cmp_object.ne.bind _) (wpAny_pure (by exact fin)))
  · exact wpAny_tryCatch (wpAny_bind (wpAny_of_eq (F.cmp_object.ne.bind _) (wpAny_pure (by exact fin))))
theorem objNe_own {b : Value} {Q : Fin → Shared → Prop} (hu : A.units < cLine) (X : K.In s.heap) (I : PySem.W.InstAt s.heap x ox C od) (hs : PySem.W.findIn K (.ref C) "__eq__" = some (some (.ref f))) (hf : PySem.W.isFn K (.ref f) = true)
    (h : wpAny (model prog w) A (call (.ref f) [.ref x, b]) (fun v s' => ∃ k, v = .bool k ∧ Q (.done (.ret (.bool (!k)))) s') E s) : wpAny (model prog w) A (Builtin.«object.__ne__» ⟨[.ref x, b], []⟩) Q E s := by
  unfold Builtin.«object.__ne__»
  repeat (first
    | with_reducible refine wpAny_cRoomFor hu ?_
    | (refine wpAny_bind (m := callSpecialIfBound? (.ref x) (Str.ofString "__eq__") [b])
        (PySem.W.ifBound_K X I hs hf (wpAny_mono h (fun r s' hr => by
          obtain ⟨b, rfl, hq⟩ := hr
          repeat (first | exact hq | exact wpAny_pure hq | exact wpAny_truthy_bool hq | (refine wpAny_bind (m := truthy (.bool _)) (wpAny_truthy_bool ?_)) | wp_step)) fun _ _ e => e)))
    | wp_step)
theorem call_objNe {b : Value} {Q : Value → Shared → Prop} (hu : A.units + 1 < cLine) (X : K.In s.heap) (I : PySem.W.InstAt s.heap x ox C od) (hm : PySem.W.mroIn K C (.type "object") = some true) (hs : PySem.W.findIn K (.ref C) "__eq__" = some (some (.ref f))) (hf : PySem.W.isFn K (.ref f) = true)
    (h : wpAny (model prog w) A.in1 (call (.ref f) [.ref x, b]) (fun v s' => ∃ k, v = .bool k ∧ Q (.bool (!k)) s') E s) : wpAny (model prog w) A (call (.builtin "object.__ne__") [.ref x, b]) Q E s :=
  wpAny_call (codeAny_call_builtin F.cmp_object.ne.plain F.cmpEntry_ne (PySem.W.check_slot F.cmpKind_ne F.cmpSplit_ne (I.type.andThen (PySem.W.looks_mroIn X hm)) (F.cmpArgs_ne _ _) (objNe_own (A := A.in1) hu X I hs hf (wpAny_mono h (fun v s' z => by
    obtain ⟨k, rfl, q⟩ := z
    exact ⟨k, rfl, q⟩) fun _ _ e => e))))
theorem ne_own {b tb : Value} {Q : Value → Shared → Prop} (hu : A.units + 1 < cLine) (X : K.In s.heap) (I : PySem.W.InstAt s.heap x ox C od) (hb : PySem.W.Looks (model prog w) s.heap (typeOf b) tb) (hn : PySem.W.notFirst K C tb = true)
    (hm : PySem.W.mroIn K C (.type "object") = some true) (hne : PySem.W.findIn K (.ref C) "__ne__" = some (some (.builtin "object.__ne__"))) (hs : PySem.W.findIn K (.ref C) "__eq__" = some (some (.ref f))) (hf : PySem.W.isFn K (.ref f) = true)
    (h : wpAny (model prog w) A.in1 (call (.ref f) [.ref x, b]) (fun v s' => ∃ k, v = .bool k ∧ Q (.bool (!k)) s') E s) : wpAny (model prog w) A (compareOp .NotEq (.ref x) b) Q E s := by
  have one : wpAny (model prog w) A (tryCompare (.ref x) "__ne__" b) (fun r s' => ∃ v, r = some v ∧ Q v s') E s := by
    unfold tryCompare
    refine wpAny_bind (ifBound_objNe X I hne (call_objNe hu X I hm hs hf (wpAny_mono h (fun v s' z => ?_) fun _ _ e => e)))
    obtain ⟨k, rfl, q⟩ := z
    exact ⟨k, rfl, wpAny_pure ⟨_, rfl, q⟩⟩
  show wpAny (model prog w) A (richCompare .NotEq (.ref x) b) Q E s
  unfold richCompare
  simp only [oneThing_ref]
  refine wpAny_holding (wpAny_bind (wpAny_cRoomFor (Nat.lt_of_succ_lt hu) ?_))
  refine wpAny_bind (I.type.here (wpAny_bind (hb.here ?_)))
  split
  · rename_i q
    have e : PySem.W.subIn K tb (.ref C) = some false := by
      rcases Bool.or_eq_true_iff.mp hn with e | e
      · rw [beq_iff_eq.mp e] at q; simp at q
      · exact beq_iff_eq.mp e
    refine wpAny_bind ((PySem.W.looks_subIn X e).here ?_)
    simp only [Bool.false_eq_true, if_false]
    refine wpAny_bind (wpAny_mono one (fun r s' z => ?_) fun _ _ e => e)
    obtain ⟨v, rfl, hq⟩ := z
    exact wpAny_pure hq
  · refine wpAny_bind (wpAny_pure ?_)
    simp only [Bool.false_eq_true, if_false]
    refine wpAny_bind (wpAny_mono one (fun r s' z => ?_) fun _ _ e => e)
    obtain ⟨v, rfl, hq⟩ := z
    exact wpAny_pure hq
end
section
variable {X : Cx} {CX : CXT} {k : Nat} {f C : Addr} {fd : FuncData} {ps : List Str} {sp : Sp} {E : XK}
/-- what == and != ask of the class -/
structure EqC (K : PySem.W.Frag) (C f : Addr) : Prop where
  at_ : PySem.W.findIn K (.ref C) "__eq__" = some (some (.ref f))
  fn : PySem.W.isFn K (.ref f) = true
  ne : PySem.W.findIn K (.ref C) "__ne__" = some (some (.builtin "object.__ne__"))
  hm : PySem.W.mroIn K C (.type "object") = some true
theorem first_self {K : PySem.W.Frag} : PySem.W.notFirst K C (.ref C) = true := by simp [PySem.W.notFirst]
def rEqO (C : Addr) (sp : Sp) (E : XK) : R2 := fun x y H Q => ∃ p q dp dq fp fq, x = .ref p ∧ y = .ref q ∧ H p = some (.ins C dp fp) ∧ H q = some (.ins C dq fq) ∧ sp [.ref p, .ref q] H Q E
def rNeO (C : Addr) (sp : Sp) (E : XK) : R2 := fun x y H Q => ∃ p q dp dq fp fq, x = .ref p ∧ y = .ref q ∧ H p = some (.ins C dp fp) ∧ H q = some (.ins C dq fq) ∧ sp [.ref p, .ref q] H (fun v H' => ∃ b, v = .bl b ∧ Q (.bl (!b)) H') E
theorem op_eqO (c : EqC X.K C f) (F : FnOk X.prog X.w X.K X.mg X.base CX k f fd ps sp) (hr : Room k X.A) (hb : Binds X.K fd ps []) (hx : Passes CX X E) : OpR X (compareOp .Eq) (rEqO C sp E) := by
  intro pins s σ H x y v u Q I rx ry h
  obtain ⟨p, q, dp, dq, fp, fq, rfl, rfl, hp, hq, k⟩ := h
  cases rx
  cases ry
  obtain ⟨ox, od, J, _⟩ := ins_inst I hp
  obtain ⟨oy, oe, J2, _⟩ := ins_inst I hq
  obtain ⟨m, Fr⟩ := I.fr
  show wpAny _ _ (richCompare .Eq (.ref p) (.ref q)) _ _ _
  refine PySem.W.cmp_K (op := .Eq) (tb := .ref C) hr.units0 Fr I.ok.mod.kin J J2.type first_self c.at_ c.fn ?_
  exact wpAny_mono (run_fn (us := [.ref p, .ref q]) (vs := [.ref p, .ref q]) (dvs := []) F hr hb .nil hx I (.cons rfl (.cons rfl .nil)) k) (fun v s' z => back_of z) fun _ _ z => z
theorem op_neO (c : EqC X.K C f) (F : FnOk X.prog X.w X.K X.mg X.base CX k f fd ps sp) (hr : Room (k + 1) X.A) (hb : Binds X.K fd ps []) (hx : Passes CX X E) : OpR X (compareOp .NotEq) (rNeO C sp E) := by
  intro pins s σ H x y v u Q I rx ry h
  obtain ⟨p, q, dp, dq, fp, fq, rfl, rfl, hp, hq, k⟩ := h
  cases rx
  cases ry
  obtain ⟨ox, od, J, _⟩ := ins_inst I hp
  obtain ⟨oy, oe, J2, _⟩ := ins_inst I hq
  refine ne_own (hu_of hr) I.kIn J J2.type first_self c.hm c.ne c.at_ c.fn ?_
  refine wpAny_mono (run_fn1 (us := [.ref p, .ref q]) (vs := [.ref p, .ref q]) F hr hb hx I (.cons rfl (.cons rfl .nil)) k) (fun v s' z => ?_) fun _ _ z => z
  obtain ⟨v', H', I', rv, b, rfl, qq⟩ := z
  cases rv
  exact ⟨b, rfl, .bl (!b), H', I', rfl, qq⟩
end
/-! ### dicts of words and integers -/
def allIn (t u : Tab) : Bool := t.all fun q => decide (look u q.1 = some q.2)
theorem hits_tab {A : Around} {s : Shared} {u : Tab} {vb : List (Key × Value)} (rb : KV (tv u) vb) : ∀ {t : Tab} {va : List (Key × Value)}, KV (tv t) va → PySem.W.KeqHits A s vb va (allIn t u)
  | [], _, .nil => .nil
  | q :: t, (k, v) :: va, .cons ⟨h1, h2⟩ r => by
    have h1' : (Sum.inr q.1 : Key) = k := h1
    obtain ⟨tk, rfl⟩ : ∃ tk, v = Value.int q.2 tk := h2
    subst h1'
    have rr : RelO (valV (tv u) (Sum.inr q.1)) (valueAt vb (Sum.inr q.1)) := rb.val _
    rw [tv_val] at rr
    have e : allIn (q :: t) u = (decide (look u q.1 = some q.2) && allIn t u) := rfl
    rw [e]
    cases hl : look u q.1 with
    | none =>
      rw [hl] at rr
      rw [show decide ((none : Option Int) = some q.2) = false from rfl, Bool.false_and]
      exact .miss (by cases hv : valueAt vb (Sum.inr q.1 : Key) with
        | none => rfl
        | some y => rw [hv] at rr; exact absurd rr (by intro z; cases z))
    | some n =>
      rw [hl] at rr
      obtain ⟨y, hy, ry⟩ := RelO.some_of rr
      obtain ⟨tk2, rfl⟩ : ∃ tk, y = Value.int n tk := ry
      have e2 : decide (some n = some q.2) = (q.2 == n) := by
        by_cases c : q.2 = n
        · rw [c]
          simp
        · rw [decide_eq_false (fun z => c (Option.some.inj z).symm)]
          exact (beq_eq_false_iff_ne.mpr c).symm
      rw [e2]
      exact .hit hy (SeqAt.EqAt.int_int _ _ _ _) (hits_tab rb r)
section
variable {X : Cx}
def rEqT : R2 := fun x y H Q => ∃ a b t u, x = .ref a ∧ y = .ref b ∧ H a = some (.dK (tv t)) ∧ H b = some (.dK (tv u)) ∧ Q (.bl (t.length == u.length && allIn t u)) H
def rNeT : R2 := fun x y H Q => ∃ a b t u, x = .ref a ∧ y = .ref b ∧ H a = some (.dK (tv t)) ∧ H b = some (.dK (tv u)) ∧ Q (.bl (!(t.length == u.length && allIn t u))) H
theorem op_eqT (hu : X.A.units < cLine) : OpR X (compareOp .Eq) rEqT := by
  intro pins s σ H x y v u Q I rx ry h
  obtain ⟨a, b, t, u', rfl, rfl, ea, eb, q⟩ := h
  obtain rfl : v = Value.ref a := rx
  obtain rfl : u = Value.ref b := ry
  obtain ⟨_, ya, va, ra, da⟩ := (show ObjOk X.prog X.w H s.heap a (.dK (tv t)) from I.hok a _ ea)
  obtain ⟨_, yb, vb, rb, db⟩ := (show ObjOk X.prog X.w H s.heap b (.dK (tv u')) from I.hok b _ eb)
  have h1 : va.length = t.length := by rw [← ra.length]; exact tv_len t
  have h2 : vb.length = u'.length := by rw [← rb.length]; exact tv_len u'
  exact PySem.W.keq_eq (knd := mixKind X.prog X.w) (r := allIn t u') ya yb da db hu (fun _ => hits_tab rb ra) (fin_bl I q (by rw [h1, h2]))
theorem op_neT (hu : X.A.units < cLine) : OpR X (compareOp .NotEq) rNeT := by
  intro pins s σ H x y v u Q I rx ry h
  obtain ⟨a, b, t, u', rfl, rfl, ea, eb, q⟩ := h
  obtain rfl : v = Value.ref a := rx
  obtain rfl : u = Value.ref b := ry
  obtain ⟨_, ya, va, ra, da⟩ := (show ObjOk X.prog X.w H s.heap a (.dK (tv t)) from I.hok a _ ea)
  obtain ⟨_, yb, vb, rb, db⟩ := (show ObjOk X.prog X.w H s.heap b (.dK (tv u')) from I.hok b _ eb)
  have h1 : va.length = t.length := by rw [← ra.length]; exact tv_len t
  have h2 : vb.length = u'.length := by rw [← rb.length]; exact tv_len u'
  exact PySem.W.keq_ne (knd := mixKind X.prog X.w) (r := allIn t u') ya yb da db hu (fun _ => hits_tab rb ra) (fin_bl I q (by rw [h1, h2]))
end
end Cs

set_option Elab.async false
set_option linter.all false
set_option maxRecDepth 100000
set_option maxHeartbeats 4000000
/-! Counts compared. -/
namespace Cs
open PySem L2
theorem same_tab {t u : Tab} (ht : Held t) (hu : Held u) : ((t.length == u.length && allIn t u) = true) ↔ ∀ z, val t z = val u z := by
  rw [Bool.and_eq_true, beq_iff_eq]
  unfold allIn
  rw [List.all_eq_true]
  constructor
  · rintro ⟨hl, ha⟩ z
    have sub : ∀ z ∈ keys t, z ∈ keys u := fun z hz => by
      obtain ⟨n, _, hm⟩ := look_some hz
      have := of_decide_eq_true (ha _ hm)
      exact Classical.byContradiction fun q => by rw [look_none q] at this; cases this
    by_cases c : z ∈ keys t
    · obtain ⟨n, hn, hm⟩ := look_some c
      have := of_decide_eq_true (ha _ hm)
      unfold val
      rw [hn, this]
    · have c2 : z ∉ keys u := fun q => by
        have := nodup_len (zs := z :: keys t) (W := keys u) (List.nodup_cons.mpr ⟨c, ht.nd⟩) fun y hy => (List.mem_cons.mp hy).elim (fun e => e ▸ q) (sub y)
        rw [List.length_cons, keys_len, keys_len] at this
        omega
      rw [val_outK c, val_outK c2]
  · intro h
    refine ⟨?_, fun q hq => decide_eq_true ?_⟩
    · have h1 := nodup_len (zs := keys t) (W := keys u) ht.nd fun z hz => (hu.keys_iff z).mpr (h z ▸ (ht.keys_iff z).mp hz)
      have h2 := nodup_len (zs := keys u) (W := keys t) hu.nd fun z hz => (ht.keys_iff z).mpr ((h z).symm ▸ (hu.keys_iff z).mp hz)
      rw [keys_len, keys_len] at h1 h2
      omega
    · have hz : q.1 ∈ keys u := by
        rw [hu.keys_iff, ← h]
        exact (ht.keys_iff _).mp (List.mem_map.mpr ⟨q, hq, rfl⟩)
      obtain ⟨n, hn, _⟩ := look_some hz
      have h1 := look_mem ht.nd (show (q.1, q.2) ∈ t from hq)
      have h2 := h q.1
      unfold val at h2
      rw [h1, hn] at h2
      rw [hn]
      exact congrArg some (show n = q.2 from h2.symm)
structure EDef (P : Program) (w : World) (K : PySem.W.Frag) (mg : Str → Option Value) (base : Heap) (CX : CXT) (k : Nat) (C : Addr) (ps : List Str) (sp : Sp) (f : Addr) (fd : FuncData) : Prop where
  c : EqC K C f
  ok : FnOk P w K mg base CX k f fd ps sp
  b : Binds K fd ps []
def spEq (C : Addr) : Sp := fun vs H Q _ => ∃ (p d q e : Addr) (t u : Tab), vs = [.ref p, .ref q] ∧ Cnt C H p d t ∧ Cnt C H q e u ∧ ∀ b : Bool, (b = true ↔ ∀ z, val t z = val u z) → Q (.bl b) H
section
variable {P : Program} {w : World} {K : PySem.W.Frag} {mg : Str → Option Value} {base : Heap}
theorem ok_eq {C f : Addr} {fd : FuncData} {fI : Addr} (F : Fun K "__eq__" "Counts.__eq__" s_Counts_eq f fd) (g : Bi mg) (T : CT P w K mg base C fI) (ci : CI K C) : FnOk P w K mg base CX0 1 f fd ["self", "other"] (spEq C) := by
  refine F.ok sc_Counts_eq (fun vs H Q E h => ?_) (fun cdv A outer s H vs Q E hr h => ?_)
  · obtain ⟨_, _, _, _, _, _, rfl, _⟩ := h
    rfl
  · obtain ⟨p, d, q, e, t, u, rfl, hc, hc2, k⟩ := h
    have hu := hu_of hr
    have hu0 := Nat.lt_of_succ_lt hu
    refine ⟨_, (pss_one (ps_ret (pe_and (pe_callB call_isi (by rfl) g.isinstance (by decide +kernel) (pa_cons (pv 1) (pa_cons (pe_glob (v := .ref C) rfl T.mgC rfl) pa_nil))) (pe_one (pe_cmpR (op_eqT hu0) (pe_fld (pv 0) rfl) (pe_fld (pv 1) rfl) (nomark _)))))), ?_⟩
    obtain ⟨⟨dx, hp⟩, hd, hh, _⟩ := id hc
    obtain ⟨⟨dx2, hq⟩, hd2, hh2, _⟩ := id hc2
    refine ⟨_, rfl, _, _, _, _, true, rfl, .own C, ci.ty hq, kit_self, _, rfl, iteT ?_⟩
    refine ⟨_, rfl, p, C, dx, _, _, rfl, hp, T.cl, T.nH, flds_held d, _, rfl, q, C, dx2, _, _, rfl, hq, T.cl, T.nH, flds_held e, ?_⟩
    exact ⟨d, e, t, u, rfl, rfl, hd, hd2, k _ (same_tab hh hh2)⟩
end
end Cs

set_option Elab.async false
set_option linter.all false
set_option maxRecDepth 100000
set_option maxHeartbeats 4000000
/-! Counts and models by their values alone; the operators at that level; rows of counts. -/
namespace Cs
open PySem L2
/-- counts at r with their dict at e: values F, at most n words -/
def Cv (n : Nat) (C : Addr) (H : Hp) (r e : Addr) (F : Str → Int) : Prop := ∃ t, Cnt C H r e t ∧ t.length ≤ n ∧ ∀ z, val t z = F z
def Mv (n : Nat) (H : Hp) (m : Addr) (F : Str → Int) : Prop := ∃ u, Mdl H m u ∧ u.length ≤ n ∧ ∀ z, val u z = F z
section
variable {n m : Nat} {C : Addr} {H H' : Hp} {p q d e r x : Addr} {F F1 F2 : Str → Int} {E : XK} {Q : VK} {G : Int → Int → Int} {G1 : Int → Int}
theorem Cv.same (s : Same H H') (h : Cv n C H r e F) : Cv n C H' r e F := by
  obtain ⟨t, a, b, c⟩ := h
  exact ⟨t, a.same s, b, c⟩
theorem Mv.same (s : Same H H') (h : Mv n H x F) : Mv n H' x F := by
  obtain ⟨t, a, b, c⟩ := h
  exact ⟨t, a.same s, b, c⟩
theorem Cv.up (h : Cv n C H r e F) (l : n ≤ m) : Cv m C H r e F := by
  obtain ⟨t, a, b, c⟩ := h
  exact ⟨t, a, Nat.le_trans b l, c⟩
theorem Cv.congr (h : Cv n C H r e F1) (k : ∀ z, F1 z = F2 z) : Cv n C H r e F2 := by
  obtain ⟨t, a, b, c⟩ := h
  exact ⟨t, a, b, fun z => (c z).trans (k z)⟩
theorem Mv.congr (h : Mv n H x F1) (k : ∀ z, F1 z = F2 z) : Mv n H x F2 := by
  obtain ⟨t, a, b, c⟩ := h
  exact ⟨t, a, b, fun z => (c z).trans (k z)⟩
theorem Cv.kp {c : Addr} (S : Src H p c) (k : Kp p H H') (h : Cv n C H r e F) : Cv n C H' r e F := by
  obtain ⟨t, a, b, c⟩ := h
  exact ⟨t, a.kp S k, b, c⟩
theorem Mv.kp {c : Addr} (S : Src H p c) (k : Kp p H H') (h : Mv n H x F) : Mv n H' x F := by
  obtain ⟨t, a, b, c⟩ := h
  exact ⟨t, a.kp S k, b, c⟩
theorem Cv.at (h : Cv n C H r e F) : ∃ o, H e = some (.dK o) := by
  obtain ⟨t, a, _⟩ := h
  exact ⟨_, a.dc⟩
theorem Cv.ob (h : Cv n C H r e F) : ∃ dx fs, H r = some (.ins C dx fs) := by
  obtain ⟨t, ⟨⟨dx, a⟩, _⟩, _⟩ := h
  exact ⟨dx, _, a⟩
theorem Mv.at (h : Mv n H x F) : ∃ o, H x = some (.dK o) := by
  obtain ⟨t, a, _⟩ := h
  exact ⟨_, a.dc⟩
/-- what stays when the dict at e is changed -/
theorem Cv.keep {o : List (Key × V)} (he : H e = some (.dK o)) (kk : ∀ b o, H b = some o → b ≠ e → H' b = some o) (h : Cv n C H r d F) (n1 : d ≠ e) : Cv n C H' r d F := by
  obtain ⟨t, a, b, c⟩ := h
  exact ⟨t, Cnt.keep he kk a n1, b, c⟩
theorem Mv.keep (kk : ∀ b o, H b = some o → b ≠ e → H' b = some o) (h : Mv n H x F) (n1 : x ≠ e) : Mv n H' x F := by
  obtain ⟨t, a, b, c⟩ := h
  exact ⟨t, Mdl.keep kk a n1, b, c⟩
def NewV (n : Nat) (C : Addr) (H : Hp) (Q : VK) (F : Str → Int) : Prop := ∀ (r e : Addr) (H' : Hp), H r = none → H e = none → Same H H' → Cv n C H' r e F → Q (.ref r) H'
theorem NewV.of (k : NewV n C H Q F) : NewC C H Q F n := fun r e H' u hr he s hc hv hl => k r e H' hr he s ⟨u, hc, hl, hv⟩
theorem cv_bin (h1 : Cv n C H p d F1) (h2 : Cv m C H q e F2) (hn : n ≤ 400) (hm : m ≤ 400) (k : NewV (n + m) C H Q (fun z => G (F1 z) (F2 z))) : rBinO C (spBin C G) E (.ref p) (.ref q) H Q := by
  obtain ⟨t, a, b, c⟩ := h1
  obtain ⟨t2, a2, b2, c2⟩ := h2
  obtain ⟨⟨dx, hp⟩, _⟩ := id a
  obtain ⟨⟨dx2, hq⟩, _⟩ := id a2
  refine ⟨p, q, _, _, _, _, rfl, rfl, hp, hq, p, d, q, e, t, t2, rfl, a, a2, by omega, by omega, fun r e' H' u hr he s hc hv hl => k r e' H' hr he s ⟨u, hc, by omega, fun z => ?_⟩⟩
  rw [hv]
  dsimp only
  rw [c, c2]
theorem cv_neg (h1 : Cv n C H p d F1) (hn : n ≤ 1000) (k : NewV n C H Q (fun z => G1 (F1 z))) : rNegO C (spUn C G1) E (.ref p) H Q := by
  obtain ⟨t, a, b, c⟩ := h1
  obtain ⟨⟨dx, hp⟩, _⟩ := id a
  refine ⟨p, _, _, rfl, hp, p, d, t, rfl, a, by omega, fun r e' H' u hr he s hc hv hl => k r e' H' hr he s ⟨u, hc, by omega, fun z => ?_⟩⟩
  rw [hv]
  dsimp only
  rw [c]
theorem cv_abs (h1 : Cv n C H p d F1) (hn : n ≤ 1000) (k : NewV n C H Q (fun z => G1 (F1 z))) : rAbsO C (spUn C G1) E [.ref p] H Q := by
  obtain ⟨t, a, b, c⟩ := h1
  obtain ⟨⟨dx, hp⟩, _⟩ := id a
  refine ⟨p, _, _, rfl, hp, p, d, t, rfl, a, by omega, fun r e' H' u hr he s hc hv hl => k r e' H' hr he s ⟨u, hc, by omega, fun z => ?_⟩⟩
  rw [hv]
  dsimp only
  rw [c]
theorem cv_mul {i : Int} (h1 : Cv n C H p d F1) (hn : n ≤ 1000) (hb : ∀ z, i.natAbs.log2 + (F1 z).natAbs.log2 < 1000000) (k : NewV n C H Q (fun z => i * F1 z)) : rBinI C (spMul C) E (.ref p) (.int i) H Q := by
  obtain ⟨t, a, b, c⟩ := h1
  obtain ⟨⟨dx, hp⟩, _⟩ := id a
  refine ⟨p, _, _, i, rfl, rfl, hp, p, d, t, i, rfl, a, by omega, fun z => by rw [c]; exact hb z, fun r e' H' u hr he s hc hv hl => k r e' H' hr he s ⟨u, hc, by omega, fun z => ?_⟩⟩
  rw [hv]
  dsimp only
  rw [c]
theorem cv_mulR {i : Int} (h1 : Cv n C H p d F1) (hn : n ≤ 1000) (hb : ∀ z, i.natAbs.log2 + (F1 z).natAbs.log2 < 1000000) (k : NewV n C H Q (fun z => i * F1 z)) : rMulR C (spMul C) E (.int i) (.ref p) H Q := by
  obtain ⟨t, a, b, c⟩ := h1
  obtain ⟨⟨dx, hp⟩, _⟩ := id a
  refine ⟨p, _, _, i, rfl, rfl, hp, p, d, t, i, rfl, a, by omega, fun z => by rw [c]; exact hb z, fun r e' H' u hr he s hc hv hl => k r e' H' hr he s ⟨u, hc, by omega, fun z => ?_⟩⟩
  rw [hv]
  dsimp only
  rw [c]
theorem cv_equal (h1 : Cv n C H p d F1) (h2 : Mv m H x F2) (hn : n ≤ 1000) (hm : m ≤ 63) (hF : ∀ z, F1 z = F2 z) (k : ∀ H', Same H H' → Q (.bl true) H') : spEqual C [.ref p, .ref x] H Q E := by
  obtain ⟨t, a, b, c⟩ := h1
  obtain ⟨u, a2, b2, c2⟩ := h2
  exact ⟨p, d, x, t, u, rfl, a, by omega, a2, by omega, fun z => by rw [c, c2, hF], k⟩
theorem cv_ne (h1 : Cv n C H p d F1) (h2 : Cv m C H q e F2) (hF : ∀ z, F1 z = F2 z) (k : Q (.bl false) H) : rNeO C (spEq C) E (.ref p) (.ref q) H Q := by
  obtain ⟨t, a, b, c⟩ := h1
  obtain ⟨u, a2, b2, c2⟩ := h2
  obtain ⟨⟨dx, hp⟩, _⟩ := id a
  obtain ⟨⟨dx2, hq⟩, _⟩ := id a2
  refine ⟨p, q, _, _, _, _, rfl, rfl, hp, hq, p, d, q, e, t, u, rfl, a, a2, fun b hb => ⟨b, rfl, ?_⟩⟩
  rw [hb.mpr fun z => by rw [c, c2, hF]]
  exact k
theorem cv_eq (h1 : Cv n C H p d F1) (h2 : Cv m C H q e F2) (k : ∀ b : Bool, (b = true ↔ ∀ z, F1 z = F2 z) → Q (.bl b) H) : rEqO C (spEq C) E (.ref p) (.ref q) H Q := by
  obtain ⟨t, a, b, c⟩ := h1
  obtain ⟨u, a2, b2, c2⟩ := h2
  obtain ⟨⟨dx, hp⟩, _⟩ := id a
  obtain ⟨⟨dx2, hq⟩, _⟩ := id a2
  refine ⟨p, q, _, _, _, _, rfl, rfl, hp, hq, p, d, q, e, t, u, rfl, a, a2, fun b hb => k b ?_⟩
  rw [hb]
  exact ⟨fun h z => by rw [← c, ← c2, h], fun h z => by rw [c, c2, h]⟩
/-- C() -/
theorem cv_empty (x dx : Addr) (hx : H x = none) (hdx : H dx = none) (k : ∀ e H', H e = none → Same H H' → Cv 0 C H' x e (fun _ => 0) → Q .non H') : spInit C [.ref x] (upd (upd H dx (.own x)) x (.ins C dx [])) Q E := by
  have sMk := made (C := C) hx hdx
  refine ⟨x, dx, [], [], rfl, upd_same, .nil, by show 0 ≤ 1000; decide, (fun _ h => nomatch h), fun e H' he hc kp => ?_⟩
  exact k e H' (sMk.free he) (fun b o e1 => kp b o (sMk _ _ e1) (ne_of_none e1 hx)) ⟨_, hc, Nat.zero_le _, fun _ => rfl⟩
end
theorem tNil_it {σ : L2.St} {H : Hp} {k : List V → Hp → Prop} (h : k [] H) : tNil σ H k := h
/-! rows of counts -/
def RcOk (n : Nat) (C : Addr) (H : Hp) (x : V) (e : Addr) : Prop := ∃ r F, x = .ref r ∧ Cv n C H r e F
structure RCs (n : Nat) (C : Addr) (S : List Addr) (H : Hp) (xs : List V) (es : List Addr) : Prop where
  ok : Paired (RcOk n C H) xs es
  pw : es.Pairwise (· ≠ ·)
  own : ∀ e ∈ es, e ∉ S
  ex : ∀ s ∈ S, ∃ o, H s = some o
section
variable {n : Nat} {C : Addr} {S : List Addr} {H H' : Hp} {xs : List V} {es : List Addr}
theorem RcOk.same {x : V} {e : Addr} (s : Same H H') (h : RcOk n C H x e) : RcOk n C H' x e := by
  obtain ⟨r, F, a, b⟩ := h
  exact ⟨r, F, a, b.same s⟩
theorem RCs.same (s : Same H H') (h : RCs n C S H xs es) : RCs n C S H' xs es := ⟨L2.Paired.mapP h.ok fun _ _ r => r.same s, h.pw, h.own, fun b m => by
  obtain ⟨o, e⟩ := h.ex b m
  exact ⟨o, s _ _ e⟩⟩
theorem rcs_at : ∀ {xs : List V} {es : List Addr}, Paired (RcOk n C H) xs es → ∀ e ∈ es, ∃ o, H e = some o
  | _, _, .nil, _, h => nomatch h
  | _, _, .cons r t, e, h => by
    rcases List.mem_cons.mp h with q | q
    · subst q
      obtain ⟨r, F, _, c⟩ := r
      obtain ⟨o, a⟩ := c.at
      exact ⟨_, a⟩
    · exact rcs_at t e q
theorem RCs.nil (h : ∀ s ∈ S, ∃ o, H s = some o) : RCs n C S H [] [] := ⟨.nil, .nil, (fun _ h => nomatch h), h⟩
theorem RCs.snoc {r e : Addr} {F : Str → Int} (h : RCs n C S H xs es) (s : Same H H') (f1 : H e = none) (c : Cv n C H' r e F) : RCs n C S H' (xs ++ [.ref r]) (es ++ [e]) := by
  have hS := h.same s
  refine ⟨pair_snoc hS.ok ⟨r, F, rfl, c⟩, ?_, ?_, hS.ex⟩
  · rw [List.pairwise_append]
    refine ⟨h.pw, List.pairwise_singleton _ _, fun a ha b hb => ?_⟩
    rw [List.mem_singleton.mp hb]
    obtain ⟨_, h1⟩ := rcs_at h.ok a ha
    exact ne_of_none h1 f1
  · intro a ha
    rcases List.mem_append.mp ha with qa | qa
    · exact h.own a qa
    · rw [List.mem_singleton.mp qa]
      intro q
      obtain ⟨o, e'⟩ := h.ex _ q
      exact ne_of_none e' f1 rfl
theorem rcs_step {e : Addr} {o : List (Key × V)} (he : H e = some (.dK o)) (kk : ∀ b o, H b = some o → b ≠ e → H' b = some o) : ∀ {xs : List V} {es : List Addr}, Paired (RcOk n C H) xs es → (∀ b ∈ es, e ≠ b) → Paired (RcOk n C H') xs es
  | _, _, .nil, _ => .nil
  | _, _, .cons hr tl, hd => by
    refine .cons ?_ (rcs_step he kk tl fun b hb => hd b (List.mem_cons_of_mem _ hb))
    obtain ⟨r, F, a, c⟩ := hr
    exact ⟨r, F, a, c.keep he kk (hd _ List.mem_cons_self).symm⟩
end
end Cs

set_option Elab.async false
set_option linter.all false
set_option maxRecDepth 100000
set_option maxHeartbeats 4000000
/-! Order of an own class: <= < by its own methods, >= > by those of the other side; == and != with a value of a built-in type. -/
namespace Cs
open PySem PySem.Spec PyProof.Rows L2
section
variable {M : Model} {prog : Program} {w : World} {A : Around} {E : Value → Shared → Prop} {s : Shared} {K : PySem.W.Frag} {x y C f : Addr} {ox oy : Obj} {od oe : Option Obj}
theorem ifBound_obj {nm : Str} {id : String} {args : List Value} {Q : Option Value → Shared → Prop} (S : Slot "object" nm id) (X : K.In s.heap) (I : PySem.W.InstAt s.heap x ox C od) (hs : PySem.W.findIn K (.ref C) nm = some (some (.builtin id)))
    (h : wpAny M A (call (.builtin id) (.ref x :: args)) (fun v => Q (some v)) E s) : wpAny M A (callSpecialIfBound? (.ref x) nm args) Q E s := by
  simp only [callSpecialIfBound?, bindSpecialIfBound?]
  refine wpAny_holding (wpAny_bind (wpAny_bind (wpAny_bind (I.type.here ((PySem.W.looks_findIn X hs).here ?_)))))
  refine wpAny_bind (wpAny_askSetting (wpAny_ite ?_))
  have fin : wpAny M A (call (.builtin id) ([.ref x] ++ args) >>= fun v => pure (some v)) Q E s := wpAny_bind (wpAny_mono h (fun v s' h' => wpAny_pure h') fun _ _ h' => h')
  split
  · exact wpAny_bind (wpAny_of_eq (S.bind _) (wpAny_pure (by exact fin)))
  · exact wpAny_tryCatch (wpAny_bind (wpAny_of_eq (S.bind _) (wpAny_pure (by exact fin))))
theorem kind_ge : builtinKind "object.__ge__" = some .slot := by decide +kernel
theorem kind_gt : builtinKind "object.__gt__" = some .slot := by decide +kernel
theorem split_ge : splitId "object.__ge__" = some ("object", "__ge__") := by decide +kernel
theorem split_gt : splitId "object.__gt__" = some ("object", "__gt__") := by decide +kernel
theorem try_ge {b : Value} {Q : Option Value → Shared → Prop} (X : K.In s.heap) (I : PySem.W.InstAt s.heap x ox C od) (hm : PySem.W.mroIn K C (.type "object") = some true) (hs : PySem.W.findIn K (.ref C) "__ge__" = some (some (.builtin "object.__ge__"))) (h : Q none s) :
    wpAny (model prog w) A (tryCompare (.ref x) "__ge__" b) Q E s := by
  unfold tryCompare
  refine wpAny_bind (ifBound_obj PySem.F.slot_object_ge X I hs (wpAny_call (codeAny_call_builtin PySem.F.slot_object_ge.plain PySem.F.entry_object_ge (PySem.W.check_slot kind_ge split_ge (I.type.andThen (PySem.W.looks_mroIn X hm)) (PySem.F.args_object_ge_2 _ _) ?_))))
  show wpAny _ _ (slotArgs "__ge__" 1 ⟨[.ref x, b], []⟩ >>= fun _ => ret .notImplemented) _ _ _
  refine wpAny_bind (wpAny_of_eq (a := (.ref x, [b])) (by rfl) ?_)
  refine wpAny_pure ?_
  exact wpAny_pure h
theorem try_gt {b : Value} {Q : Option Value → Shared → Prop} (X : K.In s.heap) (I : PySem.W.InstAt s.heap x ox C od) (hm : PySem.W.mroIn K C (.type "object") = some true) (hs : PySem.W.findIn K (.ref C) "__gt__" = some (some (.builtin "object.__gt__"))) (h : Q none s) :
    wpAny (model prog w) A (tryCompare (.ref x) "__gt__" b) Q E s := by
  unfold tryCompare
  refine wpAny_bind (ifBound_obj PySem.F.slot_object_gt X I hs (wpAny_call (codeAny_call_builtin PySem.F.slot_object_gt.plain PySem.F.entry_object_gt (PySem.W.check_slot kind_gt split_gt (I.type.andThen (PySem.W.looks_mroIn X hm)) (PySem.F.args_object_gt_2 _ _) ?_))))
  show wpAny _ _ (slotArgs "__gt__" 1 ⟨[.ref x, b], []⟩ >>= fun _ => ret .notImplemented) _ _ _
  refine wpAny_bind (wpAny_of_eq (a := (.ref x, [b])) (by rfl) ?_)
  refine wpAny_pure ?_
  exact wpAny_pure h
/-- x >= y, x > y: the other side's own method answers -/
theorem refl_own {op : CmpOp} {Q : Value → Shared → Prop} (hu : A.units < cLine) (X : K.In s.heap) (I : PySem.W.InstAt s.heap x ox C od) (J : PySem.W.InstAt s.heap y oy C oe)
    (dec : ∀ Q' : Option Value → Shared → Prop, Q' none s → wpAny (model prog w) A (tryCompare (.ref x) (cmpInfo op).2.1 (.ref y)) Q' E s)
    (hs : PySem.W.findIn K (.ref C) (cmpInfo op).2.2 = some (some (.ref f))) (hf : PySem.W.isFn K (.ref f) = true)
    (h : wpAny (model prog w) A (call (.ref f) [.ref y, .ref x]) (PySem.W.CmpBack Q) E s) : wpAny (model prog w) A (richCompare op (.ref x) (.ref y)) Q E s := by
  have one : wpAny (model prog w) A (tryCompare (.ref y) (cmpInfo op).2.2 (.ref x)) (fun r s' => ∃ v, r = some v ∧ Q v s') E s := by
    unfold tryCompare
    refine wpAny_bind (PySem.W.ifBound_K X J hs hf (wpAny_mono h (fun v s' hv => ?_) fun _ _ e => e))
    cases v <;> first | exact hv.elim | exact wpAny_pure ⟨_, rfl, hv⟩
  unfold richCompare
  simp only [oneThing_ref]
  refine wpAny_holding (wpAny_bind (wpAny_cRoomFor hu ?_))
  refine wpAny_bind (I.type.here (wpAny_bind (J.type.here ?_)))
  have hne : (Value.ref C != Value.ref C) = false := by simp
  simp only [hne, Bool.false_eq_true, if_false]
  refine wpAny_bind (wpAny_pure ?_)
  simp only [Bool.false_eq_true, if_false]
  refine wpAny_bind (dec _ ?_)
  dsimp only
  simp only [Bool.not_false, if_true]
  refine wpAny_bind (wpAny_mono one (fun r s' z => ?_) fun _ _ e => e)
  obtain ⟨v, rfl, hq⟩ := z
  exact wpAny_pure hq
end
section
variable {X : Cx} {CX : CXT} {k : Nat} {f C : Addr} {fd : FuncData} {ps : List Str} {sp : Sp} {E : XK}
/-- what the order asks of the class -/
structure OrC (K : PySem.W.Frag) (C fle flt : Addr) : Prop where
  le : PySem.W.findIn K (.ref C) "__le__" = some (some (.ref fle))
  lef : PySem.W.isFn K (.ref fle) = true
  lt : PySem.W.findIn K (.ref C) "__lt__" = some (some (.ref flt))
  ltf : PySem.W.isFn K (.ref flt) = true
  ge : PySem.W.findIn K (.ref C) "__ge__" = some (some (.builtin "object.__ge__"))
  gt : PySem.W.findIn K (.ref C) "__gt__" = some (some (.builtin "object.__gt__"))
  hm : PySem.W.mroIn K C (.type "object") = some true
def rCmpR (C : Addr) (sp : Sp) (E : XK) : R2 := fun x y H Q => ∃ p q dp dq fp fq, x = .ref p ∧ y = .ref q ∧ H p = some (.ins C dp fp) ∧ H q = some (.ins C dq fq) ∧ sp [.ref q, .ref p] H Q E
theorem op_leO {g : Addr} (c : OrC X.K C f g) (F : FnOk X.prog X.w X.K X.mg X.base CX k f fd ps sp) (hr : Room k X.A) (hb : Binds X.K fd ps []) (hx : Passes CX X E) : OpR X (compareOp .LtE) (rEqO C sp E) := by
  intro pins s σ H x y v u Q I rx ry h
  obtain ⟨p, q, dp, dq, fp, fq, rfl, rfl, hp, hq, k⟩ := h
  cases rx
  cases ry
  obtain ⟨ox, od, J, _⟩ := ins_inst I hp
  obtain ⟨oy, oe, J2, _⟩ := ins_inst I hq
  obtain ⟨m, Fr⟩ := I.fr
  show wpAny _ _ (richCompare .LtE (.ref p) (.ref q)) _ _ _
  refine PySem.W.cmp_K (op := .LtE) (tb := .ref C) hr.units0 Fr I.ok.mod.kin J J2.type first_self c.le c.lef ?_
  exact wpAny_mono (run_fn (us := [.ref p, .ref q]) (vs := [.ref p, .ref q]) (dvs := []) F hr hb .nil hx I (.cons rfl (.cons rfl .nil)) k) (fun v s' z => back_of z) fun _ _ z => z
theorem op_ltO {g : Addr} (c : OrC X.K C g f) (F : FnOk X.prog X.w X.K X.mg X.base CX k f fd ps sp) (hr : Room k X.A) (hb : Binds X.K fd ps []) (hx : Passes CX X E) : OpR X (compareOp .Lt) (rEqO C sp E) := by
  intro pins s σ H x y v u Q I rx ry h
  obtain ⟨p, q, dp, dq, fp, fq, rfl, rfl, hp, hq, k⟩ := h
  cases rx
  cases ry
  obtain ⟨ox, od, J, _⟩ := ins_inst I hp
  obtain ⟨oy, oe, J2, _⟩ := ins_inst I hq
  obtain ⟨m, Fr⟩ := I.fr
  show wpAny _ _ (richCompare .Lt (.ref p) (.ref q)) _ _ _
  refine PySem.W.cmp_K (op := .Lt) (tb := .ref C) hr.units0 Fr I.ok.mod.kin J J2.type first_self c.lt c.ltf ?_
  exact wpAny_mono (run_fn (us := [.ref p, .ref q]) (vs := [.ref p, .ref q]) (dvs := []) F hr hb .nil hx I (.cons rfl (.cons rfl .nil)) k) (fun v s' z => back_of z) fun _ _ z => z
theorem op_geO {g : Addr} (c : OrC X.K C f g) (F : FnOk X.prog X.w X.K X.mg X.base CX k f fd ps sp) (hr : Room k X.A) (hb : Binds X.K fd ps []) (hx : Passes CX X E) : OpR X (compareOp .GtE) (rCmpR C sp E) := by
  intro pins s σ H x y v u Q I rx ry h
  obtain ⟨p, q, dp, dq, fp, fq, rfl, rfl, hp, hq, k⟩ := h
  cases rx
  cases ry
  obtain ⟨ox, od, J, _⟩ := ins_inst I hp
  obtain ⟨oy, oe, J2, _⟩ := ins_inst I hq
  show wpAny _ _ (richCompare .GtE (.ref p) (.ref q)) _ _ _
  refine refl_own (op := .GtE) hr.units0 I.kIn J J2 (fun Q' q => try_ge I.kIn J c.hm c.ge q) c.le c.lef ?_
  exact wpAny_mono (run_fn (us := [.ref q, .ref p]) (vs := [.ref q, .ref p]) (dvs := []) F hr hb .nil hx I (.cons rfl (.cons rfl .nil)) k) (fun v s' z => back_of z) fun _ _ z => z
theorem op_gtO {g : Addr} (c : OrC X.K C g f) (F : FnOk X.prog X.w X.K X.mg X.base CX k f fd ps sp) (hr : Room k X.A) (hb : Binds X.K fd ps []) (hx : Passes CX X E) : OpR X (compareOp .Gt) (rCmpR C sp E) := by
  intro pins s σ H x y v u Q I rx ry h
  obtain ⟨p, q, dp, dq, fp, fq, rfl, rfl, hp, hq, k⟩ := h
  cases rx
  cases ry
  obtain ⟨ox, od, J, _⟩ := ins_inst I hp
  obtain ⟨oy, oe, J2, _⟩ := ins_inst I hq
  show wpAny _ _ (richCompare .Gt (.ref p) (.ref q)) _ _ _
  refine refl_own (op := .Gt) hr.units0 I.kIn J J2 (fun Q' q => try_gt I.kIn J c.hm c.gt q) c.lt c.ltf ?_
  exact wpAny_mono (run_fn (us := [.ref q, .ref p]) (vs := [.ref q, .ref p]) (dvs := []) F hr hb .nil hx I (.cons rfl (.cons rfl .nil)) k) (fun v s' z => back_of z) fun _ _ z => z
/-- == and != with a value of a built-in type -/
def rEqY (K : PySem.W.Frag) (C : Addr) (sp : Sp) (E : XK) : R2 := fun x y H Q => ∃ p dp fp ty, x = .ref p ∧ H p = some (.ins C dp fp) ∧ TyX K H y (.type ty) ∧ PySem.W.subIn K (.type ty) (.ref C) = some false ∧ sp [.ref p, y] H Q E
def rNeY (K : PySem.W.Frag) (C : Addr) (sp : Sp) (E : XK) : R2 := fun x y H Q => ∃ p dp fp ty, x = .ref p ∧ H p = some (.ins C dp fp) ∧ TyX K H y (.type ty) ∧ PySem.W.subIn K (.type ty) (.ref C) = some false ∧ sp [.ref p, y] H (fun v H' => ∃ b, v = .bl b ∧ Q (.bl (!b)) H') E
theorem not_first {K : PySem.W.Frag} {ty : String} (h : PySem.W.subIn K (.type ty) (.ref C) = some false) : PySem.W.notFirst K C (.type ty) = true := by
  unfold PySem.W.notFirst
  rw [h]
  simp
theorem op_eqY (c : EqC X.K C f) (F : FnOk X.prog X.w X.K X.mg X.base CX k f fd ps sp) (hr : Room k X.A) (hb : Binds X.K fd ps []) (hx : Passes CX X E) : OpR X (compareOp .Eq) (rEqY X.K C sp E) := by
  intro pins s σ H x y v u Q I rx ry h
  obtain ⟨p, dp, fp, ty, rfl, hp, hy, hs, k⟩ := h
  cases rx
  obtain ⟨ox, od, J, _⟩ := ins_inst I hp
  obtain ⟨P, Z, hP, _⟩ := kit_of I ry hy
  obtain ⟨m, Fr⟩ := I.fr
  show wpAny _ _ (richCompare .Eq (.ref p) u) _ _ _
  refine PySem.W.cmp_K (op := .Eq) (tb := .type ty) hr.units0 Fr I.ok.mod.kin J (Z.ty _ _ I.kIn hP) (not_first hs) c.at_ c.fn ?_
  exact wpAny_mono (run_fn (us := [.ref p, u]) (vs := [.ref p, y]) (dvs := []) F hr hb .nil hx I (.cons rfl (.cons ry .nil)) k) (fun v s' z => back_of z) fun _ _ z => z
theorem op_neY (c : EqC X.K C f) (F : FnOk X.prog X.w X.K X.mg X.base CX k f fd ps sp) (hr : Room (k + 1) X.A) (hb : Binds X.K fd ps []) (hx : Passes CX X E) : OpR X (compareOp .NotEq) (rNeY X.K C sp E) := by
  intro pins s σ H x y v u Q I rx ry h
  obtain ⟨p, dp, fp, ty, rfl, hp, hy, hs, k⟩ := h
  cases rx
  obtain ⟨ox, od, J, _⟩ := ins_inst I hp
  obtain ⟨P, Z, hP, _⟩ := kit_of I ry hy
  refine ne_own (hu_of hr) I.kIn J (Z.ty _ _ I.kIn hP) (not_first hs) c.hm c.ne c.at_ c.fn ?_
  refine wpAny_mono (run_fn1 (us := [.ref p, u]) (vs := [.ref p, y]) F hr hb hx I (.cons rfl (.cons ry .nil)) k) (fun v s' z => ?_) fun _ _ z => z
  obtain ⟨v', H', I', rv, b, rfl, qq⟩ := z
  cases rv
  exact ⟨b, rfl, .bl (!b), H', I', rfl, qq⟩
end
end Cs

set_option Elab.async false
set_option linter.all false
set_option maxRecDepth 100000
set_option maxHeartbeats 4000000
/-! repr(o) by an own __repr__. -/
namespace Cs
open PySem PySem.Spec PyProof.Rows L2
/-- isinstance by the class's own facts -/
theorem kit_by {K : PySem.W.Frag} {C : Addr} {t : Value} {b : Bool} (h1 : PySem.W.isClsIn K C = true) (h2 : PySem.W.typeIn K (.ref C) = some (.type "type")) (h : PySem.W.subIn K t (.ref C) = some b) (hn : (t == Value.ref C) = false) : PySem.W.kitOne K t (.ref C) = some b := by
  have h1' : (PySem.W.clsIn K C).isSome = true := h1
  unfold PySem.W.kitOne PySem.W.kitCls
  simp [hn, h1', h2, h]
theorem kit_ty0 {K : PySem.W.Frag} {C : Addr} {ty : String} {b : Bool} (h1 : PySem.W.isClsIn K C = true) (h2 : PySem.W.typeIn K (.ref C) = some (.type "type")) (h : PySem.W.subIn K (.type ty) (.ref C) = some b) : PySem.W.kitOne K (.type ty) (.ref C) = some b :=
  kit_by h1 h2 h (beq_eq_false_iff_ne.mpr fun q => by cases q)
/-- an f-string's reading by a name -/
def tJn (ts : List TE) : TE := fun σ H Q => tJs ts Str.empty σ H fun out H1 => Q (.str out) H1
theorem pe_jn {X : Cx} {v1 v2 : Expr} {rest : List Expr} {ts : List TE} {pos : Pos} (h : PJ X (v1 :: v2 :: rest) ts) : PE X (.JoinedStr (v1 :: v2 :: rest) pos) (tJn ts) := pe_joined h
section
variable {X : Cx} {CX : CXT} {k : Nat} {f C : Addr} {fd : FuncData} {ps : List Str} {sp : Sp} {E : XK}
def rReprO (C : Addr) (sp : Sp) (E : XK) : List V → Hp → VK → Prop := fun xs H Q => ∃ a dx fs, xs = [.ref a] ∧ H a = some (.ins C dx fs) ∧ sp [.ref a] H (fun v H2 => ∃ z : Str, v = .str z ∧ Q (.str z) H2) E
theorem call_reprO (c : Spc X.K C "__repr__" f) (F : FnOk X.prog X.w X.K X.mg X.base CX k f fd ps sp) (hr : Room (k + 1) X.A) (hb : Binds X.K fd ps []) (hx : Passes CX X E) : CallR X (.builtin "repr") (rReprO C sp E) := by
  intro pins s σ H xs us Q I r h
  obtain ⟨a, dx, fs, rfl, ha, q⟩ := h
  rw [Vals.ref1 r]
  obtain ⟨ox, od, J, _⟩ := ins_inst I ha
  obtain ⟨m, Fr⟩ := I.fr
  refine PySem.W.repr_K (hu_of hr) Fr I.ok.mod.kin J c.at_ c.fn (wpAny_mono (run_fn1 (us := [.ref a]) (vs := [.ref a]) F hr hb hx I (.cons rfl .nil) q) (fun v s' z => ?_) fun _ _ z => z)
  obtain ⟨v0, H2, I2, rv, n, e, q2⟩ := z
  subst e
  obtain ⟨tk, rfl⟩ := rv
  exact ⟨.str n, H2, I2, ⟨tk, rfl⟩, q2⟩
end
end Cs

set_option Elab.async false
set_option linter.all false
set_option maxRecDepth 100000
set_option maxHeartbeats 4000000
/-! list(text); x in o, bool(o) by own methods; C(k1=v1, ..) where __init__ takes **d. -/
namespace Cs
open PySem PySem.Spec PyProof.Rows L2
/-- the signs of a text -/
def signsV (z : Str) : List V := z.cps.toList.map fun c => V.str ⟨#[c]⟩
theorem vals_pw : ∀ {xs : List V} {us : List Value}, xs.length = us.length → (∀ (i : Nat) x u, xs[i]? = some x → us[i]? = some u → RelV x u) → Vals xs us
  | [], [], _, _ => .nil
  | x :: xs, u :: us, hl, h => .cons (h 0 x u rfl rfl) (vals_pw (Nat.succ.inj hl) fun i a b ha hb => h (i + 1) a b ha hb)
  | [], _ :: _, hl, _ => by cases hl
  | _ :: _, [], hl, _ => by cases hl
section
variable {X : Cx} {CX : CXT} {k : Nat} {f C : Addr} {fd : FuncData} {ps : List Str} {sp : Sp} {E : XK}
theorem call_listS (hc : X.calm = true) : CallR X (.type "list") (fun xs H Q => ∃ z : Str, xs = [.str z] ∧ z.length ≤ sizeLine ∧ ∀ q, H q = none → Q (.ref q) (upd H q (.lst (signsV z)))) := by
  intro pins s σ H xs us Q I r h
  obtain ⟨z, rfl, hz, q⟩ := h
  obtain ⟨tk, rfl⟩ : ∃ tk, us = [Value.str z tk] := by
    cases r with
    | cons r rr =>
      cases rr
      obtain ⟨tk, rfl⟩ := r
      exact ⟨tk, rfl⟩
  refine call_list_str (I.ok.hd hc) z tk (hn := hz) fun h' tk' acc c' hk e' hi => ?_
  have hl : acc.toList.length = z.cps.size := by rw [Array.length_toList]; exact hi.1
  refine ⟨.ref s.heap.objs.size, upd H s.heap.objs.size (.lst (signsV z)), I.laid hk (Nat.le_refl _) (show ObjOk X.prog X.w _ _ _ (.lst (signsV z)) from ⟨?_, acc.toList, c', vals_pw ?_ fun i x u hx hu => ?_, ?_⟩), rfl, q _ (I.hok.fresh (Nat.le_refl _))⟩
  · unfold signsV
    rw [List.length_map, Array.length_toList]
    exact hz
  · unfold signsV
    rw [List.length_map, Array.length_toList]
    exact hl.symm
  · obtain ⟨c, u', hc', rfl⟩ := hi.2 i u (by rw [← Array.getElem?_toList]; exact hu)
    unfold signsV at hx
    rw [List.getElem?_map, Array.getElem?_toList, hc'] at hx
    cases hx
    exact ⟨u', rfl⟩
  · rw [Array.toArray_toList]
    exact e'
/-- x in o -/
def rInO (C : Addr) (sp : Sp) (E : XK) : R2 := fun x y H Q => ∃ p dp fp, y = .ref p ∧ H p = some (.ins C dp fp) ∧ sp [.ref p, x] H (fun v H2 => ∃ b, v = .bl b ∧ Q (.bl b) H2) E
theorem op_inO (c : Spc X.K C "__contains__" f) (F : FnOk X.prog X.w X.K X.mg X.base CX k f fd ps sp) (hr : Room k X.A) (hb : Binds X.K fd ps []) (hx : Passes CX X E) : OpR X (compareOp .In) (rInO C sp E) := by
  intro pins s σ H x y v u Q I rx ry h
  obtain ⟨p, dp, fp, rfl, hp, k⟩ := h
  cases ry
  obtain ⟨ox, od, J, _⟩ := ins_inst I hp
  obtain ⟨m, Fr⟩ := I.fr
  refine PySem.W.in_K Fr I.ok.mod.kin J c.at_ c.fn ?_
  refine wpAny_mono (run_fn (us := [.ref p, v]) (vs := [.ref p, x]) (dvs := []) F hr hb .nil hx I (.cons rfl (.cons rx .nil)) k) (fun v s' z => ?_) fun _ _ z => z
  obtain ⟨v0, H2, I2, rv, b, rfl, q2⟩ := z
  cases rv
  exact wpAny_truthy_bool ⟨.bl b, H2, I2, rfl, q2⟩
/-- bool(o) -/
def rBoolO (C : Addr) (sp : Sp) (E : XK) : List V → Hp → VK → Prop := fun xs H Q => ∃ a dx fs, xs = [.ref a] ∧ H a = some (.ins C dx fs) ∧ sp [.ref a] H (fun v H2 => ∃ b, v = .bl b ∧ Q (.bl b) H2) E
theorem meets_boolO {prog : Program} {w : World} (x : Addr) : MeetsIn prog w (Builtin.«bool.__new__» ⟨[.type "bool", .ref x], []⟩) (fun A R s => wpAny (model prog w) A.in1 (truthy (.ref x)) (fun b s' => R (.ok (.ret (.bool b))) s') (fun e s' => R (.error e) s') s) :=
  .of_wp fun A R s h => by
    have f1 := F.conv_sub_bool
    obtain ⟨hp, g, d, tk, os⟩ := s
    repeat (any_goals (first | assumption | (refine wpAny_bind (m := truthy (.ref x)) (wpAny_mono h (fun b s' z => ?_) fun _ _ z => z)) | wp_step))
    all_goals first | exact ⟨_, rfl, z⟩ | exact z | skip
theorem bool_own {prog : Program} {w : World} {A : Around} {E : Value → Shared → Prop} {s : Shared} {K : PySem.W.Frag} {h₀ : Heap} {L x C f : Addr} {m : Str → Option Value} {ox : Obj} {od : Option Obj} {Q : Value → Shared → Prop} (Fh : Fr h₀ L s.heap m) (X₀ : K.In h₀) (I : PySem.W.InstAt s.heap x ox C od)
    (hs : PySem.W.findIn K (.ref C) "__bool__" = some (some (.ref f))) (hf : PySem.W.isFn K (.ref f) = true) (h : wpAny (model prog w) A.in1.in1 (call (.ref f) [.ref x]) (PySem.W.BoolBack fun b s' => Q (.bool b) s') E s) : wpAny (model prog w) A (call (.type "bool") [.ref x]) Q E s := by
  refine callType_newIn F.called_bool F.newNe_bool (F.typeCall_bool_1 _) (F.newCall_bool_1 _) (fun obj => F.args_object_init_2 obj _) F.entry_bool_new (meets_boolO x) ?_
  refine wpAny_mono (PySem.W.truthy_K Fh X₀ I hs hf h) (fun b s' z => ?_) fun _ _ z => z
  exact ⟨rfl, z⟩
theorem run_fn2 {pins : List (Addr × Obj)} {σ : L2.St} {H : Hp} {s : Shared} {Q : VK} {us : List Value} {vs : List V} (F : FnOk X.prog X.w X.K X.mg X.base CX k f fd ps sp) (hr : Room (k + 2) X.A) (hb : Binds X.K fd ps []) (hx : Passes CX X E)
    (I : Inv X pins σ H s) (r : Vals vs us) (h : sp vs H Q E) : wpAny (model X.prog X.w) X.A.in1.in1 (call (.ref f) us) (EP X pins σ Q) X.xe s := by
  have hl : us.length = ps.length := by rw [← r.length]; exact F.len _ _ _ _ h
  have hb' := hb s us I.kIn (by rw [List.append_nil]; exact hl)
  rw [List.append_nil] at hb'
  refine wpAny_call (codeAny_mono (F.run X.A.in1.in1 X.stack s H ⟨us, []⟩ us vs Q E hr.in1.in1 I.env0.in1.in1 hb' r h) fun r s' hq => ?_)
  cases r with
  | error e => exact hx pins σ H s e s' I hq
  | ok fl =>
    cases fl with
    | ret u => exact I.after hq
    | next => exact False.elim hq
    | brk => exact False.elim hq
    | cont => exact False.elim hq
theorem call_boolO (c : Spc X.K C "__bool__" f) (F : FnOk X.prog X.w X.K X.mg X.base CX k f fd ps sp) (hr : Room (k + 2) X.A) (hb : Binds X.K fd ps []) (hx : Passes CX X E) : CallR X (.type "bool") (rBoolO C sp E) := by
  intro pins s σ H xs us Q I r h
  obtain ⟨a, dx, fs, rfl, ha, q⟩ := h
  rw [Vals.ref1 r]
  obtain ⟨ox, od, J, _⟩ := ins_inst I ha
  obtain ⟨m, Fr⟩ := I.fr
  refine bool_own Fr I.ok.mod.kin J c.at_ c.fn (wpAny_mono (run_fn2 (us := [.ref a]) (vs := [.ref a]) F hr hb hx I (.cons rfl .nil) q) (fun v s' z => ?_) fun _ _ z => z)
  obtain ⟨v0, H2, I2, rv, n, e, q2⟩ := z
  subst e
  cases rv
  exact ⟨.bl n, H2, I2, rfl, q2⟩
/-- bool(d), d a dict -/
theorem call_boolD : CallR X (.type "bool") (fun xs H Q => ∃ (a : Addr) (kvs : List (Key × V)), xs = [.ref a] ∧ H a = some (.dK kvs) ∧ Q (.bl (!kvs.isEmpty)) H) := by
  intro pins s σ H xs us Q I r h
  obtain ⟨a, kvs, rfl, ha, q⟩ := h
  rw [Vals.ref1 r]
  obtain ⟨hz, hs, vs, kv, dd⟩ := (show ObjOk X.prog X.w H s.heap a (.dK kvs) from I.hok a _ ha)
  have hl : kvs.length = vs.length := Paired.length kv
  refine callType_newIn F.called_bool F.newNe_bool (F.typeCall_bool_1 _) (F.newCall_bool_1 _) (fun obj => F.args_object_init_2 obj _) F.entry_bool_new (meets_boolO a) ?_
  have l63 := line63
  refine wpAny_truthy_dict (knd := mixKind X.prog X.w) hs dd (by omega) ?_
  refine ⟨rfl, .bl (!kvs.isEmpty), H, I.tok _, ?_, q⟩
  show Value.bool _ = Value.bool _
  congr 2
  cases kvs <;> cases vs <;> first | rfl | (simp at hl)
end
/-! ### keywords into a new dict -/
theorem push_update (h : Heap) (o : Obj) (g : Obj → Obj) : (h.push o).update h.objs.size g = h.push (g o) := by
  obtain ⟨objs, l⟩ := h
  show (⟨(objs.push o).modify objs.size g, l⟩ : Heap) = ⟨objs.push (g o), l⟩
  congr 1
  apply Array.ext
  · simp
  · intro i h1 h2
    rw [Array.getElem_modify]
    by_cases c : i = objs.size
    · subst c
      simp
    · have hi : i < objs.size := by simp at h2; omega
      rw [if_neg (fun q => c q.symm), Array.getElem_push_lt hi, Array.getElem_push_lt hi]
theorem nsSet_push {prog : Program} {w : World} {A : Around} {E : Value → Shared → Prop} {h : Heap} {g : Array GenState} {dr : Drawn} {t : Nat} {os : OsState} {es : List DictEntry} {n : Nat} {k : Str} {v : Value} {Q : Unit → Shared → Prop}
    (hs : ∀ e ∈ es, e.key.isStr k = false) (hr : ∀ e ∈ es, e.refKey = false)
    (hq : Q () ⟨h.push (PySem.W.dictOf (es ++ [⟨PyData.keyHash w.params k, .str k t, v⟩]) (n + 1)), g, dr, t + 1, os⟩) :
    wpAny (model prog w) A (nsSet h.objs.size k v) Q E ⟨h.push (PySem.W.dictOf es n), g, dr, t, os⟩ := by
  have e1 : es.any (·.key.isStr k) = false := List.any_eq_false.mpr fun e he => by rw [hs e he]; exact Bool.false_ne_true
  have e2 : es.any (·.refKey) = false := List.any_eq_false.mpr fun e he => by rw [hr e he]; exact Bool.false_ne_true
  have e : Obj.putName k (PyData.keyHash w.params k) (.str k t) v (PySem.W.dictOf es n) = PySem.W.dictOf (es ++ [⟨PyData.keyHash w.params k, .str k t, v⟩]) (n + 1) := by
    rw [PySem.W.putName_dict, PySem.W.putL_new hs]
    show PySem.W.dictOf _ (if es.any (·.key.isStr k) then n else n + 1) = _
    rw [e1, if_neg Bool.false_ne_true]
  have D : (h.push (PySem.W.dictOf es n)).get? h.objs.size = some (PySem.W.dictOf es n) := Heap.get?_push_size _ rfl
  have c : aRefKeyMayBeTheName k es.toArray = false := by
    rw [aRefKeyMayBeTheName_at, ← Array.any_toList, ← Array.any_toList]
    show (!es.any (·.key.isStr k) && es.any (·.refKey)) = false
    rw [e2, Bool.and_false]
  unfold nsSet
  refine wpAny_bind (wpAny_bind (wpAny_askSetting (wpAny_pure (wpAny_bind (wpAny_mkText (wpAny_bind (wpAny_loadPart D ?_)))))))
  dsimp only
  rw [c]
  refine wpAny_updatePart D ?_
  show Q () ⟨(h.push (PySem.W.dictOf es n)).update h.objs.size (Obj.putName k (PyData.keyHash w.params k) (.str k t) v), g, dr, t + 1, os⟩
  rw [push_update, e]
  exact hq
theorem fill_push {prog : Program} {w : World} {A : Around} {E : Value → Shared → Prop} {h : Heap} {g : Array GenState} {dr : Drawn} {os : OsState} {Q : PUnit → Shared → Prop} : ∀ (ex : List (Str × Value)) (t : Nat) (es : List DictEntry) (n : Nat),
    (∀ e ∈ es, ∀ x ∈ ex, e.key.isStr x.1 = false) → (∀ e ∈ es, e.refKey = false) → (ex.map (·.1)).Nodup →
    Q ⟨⟩ ⟨h.push (PySem.W.dictOf (es ++ PySem.W.kwEs w.params t ex) (n + ex.length)), g, dr, t + ex.length, os⟩ →
    wpAny (model prog w) A (forIn ex PUnit.unit fun x _ => (nsSet h.objs.size x.1 x.2 >>= fun _ => pure (ForInStep.yield PUnit.unit))) Q E ⟨h.push (PySem.W.dictOf es n), g, dr, t, os⟩
  | [], t, es, n, _, _, _, hq => by
    rw [List.forIn_nil]
    refine wpAny_pure ?_
    have e : es ++ PySem.W.kwEs w.params t [] = es := List.append_nil _
    rw [e] at hq
    exact hq
  | x :: r, t, es, n, hs, hr, hn, hq => by
    obtain ⟨hn1, hn2⟩ := List.nodup_cons.mp (show (x.1 :: r.map (·.1)).Nodup from hn)
    rw [List.forIn_cons]
    refine wpAny_bind (wpAny_bind (nsSet_push (fun e he => hs e he x (.head _)) hr (wpAny_pure ?_)))
    show wpAny (model prog w) A (forIn r PUnit.unit fun x _ => (nsSet h.objs.size x.1 x.2 >>= fun _ => pure (ForInStep.yield PUnit.unit))) Q E _
    refine fill_push r (t + 1) _ _ (fun e he y hy => ?_) (fun e he => ?_) hn2 ?_
    · rcases List.mem_append.mp he with he | he
      · exact hs e he y (.tail _ hy)
      · obtain rfl := List.mem_singleton.mp he
        show (x.1 == y.1) = false
        exact beq_eq_false_iff_ne.mpr fun q => hn1 (by rw [q]; exact List.mem_map_of_mem hy)
    · rcases List.mem_append.mp he with he | he
      · exact hr e he
      · obtain rfl := List.mem_singleton.mp he
        rfl
    · have t1 : t + 1 + r.length = t + (r.length + 1) := by omega
      have t2 : n + 1 + r.length = n + (r.length + 1) := by omega
      rw [t1, t2, List.append_assoc]
      exact hq
/-- the dict that the keywords make -/
def kwK (ks : List Str) (zs : List V) : List (Key × V) := (ks.zip zs).map fun q => (Sum.inr q.1, q.2)
theorem kw_pairs (P : Program) (w : World) : ∀ (ex : List (Str × Value)) (t : Tok), Pairs (mixKind P w) (PySem.W.kwEs w.params t ex) (ex.map fun x => ((Sum.inr x.1 : Key), x.2))
  | [], _ => Pairs.nil
  | x :: r, t => Pairs.cons (keyIs_str x.1 t) rfl (kw_pairs P w r (t + 1))
theorem kw_kv : ∀ {ks : List Str} {zs : List V} {ws : List Value}, Vals zs ws → KV (kwK ks zs) ((ks.zip ws).map fun x => ((Sum.inr x.1 : Key), x.2))
  | [], _, _, _ => by
    unfold kwK
    simp only [List.zip_nil_left, List.map_nil]
    exact .nil
  | _ :: _, _, _, .nil => .nil
  | k :: ks, _, _, .cons r t => .cons ⟨rfl, r⟩ (kw_kv t)
theorem kw_fst {ks : List Str} {ws : List Value} (hz : ws.length = ks.length) : (ks.zip ws).map (·.1) = ks := List.map_fst_zip (by omega)
theorem dk_kw {P : Program} {w : World} {H : Hp} {ks : List Str} {zs : List V} {ws : List Value} (h : Heap) (hb : sysModules < h.objs.size) (t : Nat) (hn : ks.Nodup) (r : Vals zs ws) (hz : zs.length = ks.length) (hl : ks.length ≤ 1000) :
    ObjOk P w H (h.push (PySem.W.dictOf (PySem.W.kwEs w.params t (ks.zip ws)) (ks.zip ws).length)) h.objs.size (.dK (kwK ks zs)) := by
  have hw : ws.length = ks.length := by rw [← r.length]; exact hz
  refine ⟨?_, beq_eq_false_iff_ne.mpr (Ne.symm (Nat.ne_of_lt hb)), _, kw_kv r, _, _, _, Heap.get?_push_size _ rfl, ⟨rfl, rfl, rfl⟩, rfl, fun e he => ?_, kw_pairs P w _ t, ?_⟩
  · unfold kwK
    rw [List.length_map, List.length_zip]
    exact Nat.le_trans (show min ks.length zs.length ≤ 1000 by omega) (by decide)
  · obtain ⟨k, u, e1, e2⟩ := PySem.W.kwEs_key _ _ e (by simpa using he)
    exact ⟨Sum.inr k, by rw [e1]; exact keyIs_str k u, e2⟩
  · rw [List.map_map]
    show ((ks.zip ws).map ((fun x : Str => (Sum.inr x : Key)) ∘ fun x => x.1)).Nodup
    rw [← List.map_map, kw_fst hw]
    exact List.Pairwise.map _ (fun a b n q => n (Sum.inr.inj q)) hn
/-- a def called with one value and keywords -/
def FnKw (P : Program) (w : World) (K : PySem.W.Frag) (mg : Str → Option Value) (base : Heap) (CX : CXT) (k : Nat) (f : Addr) (ks : List Str) (sp : Sp) : Prop :=
  ∀ (A : Around) (outer : List Env) (s : Shared) (H : Hp) (u : Value) (v : V) (ws : List Value) (zs : List V) (Q : VK) (E : XK), Room k A → Env0 P w K mg base A outer s H → RelV v u → Vals zs ws → zs.length = ks.length → sp (v :: zs) H Q E →
    codeAny (model P w) A (.call (.ref f) ⟨[u], ks.zip ws⟩) (CR CX outer P w H s Q E) s
section
variable {CX : CXT} {P : Program} {w : World} {K : PySem.W.Frag} {mg : Str → Option Value} {base : Heap} {k : Nat} {f : Addr} {name qual : Str} {params : Arguments} {body : List Stmt} {scope : Scope} {dV kV doc pm cdv ct oc : Value} {an od : Option Addr}
  {osl : Array (Option Value)} {N ks : List Str} {sp : Sp} {p1 pv pd : Str}
/-- def f(a, *v, **d), called with a and keywords -/
theorem fn_kw (lk : K.lookup f = some ⟨oc, od, .func (PySem.W.fnOf name qual params body scope dV kV doc pm an cdv ct), osl⟩) (hcd : PySem.W.codeIn K cdv qual = true) (S : FnScope N [p1, pv, pd] scope) (hCX : StX.CXUp CX) (hn : ks.Nodup) (hl : ks.length ≤ 1000)
    (hb : ∀ (u : Value) (ws : List Value), ws.length = ks.length → bindArgs (PySem.W.fnOf name qual params body scope dV kV doc pm an cdv ct) ⟨[u], ks.zip ws⟩ =
      (newTuple [] >>= fun t => (alloc ({ cls := .type "dict", data := .dict #[] } : Obj) : Sem Addr) >>= fun d => (forIn (ks.zip ws) PUnit.unit fun x _ => (nsSet d x.1 x.2 >>= fun _ => pure (ForInStep.yield PUnit.unit))) >>= fun _ => pure [(p1, u), (pv, t), (pd, Value.ref d)]))
    (hbody : ∀ (A : Around) (outer : List Env) (s : Shared) (H : Hp) (vs : List V) (Q : VK) (E : XK), Room k (A.deeper (envOfC qual scope s.heap.objs.size f cdv)) → sp vs H Q E →
      ∃ t, PSs (cxOf CX P w K mg base N qual scope f cdv A outer s H E) body t ∧ t { nx := fun _ H' => Q .non H', rt := Q } (start N vs) H) :
    FnKw P w K mg base CX (k + 1) f ks (fun vs H Q E => ∃ v zs, vs = v :: zs ∧ ∀ p d, H p = Option.none → H d = Option.none → d ≠ p → sp [v, V.ref p, V.ref d] (upd (upd H p (.tup [])) d (.dK (kwK ks zs))) Q E) := by
  intro A outer s H u v ws zs Q E hr e0 rv r hz hsp
  obtain ⟨v', zs', ev, hq⟩ := hsp
  obtain ⟨rfl, rfl⟩ := List.cons.inj ev
  obtain ⟨hp, g, dr, tk, os⟩ := s
  have hn0 : H hp.objs.size = Option.none := e0.hok.fresh (Nat.le_refl _)
  have hw : ws.length = ks.length := by rw [← r.length]; exact hz
  refine StX.run_bnd (ps := [p1, pv, pd]) lk hcd S hr e0 (G := fun xs H2 => ∃ p d, H p = Option.none ∧ H d = Option.none ∧ d ≠ p ∧ xs = [v, V.ref p, V.ref d] ∧ H2 = upd (upd H p (.tup [])) d (.dK (kwK ks zs))) (fun A' Ex Q' h => ?_) fun s2 H2 xs ⟨p, d, hp', hd, hne, ex, eH⟩ hr' => ?_
  · rw [hb u ws hw]
    refine wpAny_bind (wpAny_newTuple (wpAny_bind (wpAny_alloc (wpAny_bind ?_))) (by show 0 ≤ sizeLine; decide))
    have new : ObjOk P w (upd H hp.objs.size (.tup [])) (hp.push ({ cls := .type "tuple", data := .seq (([] : List Value)).toArray } : Obj)) hp.objs.size (.tup []) := ⟨by show 0 ≤ sizeLine; decide, [], .nil, ⟨_, Heap.get?_push_size _ rfl, rfl, _, rfl⟩⟩
    have e1 := StX.env0_laid e0 new
    have un1 := StX.un_laid (fs := frs outer) (s := ⟨hp, g, dr, tk, os⟩) (o := ({ cls := .type "tuple", data := .seq (([] : List Value)).toArray } : Obj)) (u := .tup []) hn0
    have hn2 := e1.hok.fresh (Nat.le_refl _)
    have sz : (hp.push ({ cls := .type "tuple", data := .seq (([] : List Value)).toArray } : Obj)).objs.size = hp.objs.size + 1 := Heap.size_push _ _
    have ne : (hp.push ({ cls := .type "tuple", data := .seq (([] : List Value)).toArray } : Obj)).objs.size ≠ hp.objs.size := by
      rw [sz]
      exact Nat.succ_ne_self _
    have hd : H (hp.push ({ cls := .type "tuple", data := .seq (([] : List Value)).toArray } : Obj)).objs.size = Option.none := e0.hok.fresh (by show _ ≤ _; rw [sz]; exact Nat.le_succ _)
    have kp1 : ∀ b o, hp.get? b = some o → (hp.push ({ cls := .type "tuple", data := .seq (([] : List Value)).toArray } : Obj)).get? b = some o := fun b o q => Heap.get?_push_of_some _ q
    generalize hp.push ({ cls := .type "tuple", data := .seq (([] : List Value)).toArray } : Obj) = hp1 at e1 un1 hn2 ne hd kp1
    refine fill_push (ks.zip ws) tk [] 0 (fun _ he => nomatch he) (fun _ he => nomatch he) (by rw [kw_fst hw]; exact hn) (wpAny_pure ?_)
    rw [List.nil_append, Nat.zero_add]
    have e2 := StX.env0_laid (u := .dK (kwK ks zs)) (o := PySem.W.dictOf (PySem.W.kwEs w.params tk (ks.zip ws)) (ks.zip ws).length) e1 (dk_kw hp1 (StX.env0_big e1) tk hn r hz hl)
    have un2 := un1.trans (StX.un_laid (fs := frs outer) (s := (⟨hp1, g, dr, tk, os⟩ : Shared)) (o := PySem.W.dictOf (PySem.W.kwEs w.params tk (ks.zip ws)) (ks.zip ws).length) (u := .dK (kwK ks zs)) hn2)
    have z := h ⟨hp1.push (PySem.W.dictOf (PySem.W.kwEs w.params tk (ks.zip ws)) (ks.zip ws).length), g, dr, tk + (ks.zip ws).length, os⟩ _ [v, V.ref hp.objs.size, V.ref hp1.objs.size] [u, Value.ref hp.objs.size, Value.ref hp1.objs.size]
      ⟨e2.frames, e2.mod, e2.bs, e2.bsz, e2.funs, e2.frf, e2.hok, e2.bare⟩ un2 rfl (fun e s' => hCX outer _ H _ _ E e s' un2 ?_ rfl) (.cons rv (.cons rfl (.cons rfl .nil))) rfl ⟨_, _, hn0, hd, ne, rfl, rfl⟩
    · exact z
    · exact fun b o q => Heap.get?_push_of_some _ (kp1 b o q)
  · subst ex eH
    exact hbody A outer s2 _ _ Q E hr' (hq p d hp' hd hne)
end
/-- C(k1=v1, ..) -/
def tMkKw (C : Addr) (sp : Sp) (E : XK) (n : Nat) (tk : TA) : TE := fun σ H Q => tk σ H fun zs H1 => zs.length = n ∧ ∀ x dx, H1 x = none → H1 dx = none → dx ≠ x → sp (.ref x :: zs) (upd (upd H1 dx (.own x)) x (.ins C dx [])) (fun v H2 => v = .non ∧ Q (.ref x) H2) E
section
variable {X : Cx} {CX : CXT} {k : Nat} {f C : Addr} {sp : Sp} {E : XK} {x : Str} {p pos : Pos} {kws : List Keyword} {ks : List Str} {tk : TA}
theorem run_makeKw {pins : List (Addr × Obj)} {σ : L2.St} {H : Hp} {s : Shared} {Q : VK} {ws : List Value} {zs : List V} (M : Mk X.K C f) (F : FnKw X.prog X.w X.K X.mg X.base CX k f ks sp) (hr : Room (k + 1) X.A) (hx : Passes CX X E) (I : Inv X pins σ H s) (r : Vals zs ws) (hz : zs.length = ks.length)
    (h : ∀ x dx, H x = none → H dx = none → dx ≠ x → sp (V.ref x :: zs) (upd (upd H dx (.own x)) x (.ins C dx [])) (fun v H2 => v = .non ∧ Q (.ref x) H2) E) :
    wpAny (model X.prog X.w) X.A (call (.ref C) [] (ks.zip ws)) (EP X pins σ Q) X.xe s := by
  have hq := h (s.heap.objs.size + 1) s.heap.objs.size (I.hok.fresh (Nat.le_succ _)) (I.hok.fresh (Nat.le_refl _)) (Nat.ne_of_lt (Nat.lt_succ_self _))
  have I2 := Inv.made (C := C) I
  refine wpAny_call (make_map (f := f) I.kIn M.makes M.init (beq_iff_eq.mp M.fn) (codeAny_mono (F _ X.stack _ _ (Value.ref (s.heap.objs.size + 1)) (V.ref (s.heap.objs.size + 1)) ws zs _ E (hr.make C [] (ks.zip ws)) (I2.env0.make C [] (ks.zip ws)) rfl r hz hq) fun r s' hq' => ?_))
  cases r with
  | error e => exact hx pins σ _ _ e s' I2 hq'
  | ok fl =>
    cases fl with
    | ret u =>
      obtain ⟨v, H', I3, rv, ev, q3⟩ := I2.after hq'
      subst ev
      exact ⟨rv, ⟨V.ref (s.heap.objs.size + 1), H', I3, rfl, q3⟩⟩
    | next => exact False.elim hq'
    | brk => exact False.elim hq'
    | cont => exact False.elim hq'
theorem pe_mkKw (M : Mk X.K C f) (F : FnKw X.prog X.w X.K X.mg X.base CX k f ks sp) (hr : Room (k + 1) X.A) (hg : Gl X x) (hm : X.mg x = some (.ref C)) (hx : Passes CX X E) (hkw : PK X kws tk) (hdb : (x == ("__debug__" : Str)) = false := by decide)
    (hall : (backToKw pos (keywordEach kws X.env)).all (·.1.isSome) = true := by rfl) (hks : (backToKw pos (keywordEach kws X.env)).filterMap (·.1) = ks := by rfl)
    (hpl : ((backTo pos (starEach [] X.env)).any (·.1) || (backToKw pos (keywordEach kws X.env)).any (·.1.isNone)) = false := by rfl) :
    PE X (.Call (.Name x p) [] kws pos) (tMkKw C sp E ks.length tk) := by
  refine ⟨fun pins s σ H Q I h => ?_⟩
  refine wpAny_Call_Name_kw (ld_glob I hg hm ?_ hdb)
  refine PySem.W.callWith_KW0 (h₀ := X.base) I.ok.mod.kin M.kp hall (thn (hkw.run pos pins s σ H _ I h) fun ws s2 ⟨zs, H2, I2, rz, l2, q2⟩ => ⟨I2.kIn, ?_⟩) hpl
  rw [hks]
  exact run_makeKw M F hr hx I2 rz l2 q2
end
end Cs

set_option Elab.async false
set_option linter.all false
set_option maxRecDepth 100000
set_option maxHeartbeats 4000000
/-! Counts.__init__ with keywords and no pairs. -/
namespace Cs
open PySem L2
theorem prl_items {H : Hp} : ∀ {nt : Tab} {ts : List Addr}, Paired (fun (t : Addr) (q : Key × V) => H t = some (.tup [kV q.1, q.2])) ts (tv nt) → PrL H (ts.map V.ref) nt
  | [], [], _ => .nil
  | q :: nt, t :: ts, .cons h r => .cons ⟨t, rfl, h⟩ (prl_items r)
theorem kw_tv : ∀ (ks : List Str) (ns : List Int), kwK ks (ns.map V.int) = tv (ks.zip ns)
  | [], ns => by unfold kwK tv; simp
  | k :: ks, [] => by unfold kwK tv; simp
  | k :: ks, n :: ns => by
    have := kw_tv ks ns
    unfold kwK tv at this ⊢
    simp only [List.map_cons, List.zip_cons_cons]
    rw [this]
/-- __init__ behind its binding: no pairs, the keywords a dict at dn -/
def spInitKB (C : Addr) : Sp := fun vs H Q _ => ∃ (x pt dn dx : Addr) (nt : Tab), vs = [.ref x, .ref pt, .ref dn] ∧ H x = some (.ins C dx []) ∧ H pt = some (.tup []) ∧ H dn = some (.dK (tv nt)) ∧ (keys nt).Nodup ∧ GoodPs nt ∧ nt.length ≤ 1000 ∧
  ∀ (d : Addr) (H' : Hp), H d = none → Cnt C H' x d (noZero (addUp nt)) → (∀ b o, H b = some o → b ≠ x → H' b = some o) → Q .non H'
/-- __init__ called with keywords -/
def spInitK (C : Addr) (ks : List Str) : Sp := fun vs H Q _ => ∃ (x dx : Addr) (ns : List Int), vs = .ref x :: ns.map V.int ∧ H x = some (.ins C dx []) ∧ ns.length = ks.length ∧ (∀ n ∈ ns, Small n) ∧
  ∀ (d : Addr) (H' : Hp), H d = none → Cnt C H' x d (noZero (addUp (ks.zip ns))) → (∀ b o, H b = some o → b ≠ x → H' b = some o) → Q .non H'
section
variable {P : Program} {w : World} {K : PySem.W.Frag} {mg : Str → Option Value} {base : Heap}
theorem initK_body {C f fIw fIs : Addr} {fdIw fdIs : FuncData} {cdv : Value} {A : Around} {outer : List Env} {s : Shared} {H : Hp} {vs : List V} {Q : VK} {E : XK} (g : Bi mg) (cl : Cls K C) (nH : NoAttr K C "held")
    (FIw : Def P w K mg base CX0 1 "is_word" ["thing"] (spIsWord K) fIw fdIw) (FIs : Def P w K mg base CX0 2 "is_small" ["thing"] (spIsSmall K) fIs fdIs)
    (hr : Room 2 (A.deeper (PyProof.Rows.envOfC "Counts.__init__" (defScope s_Counts_init) s.heap.objs.size f cdv))) (h : spInitKB C vs H Q E) :
    ∃ t, PSs (cxOf CX0 P w K mg base ["self", "pairs", "numbers", "word", "held", "number"] "Counts.__init__" (defScope s_Counts_init) f cdv A outer s H E).nox (defBody s_Counts_init) t ∧ t { nx := fun _ H' => Q .non H', rt := Q } (L2.start ["self", "pairs", "numbers", "word", "held", "number"] vs) H := by
  obtain ⟨GIw, mIw, _, bIw⟩ := id FIw
  obtain ⟨GIs, mIs, _, bIs⟩ := id FIs
  have hrIw : Room 1 _ := hr.mono (by decide)
  have hrIs : Room 2 _ := hr
  obtain ⟨x, pt, dn, dx, ps, rfl, hx, hpt, hdn, hnd, hG, hl, k⟩ := h
  have hW : WdP ps := fun r m => (hG r m).1
  have hu := hu_of hr
  refine ⟨_, (pss_cons (ps_lock (ps_for PassesOwn.never rfl (pi_keys (pv 2)) (pg_name (i := 3) sc_Counts_init.nd rfl (Or.inl rfl)) (pss_cons (ps_if (pt_not (pt_val (pe_call GIw hrIw rfl mIw FIw.kp bIw .nil pass0 (pa_cons (pv 3) pa_nil)))) (pss_one ps_never) pss_nil)
      (pss_one (ps_if (pt_not (pt_val (pe_call GIs hrIs rfl mIs FIs.kp bIs .nil pass0 (pa_cons (pe_dget hu (pv 2) (pv 3) (fun _ _ => rfl)) pa_nil)))) (pss_one ps_never) pss_nil)))))
      (pss_cons (ps_set (i := 4) sc_Counts_init.nd rfl (Or.inl rfl) pe_dnewK)
      (pss_cons (ps_for PassesOwn.never rfl (pi_list (pe_op op_cat (pe_callTy call_list_of (by rfl) g.list (by decide +kernel) (pa_cons (pv 1) pa_nil)) (LiI.pe_listItems rfl (pv 2) (by rfl) g.list (by decide +kernel)))) (pg_tup rfl (pgs_cons (pg_name (i := 3) sc_Counts_init.nd rfl (Or.inl rfl)) (pgs_cons (pg_name (i := 5) sc_Counts_init.nd rfl (Or.inl rfl)) pgs_nil))) (pss_one (ps_dput hu (pv 4) (pv 3) (pe_op op_add (pe_dget2 hu (pv 4) (pv 3) pe_int ⟨rfl, rfl, rfl, rfl⟩) (pv 5)) rfl)))
      (pss_one (ps_fld (pv 0) (pe_lock (pe_dc (own := [("word", 3), ("number", 5)]) (g := gTup K 2 (gCons (gName 3) (gCons (gName 5) gNil))) (by rfl) sc_Counts_init.nd (pi_items (pv 4)) (blkOk_by (own := [("word", 3), ("number", 5)]) (N := ["self", "pairs", "numbers", "word", "held", "number"]) (sc := defScope s_Counts_init) (by decide +kernel)) (fun _ _ _ _ _ => (pg_tup rfl (pgs_cons (pg_name (i := 3) sc_Counts_init.nd rfl (Or.inl rfl)) (pgs_cons (pg_name (i := 5) sc_Counts_init.nd rfl (Or.inl rfl)) pgs_nil)))) (fun _ _ _ _ _ => (pts_one (pt_cmpR op_ne (pv 5) pe_int (nomark _)))) (fun _ _ _ _ _ => (pv 3)) (fun _ _ _ _ _ => (pv 5)))) rfl))))), ?_⟩
  have nxd : x ≠ dn := ne_of hx hdn (by intro z; cases z)
  have npd : pt ≠ dn := ne_of hpt hdn (by intro z; cases z)
  -- for word in numbers
  refine ⟨dn, _, hdn, trivial, fun od => ?_⟩
  refine ⟨_, rfl, dn, od, rfl, .inl ⟨_, upd_same, ?_⟩⟩
  refine for_it walk_keys (fun i σ' H' => (∃ x3 : Option V, σ' = [some (.ref x), some (.ref pt), some (.ref dn), x3, none, none]) ∧ (∀ b o, H b = some o → b ≠ dn → H' b = some o) ∧ H' dn = some (.frz od (.dK (tv ps)))) ⟨⟨_, rfl⟩, fun b o e n => by rw [upd_ne n]; exact e, upd_same⟩ (fun i σ' H' _ h => h.2.2) ?_ ?_
  · rintro i v σ' H' H2 hi ⟨⟨x3, rfl⟩, k1, k2⟩ ⟨rfl, kk, vv, hv, ev⟩
    rw [tv_len] at hi
    have hi2 : (tv ps)[i]? = some (Sum.inr ps[i].1, V.int ps[i].2) := by
      unfold tv
      rw [List.getElem?_map, List.getElem?_eq_getElem hi]
      rfl
    rw [hi2] at hv
    obtain rfl : Sum.inr ps[i].1 = kk := congrArg Prod.fst (Option.some.inj hv)
    obtain rfl : v = V.str ps[i].1 := ev
    obtain ⟨hz, hn⟩ := hG _ (List.getElem_mem hi)
    refine ⟨_, rfl, .inl ⟨ps[i].1, rfl, Nat.le_trans hz.2.1 (by decide), fun H3 s3 => ?_⟩⟩
    rw [wordB_of hz]
    refine ⟨_, rfl, iteF ?_⟩
    refine ⟨_, rfl, _, rfl, dn, .int ps[i].2, rfl, ?_, .inl ⟨ps[i].2, rfl, ?_⟩⟩
    · have : DGet H3 dn (kV (Sum.inr ps[i].1)) (valV (tv ps) (Sum.inr ps[i].1)) := .inl ⟨_, _, .inr ⟨od, s3 _ _ k2⟩, rfl, rfl⟩
      rw [tv_val, look_mem hnd (show (ps[i].1, ps[i].2) ∈ ps from List.getElem_mem hi)] at this
      exact this
    rw [decide_eq_true hn.1, decide_eq_true hn.2]
    refine ⟨_, rfl, iteF ?_⟩
    exact ⟨⟨_, rfl⟩, fun b o e n => s3 _ _ (k1 b o e n), s3 _ _ k2⟩
  rintro σ' H' ⟨⟨x3, rfl⟩, k1, k2⟩
  refine ⟨k2, ?_⟩
  have sA : Same H (upd H' dn (.dK (tv ps))) := fun b o q => by
    by_cases e : b = dn
    · rw [e, upd_same, ← q, e, hdn]
    · rw [upd_ne e]
      exact k1 b o q e
  generalize upd H' dn (.dK (tv ps)) = HA at sA
  -- held = {}
  intro e heA
  have he : H e = none := sA.free heA
  have s1 : Same H (upd HA e (.dK [])) := sA.trans (Same.new heA)
  -- list(pairs) + list(numbers.items())
  refine ⟨_, rfl, pt, _, rfl, .inr (SqT.of (s1 _ _ hpt)), fun l1 hl1 => ?_⟩
  have s2 := s1.trans (Same.new (o := .lst []) hl1)
  refine ⟨_, rfl, dn, tv ps, rfl, s2 _ _ hdn, fun H3 p3 ts sm hp3 hts hnp hlst hpr => ?_⟩
  have nel : e ≠ l1 := ne_of_none upd_same hl1
  have hP0 := prl_items hpr
  generalize exs : ts.map V.ref = xs at hlst hP0
  refine ⟨l1, p3, [], xs, rfl, rfl, sm _ _ upd_same, hlst, ?_, fun l hl4 => ?_⟩
  · rw [hP0.length]
    exact Nat.le_trans (show 0 + ps.length ≤ 1000 by omega) (by decide)
  rw [List.nil_append]
  have s3 : Same H H3 := s2.trans sm
  have s4 : Same H (upd H3 l (.lst xs)) := s3.trans (Same.new hl4)
  have s34 : Same H3 (upd H3 l (.lst xs)) := Same.new hl4
  have he3 : H3 e = some (.dK []) := sm _ _ (by rw [upd_ne nel]; exact upd_same)
  have nel4 : e ≠ l := ne_of_none he3 hl4
  have hP : PrL (upd H3 l (.lst xs)) xs ps := hP0.mono fun _ _ _ q => s34 _ _ q
  have hl0 : (upd H3 l (.lst xs)) l = some (.lst xs) := upd_same
  have hee : (upd H3 l (.lst xs)) e = some (.dK []) := by rw [upd_ne nel4]; exact he3
  generalize upd H3 l (.lst xs) = HB at s4 hP hl0 hee
  refine ⟨l, rfl, ⟨_, SqL.of hl0⟩, for_list (K := K) (a := l) (xs := xs) (fun i σ' H' => ∃ x3 x5 : Option V, σ' = [some (.ref x), some (.ref pt), some (.ref dn), x3, some (.ref e), x5] ∧ (∀ b o, HB b = some o → b ≠ e → H' b = some o) ∧ H' l = some (.lst xs) ∧ H' e = some (.dK (tv (addUp (ps.take i)))))
    ⟨_, _, rfl, fun b o q _ => q, hl0, hee⟩ (fun i σ' H' _ ⟨_, _, _, _, h, _⟩ => SqL.of h) ?_ ?_⟩
  · rintro i y σ' H' hy ⟨x3, x5, rfl, s', hl', he'⟩
    have hi : i < ps.length := by
      have := (List.getElem?_eq_some_iff.mp hy).1
      rw [hP.length] at this
      exact this
    obtain ⟨t, et, ht⟩ := hP.at (List.getElem?_eq_getElem hi)
    rw [et] at hy
    obtain rfl := Option.some.inj hy
    refine ⟨t, _, rfl, SqT.of (s' _ _ ht (ne_of ht hee (by intro z; cases z))), rfl, _, _, rfl, _, _, rfl, rfl, ?_⟩
    refine ⟨_, rfl, e, rfl, .inl ⟨_, .inl he'⟩, _, rfl, _, DGet.k (k := Sum.inr ps[i].1) he', _, rfl, val (addUp (ps.take i)) ps[i].1, ps[i].2, (by rw [tv_val]; exact val_getD _ _), rfl, _, rfl, _, rfl, e, _, rfl, DPut.k (k := Sum.inr ps[i].1) he' ?_, ?_⟩
    · rw [tv_len]
      have h1 := addUp_len (ps.take i)
      rw [List.length_take] at h1
      exact Nat.lt_of_le_of_lt (show (addUp (ps.take i)).length ≤ 1000 by omega) (by decide)
    · refine ⟨_, _, rfl, fun b o q n => by rw [upd_ne n]; exact s' b o q n, by rw [upd_ne (ne_of hl' he' (by intro z; cases z))]; exact hl', ?_⟩
      rw [upd_same, tv_put, List.take_succ, List.getElem?_eq_getElem hi]
      show some (HO.dK (tv (put (addUp (ps.take i)) ps[i].1 (val (addUp (ps.take i)) ps[i].1 + ps[i].2)))) = some (HO.dK (tv (addUp (ps.take i ++ [ps[i]]))))
      rw [addUp_snoc]
  · rintro σ' H5 ⟨x3, x5, rfl, s5', hl5, he5⟩
    have s5 : Same H H5 := fun b o q => s5' b o (s4 _ _ q) (ne_of_none q he)
    rw [hP.length, List.take_length] at he5
    generalize et : addUp ps = t at he5
    have ndt : (keys t).Nodup := by rw [← et]; exact addUp_nd ps
    have lent : t.length ≤ 1000 := by rw [← et]; exact Nat.le_trans (addUp_len ps) hl
    -- self.held = {..}
    refine ⟨e, _, he5, trivial, fun oe => ?_⟩
    refine ⟨_, rfl, e, oe, _, rfl, upd_same, fun D hD => ?_⟩
    have nDe : D ≠ e := (ne_of_none upd_same hD).symm
    have hDH : H5 D = none := by rw [upd_ne nDe] at hD; exact hD
    have xe : x ≠ e := ne_of_none hx he
    refine dc_it walk_items (fun i H' => (∀ b o, H5 b = some o → b ≠ e → H' b = some o) ∧ H' e = some (.frz oe (.dK (tv t))) ∧ H' D = some (.dK (tv (noZero (t.take i))))) ⟨fun b o q n => by rw [upd_ne (ne_of_none q hDH), upd_ne n]; exact q, by rw [upd_ne nDe.symm]; exact upd_same, upd_same⟩
      (fun i H' _ h => h.2.1) ?_ ?_
    · rintro i v H' H2 hi ⟨k1, k2, k3⟩ ⟨T, a, b, rfl, hT, rfl, ha, hb⟩
      rw [tv_len] at hi
      have hi2 : (tv t)[i]? = some (Sum.inr t[i].1, V.int t[i].2) := by
        unfold tv
        rw [List.getElem?_map, List.getElem?_eq_getElem hi]
        rfl
      dsimp only at ha hb
      rw [hi2] at ha hb
      obtain rfl : V.str t[i].1 = a := Option.some.inj ha
      obtain rfl : V.int t[i].2 = b := Option.some.inj hb
      have sT : Same H' (upd H' T (.tup [V.str t[i].1, V.int t[i].2])) := Same.new hT
      refine ⟨T, _, rfl, SqT.of upd_same, rfl, _, _, rfl, _, _, rfl, rfl, rfl, _, rfl, rfl, _, rfl, ?_⟩
      have nz := noZero_take ndt (List.getElem?_eq_getElem hi)
      by_cases z : t[i].2 = 0
      · rw [decide_eq_true (show V.int t[i].2 = V.int 0 by rw [z])]
        rw [if_neg (by simpa using z)] at nz
        refine iteF ?_
        refine ⟨fun c o q n => sT _ _ (k1 c o q n), sT _ _ k2, ?_⟩
        rw [nz]
        exact sT _ _ k3
      · rw [decide_eq_false (show ¬ V.int t[i].2 = V.int 0 from fun q => z (V.int.inj q))]
        rw [if_pos z] at nz
        refine iteT ?_
        refine ⟨_, rfl, _, rfl, _, Sum.inr t[i].1, rfl, sT _ _ k3, ?_, ?_, ?_, ?_⟩
        · rw [tv_len]
          have h1 : (noZero (t.take i)).length ≤ (t.take i).length := List.length_filter_le _ _
          rw [List.length_take] at h1
          exact Nat.lt_of_le_of_lt (show (noZero (t.take i)).length ≤ 1000 by omega) (by decide)
        · intro c o q n
          rw [upd_ne (ne_of_none q hDH)]
          exact sT _ _ (k1 c o q n)
        · rw [upd_ne nDe.symm]
          exact sT _ _ k2
        · rw [upd_same, tv_put, nz]
    · rintro H' ⟨k1, k2, k3⟩
      rw [tv_len, List.take_length] at k3
      refine ⟨k2, _, rfl, x, C, dx, [], rfl, ?_, cl, nH, (by show 0 < 1000; decide), ?_⟩
      · rw [upd_ne xe]
        exact k1 _ _ (s5 _ _ hx) xe
      · have nDx : D ≠ x := (ne_of_none (s5 _ _ hx) hDH).symm
        refine k D _ (s5.free hDH) ⟨⟨dx, upd_same⟩, ?_, Held.of (by rw [et]; exact ndt), hW.held⟩ fun b o q n => ?_
        · rw [upd_ne nDx, upd_ne nDe, et]
          exact k3
        · have be : b ≠ e := ne_of_none q he
          rw [upd_ne n, upd_ne be]
          exact k1 _ _ (s5 _ _ q) be
theorem ok_initK {C f fIw fIs : Addr} {fdIw fdIs : FuncData} {oc od kV doc pm an cdv ct osl} {ks : List Str} (g : Bi mg) (cl : Cls K C) (nH : NoAttr K C "held")
    (FIw : Def P w K mg base CX0 1 "is_word" ["thing"] (spIsWord K) fIw fdIw) (FIs : Def P w K mg base CX0 2 "is_small" ["thing"] (spIsSmall K) fIs fdIs)
    (lk : K.lookup f = some ⟨oc, od, .func (PySem.W.fnOf "__init__" "Counts.__init__" (defArgs s_Counts_init) (defBody s_Counts_init) (defScope s_Counts_init) .none kV doc pm an cdv ct), osl⟩) (hcd : PySem.W.codeIn K cdv "Counts.__init__" = true)
    (hn : ks.Nodup) (hl : ks.length ≤ 1000) (hw : ∀ z ∈ ks, Word z)
    (hb : ∀ (u : Value) (ws : List Value), ws.length = ks.length → bindArgs (PySem.W.fnOf "__init__" "Counts.__init__" (defArgs s_Counts_init) (defBody s_Counts_init) (defScope s_Counts_init) .none kV doc pm an cdv ct) ⟨[u], ks.zip ws⟩ =
      (newTuple [] >>= fun t => (alloc ({ cls := .type "dict", data := .dict #[] } : Obj) : Sem Addr) >>= fun d => (forIn (ks.zip ws) PUnit.unit fun x _ => (nsSet d x.1 x.2 >>= fun _ => pure (ForInStep.yield PUnit.unit))) >>= fun _ => pure [(("self" : Str), u), (("pairs" : Str), t), (("numbers" : Str), Value.ref d)])) :
    FnKw P w K mg base CX0 3 f ks (spInitK C ks) := by
  have G := fn_kw (P := P) (w := w) (mg := mg) (base := base) (CX := CX0) (k := 2) (p1 := "self") (pv := "pairs") (pd := "numbers") (sp := spInitKB C) lk hcd sc_Counts_init StX.cxUp_none hn hl hb
    (fun A outer s H vs Q E hr h => by
      obtain ⟨t, a, b⟩ := initK_body (P := P) (w := w) (mg := mg) (base := base) (outer := outer) (s := s) g cl nH FIw FIs hr h
      exact ⟨t, a.nox, b⟩)
  intro A outer s H u v ws zs Q E hr e0 rv r hz hsp
  refine G A outer s H u v ws zs Q E hr e0 rv r hz ?_
  obtain ⟨x, dx, ns, ev, hx, hns, hsm, k⟩ := hsp
  obtain ⟨rfl, rfl⟩ := List.cons.inj ev
  refine ⟨_, _, rfl, fun p d hp hd hne => ?_⟩
  have s1 : Same H (upd H p (.tup [])) := Same.new hp
  have hd1 : (upd H p (.tup [])) d = none := by rw [upd_ne hne]; exact hd
  have s2 : Same H (upd (upd H p (.tup [])) d (.dK (kwK ks (ns.map V.int)))) := s1.trans (Same.new hd1)
  have ek : keys (ks.zip ns) = ks := List.map_fst_zip (by omega)
  refine ⟨x, p, d, dx, ks.zip ns, rfl, s2 _ _ hx, (by rw [upd_ne hne.symm]; exact upd_same), by rw [upd_same, kw_tv], by rw [ek]; exact hn, fun q hq => ?_, ?_, fun e H' he hc kp => ?_⟩
  · obtain ⟨h1, h2⟩ := List.of_mem_zip (show (q.1, q.2) ∈ ks.zip ns from hq)
    exact ⟨hw _ h1, hsm _ h2⟩
  · rw [List.length_zip]
    omega
  · exact k e H' (s2.free he) hc fun b o q n => kp b o (s2 _ _ q) n
end
end Cs

set_option Elab.async false
set_option linter.all false
set_option maxRecDepth 100000
set_option maxHeartbeats 4000000
/-! Own errors with one field. -/
namespace Cs
open PySem PySem.Spec PyProof.Rows L2
/-- __init__ of an own error: self.fld = y -/
def spXi (C : Addr) (fld : Str) : Sp := fun vs H Q _ => ∃ (a : Addr) (y : V), vs = [.ref a, y] ∧ H a = some (exo a C none) ∧ ∀ dx, H dx = none → dx ≠ a → Q .non (upd (upd H dx (exd dx [(fld, y)])) a (exo a C (some dx)))
theorem upd_back {H : Hp} {a dx : Addr} {o1 o2 o3 o4 : HO} (ha : H a = none) (n : dx ≠ a) : upd (del (upd (upd (upd H a o1) dx o2) a o3) a) dx o4 = upd H dx o4 := by
  funext b
  by_cases c : b = dx
  · subst c
    rw [upd_same, upd_same]
  · rw [upd_ne c, upd_ne c]
    by_cases e : b = a
    · subst e
      rw [del_same, ha]
    · rw [del_ne e, upd_ne e, upd_ne c, upd_ne e]
theorem xmk {C : Addr} {fld : Str} {y : V} {H1 : Hp} {Q : XK} (k : ∀ dx, H1 dx = none → Q (.ref C) (some dx) (upd H1 dx (.xd [(fld, y)]))) :
    ([y] : List V).length ≤ 1000 ∧ ∀ a, H1 a = none → spXi C fld (.ref a :: ([y] ++ [])) (upd H1 a (exo a C none)) (fun v H2 => v = .non ∧ ∃ (d : Addr) (fs : List (Str × V)), H2 a = some (exo a C (some d)) ∧ H2 d = some (exd d fs) ∧ H1 d = none ∧ Q (.ref C) (some d) (upd (del H2 a) d (.xd fs))) (fun _ _ _ => False) := by
  refine ⟨by show 1 ≤ 1000; decide, fun a ha => ⟨a, y, rfl, upd_same, fun dx hdx ne => ⟨rfl, dx, _, upd_same, by rw [upd_ne ne]; exact upd_same, ?_, ?_⟩⟩⟩
  · rw [upd_ne ne] at hdx
    exact hdx
  · rw [upd_back ha ne]
    exact k dx (by rw [upd_ne ne] at hdx; exact hdx)
/-- an error of the class at S is caught by its own name -/
theorem exm_self {K : PySem.W.Frag} {S : Addr} (h1 : PySem.W.subIn K (.ref S) (.type "BaseException") = some true) (h2 : PySem.W.isClsIn K S = true) (h3 : PySem.W.typeIn K (.ref S) = some (.type "type")) (h4 : PySem.W.subIn K (.ref S) (.ref S) = some true) : PySem.W.exmOne K (.ref S) (.ref S) = some true := by
  have h2' : (PySem.W.clsIn K S).isSome = true := h2
  unfold PySem.W.exmOne PySem.W.kitCls
  simp [h1, h2', h3, h4]
/-- an own error as those have it that raise it -/
structure XDef (P : Program) (w : World) (K : PySem.W.Frag) (mg : Str → Option Value) (base : Heap) (x : Str) (C fI : Addr) (fld : Str) (ps : List Str) (fd : FuncData) : Prop where
  c : OexC K C
  iC : PySem.W.findIn K (.ref C) "__init__" = some (some (.ref fI))
  tI : PySem.W.typeIn K (.ref fI) = some (.type "function")
  ok : FnOk P w K mg base CX0 1 fI fd ps (spXi C fld)
  b : Binds K fd ps []
  mg_ : mg x = some (.ref C)
  te : PySem.W.exmOne K (.ref C) (.ref C) = some true
end Cs

set_option Elab.async false
set_option linter.all false
set_option maxRecDepth 100000
set_option maxHeartbeats 4000000
/-! isinstance(e, C) of a caught error that has its own dict; defs that let nothing out after all. -/
namespace Cs
open PySem PySem.Spec PyProof.Rows L2
section
variable {prog : Program} {w : World} {A : Around} {E : Value → Shared → Prop} {s : Shared} {K : PySem.W.Frag} {x D : Addr} {ox od : Obj}
/-- e.__class__ of an error with a dict -/
theorem exd_class {Q : Option Value → Shared → Prop} (C : ExcC K D) (X : K.In s.heap) (I : PySem.W.InstAt s.heap x ox D (some od)) (h : Q (some (.ref D)) { s with toks := s.toks + 1 }) : wpAny (model prog w) A (getAttr? (.ref x) "__class__") Q E s := by
  have hf : PySem.W.findObj K D (some od) "__class__" = some (.bind (.builtin "getset_descriptor.__get__") (.builtin "object.__class__")) := PySem.W.findObj_data (by obtain ⟨cd, hc, _⟩ := PySem.W.any_some C.hd; rw [hc]; rfl) C.ha C.hn C.ht
  obtain ⟨hp, g, d, t, os⟩ := s
  have T0 := I.type (M := model prog w)
  have T1 := PySem.W.looks_findIn (M := model prog w) X C.hg
  have T2 := PySem.W.looks_findIn (M := model prog w) X C.hk
  have T3 := PySem.W.looks_find (M := model prog w) X I hf
  have up : PySem.W.Looks (model prog w) hp (isInstance (.ref x) (.type "BaseException")) true := T0.andThen (PySem.W.looks_subIn X C.hs)
  have e2 : (Value.builtin "BaseException.__getattribute__" == Value.builtin "object.__getattribute__") = false := by decide +kernel
  have e1 : (onTheHeap (Value.ref D) && Value.builtin "BaseException.__getattribute__" == Value.builtin "object.__getattribute__") = false := by rw [e2]; rfl
  unfold getAttr?; unfold getAttrBy?; unfold getAttrBy
  refine wpAny_bind (wpAny_mkText (wpAny_bind (wpAny_attempt (wpAny_holding (wpAny_bind (T0.at (wpAny_bind (T1.at ?_))))))))
  show wpAny _ _ (if (onTheHeap (Value.ref D) && Value.builtin "BaseException.__getattribute__" == Value.builtin "object.__getattribute__") = true then _ else _) _ _ _
  rw [e1, if_neg Bool.false_ne_true]; unfold getAttrByItsOwn; unfold hookBefore
  refine wpAny_bind ?_; rw [if_pos (show onTheHeap (Value.ref D) = true from rfl)]
  refine T2.at (wpAny_bind (wpAny_attempt (wpAny_holding ?_)))
  unfold callGetattribute; rw [show (false && onTheHeap (Value.builtin "BaseException.__getattribute__")) = false from rfl, if_neg Bool.false_ne_true]; unfold boundAndCalled
  rw [PySem.F.excAttr_ValueError.ga.bind (.ref x)]; refine wpAny_bind (wpAny_pure ?_)
  show wpAny _ _ (call (.builtin "BaseException.__getattribute__") [.ref x, .str "__class__" t]) _ _ _
  refine wpAny_call (codeAny_call_builtin PySem.F.excAttr_ValueError.ga.plain PySem.F.entry_bexc_ga (@PySem.W.check_slot (model prog w) _ _ ⟨hp, g, d, t + 1, os⟩ "BaseException.__getattribute__" "BaseException" "__getattribute__" (.ref x) [.str "__class__" t] [] _ (by decide +kernel) (by decide +kernel) up (PySem.F.args_bexc_ga (.ref x) (.str "__class__" t)) ?_))
  unfold Builtin.«object.__getattribute__»; refine wpAny_bind (wpAny_of_eq (a := ((Value.ref x : Value), [Value.str "__class__" t])) (by first | rfl | (simp only [slotArgs]; rfl)) ?_)
  refine wpAny_bind (wpAny_pure (wpAny_bind (T0.at (wpAny_bind (T3.at ?_))))); show wpAny _ _ (holding [Value.builtin "object.__class__"] (call (.builtin "getset_descriptor.__get__") [.builtin "object.__class__", .ref x, .ref D]) >>= ret) _ _ _
  refine wpAny_bind (wpAny_holding (wpAny_call (PySem.W.class_get (s := ⟨hp, g, d, t + 1, os⟩) (ox := ox) (od := some od) X I C.hm (wpAny_pure ?_)))); show wpAny _ _ (handedOut (.ref D)) _ _ _
  rw [PySem.W.handedOut_of (v := .ref D) rfl]; first | exact wpAny_pure (wpAny_pure h) | exact wpAny_pure h | exact wpAny_pure (wpAny_bind (wpAny_pure (wpAny_pure h)))
theorem exd_kit (C : ExcC K D) : PySem.W.KitX K (.ref x) (.ref D) (fun h => PySem.W.InstAt h x ox D (some od)) := by
  have hc : ∃ c' d' cd' sl', K.lookup D = some ⟨c', d', .cls cd', sl'⟩ := by
    obtain ⟨cdD, hcD, _⟩ := PySem.W.any_some C.hd
    unfold PySem.W.clsIn at hcD
    split at hcD
    · rename_i c' d' cd' sl' ho
      exact ⟨c', d', _, sl', ho⟩
    · cases hcD
  obtain ⟨c', d', cd', sl', ho⟩ := hc
  have h3 : ∀ (h : Heap) (tp : Addr) (dd : Option Addr) (its : Array Value) (n : Nat) (sl : Array (Option Value)), K.In h → h.get? tp = some ⟨.type "tuple", dd, .seq its n, sl⟩ → (Value.ref D == Value.ref tp) = false := fun h tp dd its n sl X htp => by
    refine Bool.eq_false_iff.mpr fun q => ?_
    have e : D = tp := Value.ref.inj (beq_iff_eq.mp q)
    subst e
    have z := (X _ _ ho).symm.trans htp
    cases z
  refine ⟨fun _ _ _ I => I.type, fun _ _ X _ A1 Q1 E1 s1 k q => ?_, fun h tp dd its => h3 h tp dd its.toArray, fun X I k => exd_class C X I k⟩
  unfold isType; unfold loadHead; exact wpAny_bind (wpAny_loadPart (k _ _ (X _ _ ho)) (wpAny_pure q))
end
/-- isinstance(e, c), e the error that the suite holds -/
def rIsD (K : PySem.W.Frag) (a : Addr) (cls : Value) (d : Option Addr) : List V → Hp → VK → Prop := fun xs H Q => ∃ (D dd : Addr) (fs : List (Str × V)) (c : V) (cv : Value) (b : Bool), ExcC K D ∧ cls = .ref D ∧ d = some dd ∧ H dd = some (.xd fs) ∧ xs = [.ref a, c] ∧ (∀ u, RelV c u → u = cv) ∧ PySem.W.kitOne K (.ref D) cv = some b ∧ Q (.bl b) H
theorem call_isD {X : Cx} {a : Addr} {oe : Obj} {cls : Value} {d : Option Addr} {pn : List (Addr × Obj)} (hz : Zc cls d oe) (hf : ∃ vs, oe.data = .fields vs) : CallR (X.suite a ((a, oe) :: pn)) (.builtin "isinstance") (rIsD X.K a cls d) := by
  intro pins s σ H xs us Q I r h
  obtain ⟨D, dd, fs, c, cv, b, C, rfl, rfl, hdd, rfl, hcv, e, q⟩ := h
  cases r with
  | cons rx rr =>
    cases rr with
    | cons rt rr =>
      cases rr
      cases rx
      have ec := hcv _ rt
      subst ec
      obtain ⟨hget, _⟩ := I.pin (a, oe) (List.mem_append.mpr (.inl List.mem_cons_self))
      obtain ⟨vs, hv⟩ := hf
      have hx : ObjOk X.prog X.w H s.heap dd (.xd fs) := I.hok dd _ hdd
      obtain ⟨mA, hns, hr⟩ := hx
      obtain ⟨od, ho, hl⟩ := lookIn_ns hns
      have J : PySem.W.InstAt s.heap a oe D (some od) := ⟨hget, hz.1, by unfold PySem.W.notCls; rw [hv] <;> rfl, by rw [hz.2]; exact ho⟩
      exact PySem.W.kia_one (exd_kit C) I.kIn J e (fun z => nomatch z) fun tk => ⟨.bl b, H, I.kept (t' := tk) fun _ _ z => z, rfl, q⟩
/-- a def whose promise lets nothing out -/
theorem FnR.calm {P : Program} {w : World} {K : PySem.W.Frag} {mg : Str → Option Value} {base : Heap} {k : Nat} {f : Addr} {sp : Sp} (F : FnR P w K mg base (L2.CX P w) k f sp) : FnR P w K mg base CX0 k f (fun vs H Q _ => sp vs H Q fun _ _ _ => False) := by
  intro A outer s H us vs Q E hr e0 r hs
  refine codeAny_mono (F A outer s H us vs Q _ hr e0 r hs) fun r s' h => ?_
  cases r with
  | ok fl => cases fl <;> exact h
  | error e =>
    obtain ⟨_, _, _, _, _, _, _, _, _, _, _, _, z⟩ := h
    exact z.elim
theorem FnOk.calm {P : Program} {w : World} {K : PySem.W.Frag} {mg : Str → Option Value} {base : Heap} {k : Nat} {f : Addr} {fd : FuncData} {ps : List Str} {sp : Sp} (F : FnOk P w K mg base (L2.CX P w) k f fd ps sp) : FnOk P w K mg base CX0 k f fd ps (fun vs H Q _ => sp vs H Q fun _ _ _ => False) := by
  refine ⟨fun vs H Q E h => F.len vs H Q _ h, fun A outer s H args us vs Q E hr e0 b r hs => ?_⟩
  refine codeAny_mono (F.run A outer s H args us vs Q _ hr e0 b r hs) fun r s' h => ?_
  cases r with
  | ok fl => cases fl <;> exact h
  | error e =>
    obtain ⟨_, _, _, _, _, _, _, _, _, _, _, _, z⟩ := h
    exact z.elim
end Cs

set_option Elab.async false
set_option linter.all false
set_option maxRecDepth 100000
set_option maxHeartbeats 4000000
/-! A store by an own __setitem__ that may raise. -/
namespace Cs
open PySem PySem.Spec PyProof.Rows L2
section
variable {X : Cx} {CX : CXT} {k : Nat} {f C : Addr} {fd : FuncData} {ps : List Str} {sp : Sp} {E : L2.St → XK} {o i : Expr} {to ti : TE} {pos : Pos}
/-- o[i] = .. by an own __setitem__ that may raise -/
def gSetX (C : Addr) (sp : Sp) (E : L2.St → XK) (to ti : TE) : TG := fun v σ H Q => to σ H fun x H1 => ti σ H1 fun y H2 => ∃ a dx fs, x = .ref a ∧ H2 a = some (.ins C dx fs) ∧ sp [.ref a, y, v] H2 (fun _ H3 => Q σ H3) (E σ)
theorem pg_setX (c : Spc X.K C "__setitem__" f) (hq : PySem.W.noSeq X.K C = true) (F : FnOk X.prog X.w X.K X.mg X.base CX k f fd ps sp) (hr : Room k X.A) (hb : Binds X.K fd ps []) (hx : ∀ σ, PassesAt CX X σ (E σ)) (ho : PE X o to) (hi : PE X i ti)
    (ha : ∀ v, assign (.Subscript o i pos) X.env v = (do
      let ov ← holding [v] (eval o X.env)
      let iv ← holding [v, ov] (eval i X.env)
      standAt pos
      holding [v, ov, iv] (setItem ov iv v)
      release [v, ov, iv] []) := by intro _; rfl) : PG X (.Subscript o i pos) (gSetX C sp E to ti) := by
  refine ⟨fun pins s σ H v u Q I r h => ?_⟩
  rw [ha]
  refine wpAny_bind (wpAny_holding (thn (ho.run pins s σ H _ I h) fun ov s1 ⟨x, H1, I1, r1, q1⟩ => ?_))
  refine wpAny_bind (wpAny_holding (thn (hi.run pins s1 σ H1 _ I1 q1) fun iv s2 ⟨y, H2, I2, r2, q2⟩ => ?_))
  obtain ⟨a, dx, fs, rfl, ha', q⟩ := q2
  cases r1
  obtain ⟨ox, od, J, _⟩ := ins_inst I2 ha'
  obtain ⟨m, Fr⟩ := I2.fr
  refine wpAny_bind (wpAny_standAt (wpAny_bind (wpAny_holding (PySem.W.ksp_setItem Fr I2.ok.mod.kin J hq c.at_ c.fn ?_))))
  refine wpAny_mono (run_fnS (us := [.ref a, iv, u]) (vs := [.ref a, y, v]) F hr hb (hx σ) I2 (.cons rfl (.cons r2 (.cons r .nil))) q) (fun v s' z => ?_) fun _ _ z => z
  obtain ⟨v0, H3, I3, _, q3⟩ := z
  exact wpAny_release ⟨σ, H3, I3, q3⟩
end
end Cs

set_option Elab.async false
set_option linter.all false
set_option maxRecDepth 100000
set_option maxHeartbeats 4000000
set_option pp.maxSteps 600
/-! Counts: an integer set, or BadNumber raised. -/
namespace Cs
open PySem L2
/-- no integer of at most thirty digits -/
def Wrong (K : PySem.W.Frag) (y : V) : Prop := (∃ n, y = .int n ∧ ¬ Small n) ∨ ∀ H, NotInt K H y
/-- the same, where it stands -/
def WrongH (K : PySem.W.Frag) (H : Hp) (y : V) : Prop := (∃ n, y = .int n ∧ ¬ Small n) ∨ NotInt K H y
def spSetX (K : PySem.W.Frag) (C B : Addr) : Sp := fun vs H Q E => ∃ (p d : Addr) (t : Tab) (z : Str) (y : V), vs = [.ref p, .str z, y] ∧ Word z ∧ Cnt C H p d t ∧ t.length ≤ 1000 ∧
  ((∃ n, y = .int n ∧ Small n ∧ ∀ (t' : Tab) (H' : Hp), Cnt C H' p d t' → (∀ x, val t' x = if x = z then n else val t x) → t'.length ≤ t.length + 1 → (∀ b o, H b = some o → b ≠ d → H' b = some o) → Q .non H') ∨
   ((∀ H', Same H H' → WrongH K H' y) ∧ ∀ (H' : Hp) (dd : Addr), Same H H' → H' dd = none → E (.ref B) (some dd) (upd H' dd (.xd [(("number" : Str), y)]))))
section
variable {P : Program} {w : World} {K : PySem.W.Frag} {mg : Str → Option Value} {base : Heap}
theorem ok_xnumber {B f : Addr} {fd : FuncData} (F : Fun K "__init__" "BadNumber.__init__" s_BadNumber_init f fd) (T : OexC K B) (hno : PySem.W.findIn K (.ref B) "number" = some none) : FnOk P w K mg base CX0 1 f fd ["self", "number"] (spXi B "number") := by
  refine F.ok sc_BadNumber_init (fun vs H Q E h => ?_) (fun cdv A outer s H vs Q E hr h => ?_)
  · obtain ⟨_, _, rfl, _⟩ := h
    rfl
  · obtain ⟨a, y, rfl, ha, k⟩ := h
    refine ⟨_, (pss_one (ps_ost (pv 0) (pv 1))), ?_⟩
    exact ⟨_, rfl, _, rfl, a, B, rfl, T, hno, .inl ⟨ha, fun dx hdx ne => k dx hdx ne⟩⟩
theorem ok_setX {C B f fIw fIs fX : Addr} {fd fdIw fdIs fdX : FuncData} {fI : Addr} (F : Fun K "__setitem__" "Counts.__setitem__" s_Counts_setitem f fd) (g : Bi mg) (T : CT P w K mg base C fI) (FIw : Def P w K mg base CX0 1 "is_word" ["thing"] (spIsWord K) fIw fdIw) (FIs : Def P w K mg base CX0 2 "is_small" ["thing"] (spIsSmall K) fIs fdIs)
    (XN : XDef P w K mg base "BadNumber" B fX "number" ["self", "number"] fdX) : FnOk P w K mg base (L2.CX P w) 3 f fd ["self", "word", "number"] (spSetX K C B) := by
  obtain ⟨GIw, mIw, _, bIw⟩ := id FIw
  obtain ⟨GIs, mIs, _, bIs⟩ := id FIs
  refine F.okX sc_Counts_setitem (fun vs H Q E h => ?_) (fun cdv A outer s H vs Q E hr h => ?_)
  · obtain ⟨_, _, _, _, _, rfl, _⟩ := h
    rfl
  · obtain ⟨p, d, t, z, y, rfl, hz, hc, hl, hk⟩ := h
    have hrIw : Room 1 _ := hr.mono (by decide)
    have hrIs : Room 2 _ := hr.mono (by decide)
    have hrX : Room 2 _ := hr.mono (by decide)
    have hu := hu_of hr
    refine ⟨_, (pss_cons (ps_if (pt_not (pt_val (pe_call GIw hrIw rfl mIw FIw.kp bIw .nil pass0 (pa_cons (pv 1) pa_nil)))) (pss_one ps_never) pss_nil)
      (pss_cons (ps_if (pt_not (pt_val (pe_call GIs hrIs rfl mIs FIs.kp bIs .nil pass0 (pa_cons (pv 2) pa_nil)))) (pss_one (ps_raise rfl (takes_of rfl rfl rfl rfl) (pmk_oex XN.c XN.iC XN.tI XN.ok hrX XN.b .nil pass0 rfl XN.mg_ (pa_cons (pv 2) pa_nil)))) pss_nil)
      (pss_one (ps_if (pt_cmpR op_ne (pv 2) pe_int (nomark _)) (pss_one (ps_dput hu (pe_fld (pv 0) rfl) (pv 1) (pv 2) rfl)) (pss_one (ps_if (pt_cmp (pc_din hu (pv 1) (pe_fld (pv 0) rfl))) (pss_one (ps_ddel (pe_fld (pv 0) rfl) (pv 1))) pss_nil)))))), ?_⟩
    refine ⟨_, rfl, .inl ⟨z, rfl, Nat.le_trans hz.2.1 (by decide), fun H1 s1 => ?_⟩⟩
    rw [wordB_of hz]
    refine ⟨_, rfl, iteF ?_⟩
    rcases hk with ⟨n, rfl, hn, k⟩ | ⟨hw, k⟩
    · refine ⟨_, rfl, .inl ⟨n, rfl, ?_⟩⟩
      rw [decide_eq_true hn.1, decide_eq_true hn.2]
      refine ⟨_, rfl, iteF ?_⟩
      obtain ⟨⟨dx, hp⟩, hd, hh, hw⟩ := id (hc.same s1)
      have npd : p ≠ d := ne_of hp hd (by intro z; cases z)
      refine ⟨_, rfl, rfl, _, rfl, ?_⟩
      by_cases e : n = 0
      · rw [decide_eq_true (show V.int n = V.int 0 by rw [e])]
        refine iteF ?_
        refine ⟨_, rfl, _, rfl, p, C, dx, _, _, rfl, hp, T.cl, T.nH, flds_held d, d, _, rfl, DGet.k (k := Sum.inr z) hd, _, rfl, ?_⟩
        rw [tv_val]
        cases q : look t z with
        | none =>
          refine iteF ?_
          refine k t H1 (hc.same s1) (fun y => ?_) (Nat.le_succ _) fun b o e _ => s1 b o e
          by_cases ey : y = z
          · rw [if_pos ey, ey, e]
            unfold val
            rw [q]
            rfl
          · rw [if_neg ey]
        | some v =>
          refine iteT ?_
          refine ⟨_, rfl, p, C, dx, _, _, rfl, hp, T.cl, T.nH, flds_held d, _, rfl, d, _, Sum.inr z, rfl, hd, rfl, (by rw [tv_val, q]; rfl), ?_⟩
          rw [tv_drop]
          refine k (drop t z) _ ⟨⟨dx, by rw [upd_ne npd]; exact hp⟩, upd_same, held_drop hh, fun y m => hw y (by rw [keys_drop] at m; exact (List.mem_filter.mp m).1)⟩ (fun y => by rw [val_drop hh.nd, e]) (Nat.le_trans (List.length_filter_le _ _) (Nat.le_succ _)) fun b o e n => ?_
          rw [upd_ne n]
          exact s1 b o e
      · rw [decide_eq_false (show ¬ V.int n = V.int 0 from fun q => e (V.int.inj q))]
        refine iteT ?_
        refine ⟨_, rfl, _, rfl, p, C, dx, _, _, rfl, hp, T.cl, T.nH, flds_held d, _, rfl, d, _, rfl, DPut.k (k := Sum.inr z) hd (by rw [tv_len]; exact Nat.lt_of_le_of_lt hl (by decide)), ?_⟩
        rw [tv_put]
        refine k (put t z n) _ ⟨⟨dx, by rw [upd_ne npd]; exact hp⟩, upd_same, held_put hh e, fun y m => (mem_keys_put.mp m).elim (hw y) (fun q => q ▸ hz)⟩ (fun y => val_put hh.nd) (len_put _ _ _) fun b o e n => ?_
        rw [upd_ne n]
        exact s1 b o e
    · rcases hw H1 s1 with ⟨n, rfl, hn⟩ | hw
      · refine ⟨_, rfl, .inl ⟨n, rfl, ?_⟩⟩
        have e : (decide (-(10 ^ 30) < n) && decide (n < 10 ^ 30)) = false := by
          rw [Bool.and_eq_false_iff]
          by_cases c : -(10 ^ 30) < n
          · exact .inr (decide_eq_false fun q => hn ⟨c, q⟩)
          · exact .inl (decide_eq_false c)
        rw [e]
        refine ⟨_, rfl, iteT ?_⟩
        exact ⟨_, rfl, xmk fun dx hdx => k H1 dx s1 hdx⟩
      · refine ⟨_, rfl, .inr ⟨y, rfl, hw, ?_⟩⟩
        refine ⟨_, rfl, iteT ?_⟩
        exact ⟨_, rfl, xmk fun dx hdx => k H1 dx s1 hdx⟩
end
end Cs

set_option Elab.async false
set_option linter.all false
set_option maxRecDepth 100000
set_option maxHeartbeats 4000000
/-! Defs that raise nothing, called inside an except suite; o[x] that may raise, in a try. -/
namespace Cs
open PySem PySem.Spec PyProof.Rows L2 L2H
theorem hotUnits {k : Nat} {A : Around} (r : RoomH k A) : A.units + 100 < cLine := by have := r.un; omega
structure FnW (P : Program) (w : World) (K : PySem.W.Frag) (mg : Str → Option Value) (base : Heap) (k : Nat) (f : Addr) (fd : FuncData) (ps : List Str) (sp : Sp) : Prop where
  len : ∀ vs H Q E, sp vs H Q E → vs.length = ps.length
  run : ∀ (A : Around) (outer : List Env) (s : Shared) (H : Hp) (args : Args) (us : List Value) (vs : List V) (Q : VK) (E : XK), RoomH k A → Env0 P w K mg base A outer s H → BindsTo s fd args (ps.zip us) → Vals vs us → sp vs H Q E →
    codeAny (model P w) A (.call (.ref f) args) (CR CX0 outer P w H s Q E) s
def cxW (P : Program) (w : World) (K : PySem.W.Frag) (mg : Str → Option Value) (base : Heap) (N : List Str) (qual : Str) (scope : Scope) (f : Addr) (cd : Value) (A : Around) (outer : List Env) (s : Shared) (H : Hp) (E : XK) : Cx :=
  { cxOf CX0 P w K mg base N qual scope f cd A outer s H E with calm := false }
theorem inv_startW {P : Program} {w : World} {K : PySem.W.Frag} {mg : Str → Option Value} {base : Heap} {N ps : List Str} {qual : Str} {scope : Scope} {f : Addr} {cd : Value} {A : Around} {outer : List Env} {s s1 : Shared} {H : Hp} {E : XK} {us : List Value} {vs : List V}
    (S : FnScope N ps scope) (e0 : Env0 P w K mg base A outer s H) (hl : vs.length = ps.length) (r : Vals vs us)
    (x : InCallC s s.heap.objs.size (bindL (envOfC qual scope s.heap.objs.size f cd).kindOf (ps.zip us) fun _ => none) (cellsFrom (s.heap.objs.size + 1) scope.names []) (bindC (envOfC qual scope s.heap.objs.size f cd).kindOf (ps.zip us) fun _ => none) s1) :
    Inv (cxW P w K mg base N qual scope f cd A outer s H E) [] (L2.start N vs) H s1 := by
  have hpl : ps.length ≤ N.length := by have := congrArg List.length S.pre; rw [List.length_take] at this; omega
  obtain ⟨h1, tk, rfl, hk⟩ := x.done
  have noA : ∀ b : Addr, b ∉ (cxW P w K mg base N qual scope f cd A outer s H E).ex := fun b z => absurd (show b ∈ ([] : List Addr) from z) (by simp)
  refine ⟨⟨e0.mod, S.kind, rfl, rfl, Nat.le_refl _, fun y z c h1 h2 => ?_, fun y hy => ?_, fun y c _ h => ?_, (fun z => Bool.noConfusion (show false = true from z)), Around.frames_deeper e0.frames, .inr ⟨rfl, rfl⟩, fun b z => absurd z (noA b), e0.bs, e0.bsz, fun b _ _ => noA b, fun b z => absurd z (noA b), e0.funs, e0.frf⟩,
    rfl, e0.bare, Un.kept hk, ⟨_, x.toInCall.ns, fun i y v h1 h2 h3 => ?_⟩, fun y c h => ⟨_, x.cell y c h⟩, e0.hok.fresh (Nat.le_refl _), fun y c h => ?_, fun q hq => ?_, e0.hok.kept hk, ?_⟩
  · exact name_of_addr x.apart (PySem.mem_of_lookup h1) (PySem.mem_of_lookup h2)
  · have hy : scope.names.lookup y = some .cell ∨ scope.names.lookup y = some .free := hy
    rcases hy with hy | hy
    · exact cell_has hy
    · exact absurd rfl (S.nofree _ (PySem.mem_of_lookup hy))
  · exact Nat.le_of_lt (x.above y c (PySem.mem_of_lookup h))
  · have hi : i < vs.length := by
      unfold L2.start at h2
      by_cases hi : i < vs.length
      · exact hi
      · rw [List.getElem?_append_right (by simpa using hi)] at h2
        rw [List.getElem?_replicate] at h2
        split at h2 <;> cases h2
    have ha : vs[i]? = some v := by
      unfold L2.start at h2
      rw [List.getElem?_append_left (by simpa using hi), List.getElem?_map] at h2
      cases e : vs[i]? with
      | none => rw [e] at h2; cases h2
      | some a => rw [e] at h2; cases h2; rfl
    obtain ⟨u, hu, rv⟩ := r.get ha
    have hp : ps[i]? = some y := by
      rw [← S.pre, List.getElem?_take_of_lt (by omega)]; exact h1
    have ndP : ps.Nodup := by rw [← S.pre]; exact S.nd.sublist (List.take_sublist _ _)
    refine ⟨u, rv, ?_⟩
    rcases S.par y (List.mem_of_getElem? hp) with k | k
    · exact .inl ⟨k, bindL_get ndP hp hu k⟩
    · obtain ⟨c, e⟩ := cell_has (n := s.heap.objs.size + 1) k
      refine .inr ⟨.inl k, c, e, ?_⟩
      have q := x.cell y c e
      rw [bindC_get ndP hp hu (by show scope.names.lookup y ≠ _; rw [k]; decide)] at q
      exact q
  · exact e0.hok.fresh (Nat.le_of_lt (x.above y c (PySem.mem_of_lookup h)))
  · exact absurd (show q ∈ ([] : List (Addr × Obj)) from hq) (by simp)
  · unfold L2.start
    show _ = N.length
    rw [List.length_append, List.length_map, List.length_replicate]
    omega
section
variable {P : Program} {w : World} {K : PySem.W.Frag} {mg : Str → Option Value} {base : Heap}
/-- as Fun.ok, for a body run while an exception is handled -/
theorem Fun.okW {x qual : Str} {st : Stmt} {f : Addr} {fd : FuncData} {N ps : List Str} {k : Nat} {sp : Sp} (F : Fun K x qual st f fd) (S : FnScope N ps (defScope st)) (len : ∀ vs H Q E, sp vs H Q E → vs.length = ps.length)
    (hbody : ∀ (cdv : Value) (A : Around) (outer : List Env) (s : Shared) (H : Hp) (vs : List V) (Q : VK) (E : XK), RoomH k (A.deeper (envOfC qual (defScope st) s.heap.objs.size f cdv)) → sp vs H Q E →
      ∃ t, PSs (cxW P w K mg base N qual (defScope st) f cdv A outer s H E).nox (defBody st) t ∧ t { nx := fun _ H' => Q .non H', rt := Q } (L2.start N vs) H) : FnW P w K mg base (k + 1) f fd ps sp := by
  obtain ⟨oc, od, kV, doc, pm, an, cdv, ct, osl, rfl, lk, hcd⟩ := F.ex
  refine ⟨len, fun A outer s H args us vs Q E hr e0 hb r hsp => ?_⟩
  have hl := len _ _ _ _ hsp
  have KX : K.In s.heap := e0.mod.kin.keeps fun b o e => (e0.bs b o e).1
  have lim : s.heap.NoLimit := e0.mod.nolimit.keeps fun b o e => (e0.bs b o e).1
  have hkind : ∀ y ∈ ps.zip us, (defScope st).names.lookup y.1 = some .local ∨ ((defScope st).names.lookup y.1 = some .cell ∧ ((cellsFrom (s.heap.objs.size + 1) (defScope st).names []).lookup y.1).isSome = true) := fun ⟨n, v⟩ hy => by
    rcases S.par n (List.of_mem_zip hy).1 with q | q
    · exact .inl q
    · exact .inr ⟨q, PySem.W.cellsFrom_some _ _ _ (.inl q)⟩
  refine codeAny_call_function hr.depth (KX _ _ lk) rfl S.co S.gen rfl (PySem.W.codeRec_of KX hcd) (hb _ _ _ _ ?_)
  refine wpAny_newFunctionEnv_cells S.kind hkind fun env he s1 x => ?_
  subst he
  refine ⟨lim.keeps x.toInCall.keep, codeAny_func ?_⟩
  obtain ⟨t, ht, hq⟩ := hbody cdv A outer s H vs Q E (hr.deeper _) hsp
  have I : Inv (cxW P w K mg base N qual (defScope st) f cdv A outer s H E) [] (L2.start N vs) H s1 := inv_startW S e0 hl r x
  refine wpAny_mono (ht.nox.run [] s1 (L2.start N vs) H _ I hq) (fun fl s' hs => ?_) fun e s' hs => hs
  have fin : ∀ {σ' : L2.St} {H' : Hp} {v : V} {u : Value}, Inv (cxW P w K mg base N qual (defScope st) f cdv A outer s H E) [] σ' H' s' → RelV v u → Q v H' → CE outer P w H s Q u s' :=
    fun {σ' H' v u} J rv q => ⟨v, H', J.os, J.bare, J.base, J.hok, rv, q⟩
  cases fl with
  | ret u =>
    obtain ⟨v, σ', H', J, rv, q⟩ := hs
    exact fin J rv q
  | next =>
    obtain ⟨σ', H', J, q⟩ := hs
    exact fin (v := V.non) (u := Value.none) J rfl q
  | brk =>
    obtain ⟨_, _, _, q⟩ := hs
    exact False.elim q
  | cont =>
    obtain ⟨_, _, _, q⟩ := hs
    exact False.elim q
end
section
variable {X : Cx} {CX : CXT} {k : Nat} {f C : Addr} {fd : FuncData} {ps : List Str} {sp : Sp} {E : L2.St → XK} {a b : Expr} {ta tb : TE} {pos : Pos}
theorem run_fnW {pins : List (Addr × Obj)} {σ : L2.St} {H : Hp} {s : Shared} {Q : VK} {us : List Value} {vs : List V} (F : FnW X.prog X.w X.K X.mg X.base k f fd ps sp) (hr : RoomH k X.A) (hb : Binds X.K fd ps [])
    (I : Inv X pins σ H s) (r : Vals vs us) (h : sp vs H Q E0) : wpAny (model X.prog X.w) X.A (call (.ref f) us) (EP X pins σ Q) X.xe s := by
  have hl : us.length = ps.length := by rw [← r.length]; exact F.len _ _ _ _ h
  have b := hb s us I.kIn (by rw [List.append_nil]; exact hl)
  rw [List.append_nil] at b
  refine wpAny_call (codeAny_mono (F.run X.A X.stack s H ⟨us, []⟩ us vs Q E0 hr I.env0 b r h) fun r s' hq => ?_)
  cases r with
  | error e => exact False.elim hq
  | ok fl =>
    cases fl with
    | ret u => exact I.after hq
    | next => exact False.elim hq
    | brk => exact False.elim hq
    | cont => exact False.elim hq
/-- x == y by an own __eq__, in an except suite -/
theorem op_eqW (c : EqC X.K C f) (F : FnW X.prog X.w X.K X.mg X.base k f fd ps sp) (hr : RoomH k X.A) (hb : Binds X.K fd ps []) : OpR X (compareOp .Eq) (rEqO C sp E0) := by
  intro pins s σ H x y v u Q I rx ry h
  obtain ⟨p, q, dp, dq, fp, fq, rfl, rfl, hp, hq, k⟩ := h
  cases rx
  cases ry
  obtain ⟨ox, od, J, _⟩ := ins_inst I hp
  obtain ⟨oy, oe, J2, _⟩ := ins_inst I hq
  obtain ⟨m, Fr⟩ := I.fr
  show wpAny _ _ (richCompare .Eq (.ref p) (.ref q)) _ _ _
  refine PySem.W.cmp_K (op := .Eq) (tb := .ref C) (by have := hr.un; omega) Fr I.ok.mod.kin J J2.type first_self c.at_ c.fn ?_
  exact wpAny_mono (run_fnW (us := [.ref p, .ref q]) (vs := [.ref p, .ref q]) F hr hb I (.cons rfl (.cons rfl .nil)) k) (fun v s' z => back_of z) fun _ _ z => z
/-- a def that may raise, one level down -/
theorem run_fn1S {pins : List (Addr × Obj)} {σ : L2.St} {H : Hp} {s : Shared} {Q : VK} {us : List Value} {vs : List V} (F : FnOk X.prog X.w X.K X.mg X.base CX k f fd ps sp) (hr : Room (k + 1) X.A) (hb : Binds X.K fd ps []) (hx : PassesAt CX X σ (E σ))
    (I : Inv X pins σ H s) (r : Vals vs us) (h : sp vs H Q (E σ)) : wpAny (model X.prog X.w) X.A.in1 (call (.ref f) us) (EP X pins σ Q) X.xe s := by
  have hl : us.length = ps.length := by rw [← r.length]; exact F.len _ _ _ _ h
  have hb' := hb s us I.kIn (by rw [List.append_nil]; exact hl)
  rw [List.append_nil] at hb'
  refine wpAny_call (codeAny_mono (F.run X.A.in1 X.stack s H ⟨us, []⟩ us vs Q (E σ) hr.in1 I.env0.in1 hb' r h) fun r s' hq => ?_)
  cases r with
  | error e => exact hx pins H s e s' I hq
  | ok fl =>
    cases fl with
    | ret u => exact I.after hq
    | next => exact False.elim hq
    | brk => exact False.elim hq
    | cont => exact False.elim hq
/-- o[x] by an own __getitem__ that may raise -/
def tIxS (C : Addr) (sp : Sp) (E : L2.St → XK) (ta tb : TE) : TE := fun σ H Q => ta σ H fun x H1 => tb σ H1 fun y H2 => rIxO C sp (E σ) x y H2 Q
theorem pe_ixS (c : Spc X.K C "__getitem__" f) (hf : PySem.W.fnIn X.K f = true) (F : FnOk X.prog X.w X.K X.mg X.base CX k f fd ps sp) (hr : Room (k + 1) X.A) (hb : Binds X.K fd ps []) (hx : ∀ σ, PassesAt CX X σ (E σ)) (ha : PE X a ta) (hi : PE X b tb)
    (hsl : ∀ o i, subscripted b true (.ref o) i = runValue (.builtin "lifetime.subscript" ⟨[.ref o, i], []⟩) := by intro _ _; rfl) : PE X (.Subscript a b pos) (tIxS C sp E ta tb) := by
  refine ⟨fun pins s σ H Q I h => ?_⟩
  refine Subscript_ (binT ha hi I (R := fun x y H2 => rIxO C sp (E σ) x y H2 Q) h fun v u s2 x y H2 I2 rx ry q => ?_)
  obtain ⟨p, dp, fp, rfl, hp, q⟩ := q
  cases rx
  obtain ⟨ox, od, J, _⟩ := ins_inst I2 hp
  obtain ⟨m, Fr⟩ := I2.fr
  exact PySem.W.sub_K Fr I2.ok.mod.kin J c.at_ hf c.fn (run_fn1S (us := [.ref p, u]) (vs := [.ref p, y]) F hr hb (hx σ) I2 (.cons rfl (.cons ry .nil)) q) (hsl _ _)
end
end Cs
theorem L2H.RoomH.units {k : Nat} {A : PySem.Around} (r : L2H.RoomH k A) : A.units + 64 < PySem.cLine := by have := r.un; omega
theorem Cs.roomM {k : Nat} {A : PySem.Around} {v : Option PySem.Value} (r : L2.Room k A) : L2H.RoomH k (A.mark v) := ⟨r.dp, r.un⟩

set_option Elab.async false
set_option linter.all false
set_option maxRecDepth 100000
set_option maxHeartbeats 4000000
/-! C(e, .., k = e2, ..) whose __init__ may raise, inside a try. -/
namespace Cs
open PySem PySem.Spec PyProof.Rows L2
section
variable {X : Cx} {CX : CXT} {k n : Nat} {f C : Addr} {fd : FuncData} {ps ks : List Str} {sp : Sp} {E : L2.St → XK} {x : Str} {p pos : Pos} {e : Expr} {es : List Expr} {kws : List Keyword} {t tk : TA} {g : List Value → List Value → List Value} {gV : List V → List V → List V} {ds : List Value} {dvs : List V}
/-- the instance made, its __init__ run, an error let out -/
theorem made_S {pins : List (Addr × Obj)} {σ : L2.St} {H : Hp} {s : Shared} {Q : VK} {us all : List Value} {kw : List (Str × Value)} {vall : List V} (M : Mk X.K C f) (F : FnOk X.prog X.w X.K X.mg X.base CX k f fd ps sp) (hr : Room (k + 1) X.A) (hx : PassesAt CX X σ (E σ)) (I : Inv X pins σ H s) (r2 : Vals vall all)
    (hb : ∀ s' : Shared, X.K.In s'.heap → all.length = ps.length → BindsTo s' fd ⟨Value.ref (s.heap.objs.size + 1) :: us, kw⟩ (ps.zip all))
    (hq : sp vall (upd (upd H s.heap.objs.size (.own (s.heap.objs.size + 1))) (s.heap.objs.size + 1) (.ins C s.heap.objs.size [])) (fun v H2 => v = .non ∧ Q (.ref (s.heap.objs.size + 1)) H2) (E σ)) :
    wpAny (model X.prog X.w) X.A (call (.ref C) us kw) (EP X pins σ Q) X.xe s := by
  have I2 := Inv.made (C := C) I
  have hl : all.length = ps.length := by rw [← r2.length]; exact F.len _ _ _ _ hq
  refine wpAny_call (make_map (f := f) I.kIn M.makes M.init (beq_iff_eq.mp M.fn) (codeAny_mono (F.run _ X.stack _ _ ⟨Value.ref (s.heap.objs.size + 1) :: us, kw⟩ all _ _ (E σ) (hr.make C us kw)
    (I2.env0.make C us kw) (hb _ I2.kIn hl) r2 hq) fun r s' hq' => ?_))
  cases r with
  | error e => exact hx pins _ _ e s' I2 hq'
  | ok fl =>
    cases fl with
    | ret u =>
      obtain ⟨v, H', I3, rv, ev, q3⟩ := I2.after hq'
      subst ev
      exact ⟨rv, ⟨V.ref (s.heap.objs.size + 1), H', I3, rfl, q3⟩⟩
    | next => exact False.elim hq'
    | brk => exact False.elim hq'
    | cont => exact False.elim hq'
def tMakeS (C : Addr) (sp : Sp) (dvs : List V) (E : L2.St → XK) (t : TA) : TE := fun σ H Q => t σ H fun vs H1 => ∀ x dx, H1 x = none → H1 dx = none → dx ≠ x →
  sp (.ref x :: (vs ++ dvs)) (upd (upd H1 dx (.own x)) x (.ins C dx [])) (fun v H2 => v = .non ∧ Q (.ref x) H2) (E σ)
theorem pe_makeS (M : Mk X.K C f) (F : FnOk X.prog X.w X.K X.mg X.base CX k f fd ps sp) (hr : Room (k + 1) X.A) (hg : Gl X x) (hm : X.mg x = some (.ref C)) (hb : Binds X.K fd ps ds) (hd : Vals dvs ds) (hx : ∀ σ, PassesAt CX X σ (E σ))
    (ha : PA X (e :: es) t) (hdb : (x == ("__debug__" : Str)) = false := by decide) (he : starEach (e :: es) X.env = (false, eval e X.env) :: starEach es X.env := by rfl) (hpl : (backTo pos (starEach es X.env)).any (·.1) = false := by rfl) :
    PE X (.Call (.Name x p) (e :: es) [] pos) (tMakeS C sp dvs E t) := by
  refine ⟨fun pins s σ H Q I h => ?_⟩
  refine wpAny_Call_Name_kw (ld_glob I hg hm ?_ hdb)
  refine PySem.W.callWith_K (h₀ := X.base) I.ok.mod.kin M.kp (thn (ha.run pos pins s σ H _ I h) fun us s1 ⟨vs, H1, I1, r, q⟩ => ⟨I1.kIn, ?_⟩) he hpl
  have hq := q (s1.heap.objs.size + 1) s1.heap.objs.size (I1.hok.fresh (Nat.le_succ _)) (I1.hok.fresh (Nat.le_refl _)) (Nat.ne_of_lt (Nat.lt_succ_self _))
  exact made_S M F hr (hx σ) I1 (all := Value.ref (s1.heap.objs.size + 1) :: (us ++ ds)) (vall := V.ref (s1.heap.objs.size + 1) :: (vs ++ dvs)) (.cons rfl (r.append hd)) (fun s' kin hl => hb s' (Value.ref (s1.heap.objs.size + 1) :: us) kin hl) hq
def tMakeKS (C : Addr) (n m : Nat) (sp : Sp) (gV : List V → List V → List V) (E : L2.St → XK) (t tk : TA) : TE := fun σ H Q => t σ H fun vs H1 => tk σ H1 fun zs H2 => vs.length = n ∧ zs.length = m ∧ ∀ x dx, H2 x = none → H2 dx = none → dx ≠ x →
  sp (gV (.ref x :: vs) zs) (upd (upd H2 dx (.own x)) x (.ins C dx [])) (fun v H3 => v = .non ∧ Q (.ref x) H3) (E σ)
theorem pe_makeKS (M : Mk X.K C f) (F : FnOk X.prog X.w X.K X.mg X.base CX k f fd ps sp) (hr : Room (k + 1) X.A) (hg : Gl X x) (hm : X.mg x = some (.ref C)) (hb : KBn X.K fd ps (n + 1) ks g gV) (hx : ∀ σ, PassesAt CX X σ (E σ)) (ha : PA X (e :: es) t) (hkw : PK X kws tk)
    (hall : (backToKw pos (keywordEach kws X.env)).all (·.1.isSome) = true := by rfl) (hks : (backToKw pos (keywordEach kws X.env)).filterMap (·.1) = ks := by rfl) (hdb : (x == ("__debug__" : Str)) = false := by decide)
    (he : starEach (e :: es) X.env = (false, eval e X.env) :: starEach es X.env := by rfl) (hpl : ((backTo pos (starEach (e :: es) X.env)).any (·.1) || (backToKw pos (keywordEach kws X.env)).any (·.1.isNone)) = false := by rfl) :
    PE X (.Call (.Name x p) (e :: es) kws pos) (tMakeKS C n ks.length sp gV E t tk) := by
  refine ⟨fun pins s σ H Q I h => ?_⟩
  refine wpAny_Call_Name_kw (ld_glob I hg hm ?_ hdb)
  refine PySem.W.callWith_KW (h₀ := X.base) I.ok.mod.kin M.kp hall (thn (ha.run pos pins s σ H _ I h) fun us s1 ⟨vs, H1, I1, r, q⟩ => ?_) hpl he
  refine thn (hkw.run pos pins s1 σ H1 _ I1 q) fun ws s2 ⟨zs, H2, I2, rz, l1, l2, q2⟩ => ⟨I2.kIn, ?_⟩
  rw [hks]
  have hq := q2 (s2.heap.objs.size + 1) s2.heap.objs.size (I2.hok.fresh (Nat.le_succ _)) (I2.hok.fresh (Nat.le_refl _)) (Nat.ne_of_lt (Nat.lt_succ_self _))
  have r1 : Vals (V.ref (s2.heap.objs.size + 1) :: _) (Value.ref (s2.heap.objs.size + 1) :: us) := .cons rfl r
  have n1 : (Value.ref (s2.heap.objs.size + 1) :: us).length = n + 1 := by
    rw [List.length_cons, ← r.length, l1]
  exact made_S M F hr (hx σ) I2 (hb.rel r1 rz) (fun s' kin _ => hb.to s' (Value.ref (s2.heap.objs.size + 1) :: us) ws kin n1 (rz.length.symm.trans l2)) hq
end
end Cs

set_option Elab.async false
set_option linter.all false
set_option maxRecDepth 100000
set_option maxHeartbeats 4000000
/-! C(k = e, ..) whose __init__ may raise, inside a try. -/
namespace Cs
open PySem PySem.Spec PyProof.Rows L2
def tMkKwS (C : Addr) (sp : Sp) (E : L2.St → XK) (n : Nat) (tk : TA) : TE := fun σ H Q => tk σ H fun zs H1 => zs.length = n ∧ ∀ x dx, H1 x = none → H1 dx = none → dx ≠ x → sp (.ref x :: zs) (upd (upd H1 dx (.own x)) x (.ins C dx [])) (fun v H2 => v = .non ∧ Q (.ref x) H2) (E σ)
section
variable {X : Cx} {CX : CXT} {k : Nat} {f C : Addr} {sp : Sp} {E : L2.St → XK} {x : Str} {p pos : Pos} {kws : List Keyword} {ks : List Str} {tk : TA}
theorem run_makeKwS {pins : List (Addr × Obj)} {σ : L2.St} {H : Hp} {s : Shared} {Q : VK} {ws : List Value} {zs : List V} (M : Mk X.K C f) (F : FnKw X.prog X.w X.K X.mg X.base CX k f ks sp) (hr : Room (k + 1) X.A) (hx : PassesAt CX X σ (E σ)) (I : Inv X pins σ H s) (r : Vals zs ws) (hz : zs.length = ks.length)
    (h : ∀ x dx, H x = none → H dx = none → dx ≠ x → sp (V.ref x :: zs) (upd (upd H dx (.own x)) x (.ins C dx [])) (fun v H2 => v = .non ∧ Q (.ref x) H2) (E σ)) :
    wpAny (model X.prog X.w) X.A (call (.ref C) [] (ks.zip ws)) (EP X pins σ Q) X.xe s := by
  have hq := h (s.heap.objs.size + 1) s.heap.objs.size (I.hok.fresh (Nat.le_succ _)) (I.hok.fresh (Nat.le_refl _)) (Nat.ne_of_lt (Nat.lt_succ_self _))
  have I2 := Inv.made (C := C) I
  refine wpAny_call (make_map (f := f) I.kIn M.makes M.init (beq_iff_eq.mp M.fn) (codeAny_mono (F _ X.stack _ _ (Value.ref (s.heap.objs.size + 1)) (V.ref (s.heap.objs.size + 1)) ws zs _ (E σ) (hr.make C [] (ks.zip ws)) (I2.env0.make C [] (ks.zip ws)) rfl r hz hq) fun r s' hq' => ?_))
  cases r with
  | error e => exact hx pins _ _ e s' I2 hq'
  | ok fl =>
    cases fl with
    | ret u =>
      obtain ⟨v, H', I3, rv, ev, q3⟩ := I2.after hq'
      subst ev
      exact ⟨rv, ⟨V.ref (s.heap.objs.size + 1), H', I3, rfl, q3⟩⟩
    | next => exact False.elim hq'
    | brk => exact False.elim hq'
    | cont => exact False.elim hq'
theorem pe_mkKwS (M : Mk X.K C f) (F : FnKw X.prog X.w X.K X.mg X.base CX k f ks sp) (hr : Room (k + 1) X.A) (hg : Gl X x) (hm : X.mg x = some (.ref C)) (hx : ∀ σ, PassesAt CX X σ (E σ)) (hkw : PK X kws tk) (hdb : (x == ("__debug__" : Str)) = false := by decide)
    (hall : (backToKw pos (keywordEach kws X.env)).all (·.1.isSome) = true := by rfl) (hks : (backToKw pos (keywordEach kws X.env)).filterMap (·.1) = ks := by rfl)
    (hpl : ((backTo pos (starEach [] X.env)).any (·.1) || (backToKw pos (keywordEach kws X.env)).any (·.1.isNone)) = false := by rfl) :
    PE X (.Call (.Name x p) [] kws pos) (tMkKwS C sp E ks.length tk) := by
  refine ⟨fun pins s σ H Q I h => ?_⟩
  refine wpAny_Call_Name_kw (ld_glob I hg hm ?_ hdb)
  refine PySem.W.callWith_KW0 (h₀ := X.base) I.ok.mod.kin M.kp hall (thn (hkw.run pos pins s σ H _ I h) fun ws s2 ⟨zs, H2, I2, rz, l2, q2⟩ => ⟨I2.kIn, ?_⟩) hpl
  rw [hks]
  exact run_makeKwS M F hr (hx σ) I2 rz l2 q2
end
end Cs

set_option Elab.async false
set_option linter.all false
set_option maxRecDepth 100000
set_option maxHeartbeats 4000000
set_option pp.maxSteps 600
/-! Counts refused: what is no word, no pair, no list. -/
namespace Cs
open PySem L2
theorem FnOk.or {P : Program} {w : World} {K : PySem.W.Frag} {mg : Str → Option Value} {base : Heap} {CX : CXT} {k : Nat} {f : Addr} {fd : FuncData} {ps : List Str} {sp sp' : Sp} (F : FnOk P w K mg base CX k f fd ps sp) (G : FnOk P w K mg base CX k f fd ps sp') :
    FnOk P w K mg base CX k f fd ps (fun vs H Q E => sp vs H Q E ∨ sp' vs H Q E) :=
  ⟨fun vs H Q E h => h.elim (F.len vs H Q E) (G.len vs H Q E), fun A outer s H args us vs Q E hr e0 b r h => h.elim (F.run A outer s H args us vs Q E hr e0 b r) (G.run A outer s H args us vs Q E hr e0 b r)⟩
/-- no text -/
def NStr (K : PySem.W.Frag) (H : Hp) (x : V) : Prop := ∃ T, TyX K H x T ∧ PySem.W.kitOne K T (.type "str") = some false
/-- no word -/
def NW (K : PySem.W.Frag) (H : Hp) (x : V) : Prop := (∃ z, x = .str z ∧ z.length ≤ 100000 ∧ wordB z = false) ∨ NStr K H x
/-- no pair -/
def BadE (K : PySem.W.Frag) (H : Hp) (x : V) : Prop := (∃ T, TyX K H x T ∧ PySem.W.kitOne K T (.type "tuple") = some false) ∨
  ∃ (t : Addr) (vs : List V), x = .ref t ∧ H t = some (.tup vs) ∧ (vs.length ≠ 2 ∨ ∃ a b, vs = [a, b] ∧ ((∀ H', Same H H' → NW K H' a) ∨ ∃ z, a = .str z ∧ Word z ∧ Wrong K b))
/-- no list, no tuple -/
def NSeq (K : PySem.W.Frag) (H : Hp) (x : V) : Prop := ∃ T, TyX K H x T ∧ PySem.W.kitOne K T (.type "list") = some false ∧ PySem.W.kitOne K T (.type "tuple") = some false
def spIsWordN (K : PySem.W.Frag) : Sp := fun vs H Q _ => ∃ x, vs = [x] ∧ NStr K H x ∧ Q (.bl false) H
def spIsWordU (K : PySem.W.Frag) : Sp := fun vs H Q E => spIsWord K vs H Q E ∨ spIsWordN K vs H Q E
def spIsPairN (K : PySem.W.Frag) : Sp := fun vs H Q _ => ∃ x, vs = [x] ∧ BadE K H x ∧ ∀ H', Same H H' → Q (.bl false) H'
def spIsPairU (K : PySem.W.Frag) : Sp := fun vs H Q E => spIsPair K vs H Q E ∨ spIsPairN K vs H Q E
theorem ask_nw {K : PySem.W.Frag} {H : Hp} {x : V} {Q : VK} {E : XK} (h : NW K H x) (k : ∀ H', Same H H' → Q (.bl false) H') : spIsWordU K [x] H Q E := by
  rcases h with ⟨z, rfl, hz, e⟩ | h
  · exact .inl (.inl ⟨z, rfl, hz, fun H' s => by rw [e]; exact k H' s⟩)
  · exact .inr ⟨x, rfl, h, k H (Same.refl H)⟩
theorem ask_w {K : PySem.W.Frag} {H : Hp} {z : Str} {Q : VK} {E : XK} (h : Word z) (k : ∀ H', Same H H' → Q (.bl true) H') : spIsWordU K [.str z] H Q E :=
  .inl (.inl ⟨z, rfl, Nat.le_trans h.2.1 (by decide), fun H' s => by rw [wordB_of h]; exact k H' s⟩)
theorem ask_wrong {K : PySem.W.Frag} {H : Hp} {y : V} {Q : VK} {E : XK} (h : Wrong K y) (k : Q (.bl false) H) : spIsSmall K [y] H Q E := by
  rcases h with ⟨n, rfl, hn⟩ | hw
  · refine .inl ⟨n, rfl, ?_⟩
    have e : (decide (-(10 ^ 30) < n) && decide (n < 10 ^ 30)) = false := by
      rw [Bool.and_eq_false_iff]
      by_cases c : -(10 ^ 30) < n
      · exact .inr (decide_eq_false fun q => hn ⟨c, q⟩)
      · exact .inl (decide_eq_false c)
    rw [e]
    exact k
  · exact .inr ⟨y, rfl, hw H, k⟩
theorem ask_small {K : PySem.W.Frag} {H : Hp} {n : Int} {Q : VK} {E : XK} (hn : Small n) (k : Q (.bl true) H) : spIsSmall K [.int n] H Q E := by
  refine .inl ⟨n, rfl, ?_⟩
  rw [decide_eq_true hn.1, decide_eq_true hn.2]
  exact k
/-- an error of the class at B with one field is wished -/
def Xw (B : Addr) (fld : Str) (y : V) (H : Hp) (E : XK) : Prop := ∀ (H' : Hp) (dd : Addr), Same H H' → H' dd = none → E (.ref B) (some dd) (upd H' dd (.xd [(fld, y)]))
def spOfN (K : PySem.W.Frag) (C B : Addr) : Sp := fun vs H _ E => ∃ x : V, vs = [.ref C, x] ∧ (((∀ H', Same H H' → NSeq K H' x) ∧ Xw B "at" (.int (-1)) H E) ∨
  ∃ (a : Addr) (xs : List V) (f : Nat) (gs : List (Str × Int)) (y : V), x = .ref a ∧ H a = some (.lst xs) ∧ xs[f]? = some y ∧ PrL H (xs.take f) gs ∧ GoodPs gs ∧ (∀ H', Same H H' → BadE K H' y) ∧ Xw B "at" (.int f) H E)
def spGetN (K : PySem.W.Frag) (C B : Addr) : Sp := fun vs H _ E => ∃ (p dx : Addr) (fs : List (Str × V)) (x : V), vs = [.ref p, x] ∧ H p = some (.ins C dx fs) ∧ NW K H x ∧ Xw B "word" x H E
def spSetN (K : PySem.W.Frag) (C B : Addr) : Sp := fun vs H _ E => ∃ (p dx : Addr) (fs : List (Str × V)) (x y : V), vs = [.ref p, x, y] ∧ H p = some (.ins C dx fs) ∧ NW K H x ∧ Xw B "word" x H E
def spHasN (K : PySem.W.Frag) (C : Addr) : Sp := fun vs H Q _ => ∃ (p dx : Addr) (fs : List (Str × V)) (x : V), vs = [.ref p, x] ∧ H p = some (.ins C dx fs) ∧ NW K H x ∧ ∀ H', Same H H' → Q (.bl false) H'
section
variable {P : Program} {w : World} {K : PySem.W.Frag} {mg : Str → Option Value} {base : Heap}
theorem ok_xword {B f : Addr} {fd : FuncData} (F : Fun K "__init__" "BadWord.__init__" s_BadWord_init f fd) (T : OexC K B) (hno : PySem.W.findIn K (.ref B) "word" = some none) : FnOk P w K mg base CX0 1 f fd ["self", "word"] (spXi B "word") := by
  refine F.ok sc_BadWord_init (fun vs H Q E h => ?_) (fun cdv A outer s H vs Q E hr h => ?_)
  · obtain ⟨_, _, rfl, _⟩ := h
    rfl
  · obtain ⟨a, y, rfl, ha, k⟩ := h
    refine ⟨_, (pss_one (ps_ost (pv 0) (pv 1))), ?_⟩
    exact ⟨_, rfl, _, rfl, a, B, rfl, T, hno, .inl ⟨ha, fun dx hdx ne => k dx hdx ne⟩⟩
theorem ok_xcounts {B f : Addr} {fd : FuncData} (F : Fun K "__init__" "BadCounts.__init__" s_BadCounts_init f fd) (T : OexC K B) (hno : PySem.W.findIn K (.ref B) "at" = some none) : FnOk P w K mg base CX0 1 f fd ["self", "at"] (spXi B "at") := by
  refine F.ok sc_BadCounts_init (fun vs H Q E h => ?_) (fun cdv A outer s H vs Q E hr h => ?_)
  · obtain ⟨_, _, rfl, _⟩ := h
    rfl
  · obtain ⟨a, y, rfl, ha, k⟩ := h
    refine ⟨_, (pss_one (ps_ost (pv 0) (pv 1))), ?_⟩
    exact ⟨_, rfl, _, rfl, a, B, rfl, T, hno, .inl ⟨ha, fun dx hdx ne => k dx hdx ne⟩⟩
theorem ok_is_wordN {f : Addr} {fd : FuncData} {tk : Tok} (F : Fun K "is_word" "is_word" s_is_word f fd) (g : Bi mg) (mLET : mg "LETTERS" = some (.str LET tk)) : FnOk P w K mg base CX0 1 f fd ["thing"] (spIsWordN K) := by
  refine F.ok sc_is_word (fun vs H Q E h => ?_) (fun cdv A outer s H vs Q E hr h => ?_)
  · obtain ⟨_, rfl, _⟩ := h
    rfl
  · refine ⟨_, (pss_cons (ps_if (PW.pt (pw_or (pt_not (pt_val (pe_callB call_isi (by rfl) g.isinstance (by decide +kernel) (pa_cons (pv 0) (pa_cons (pe_bltn (v := .ty "str") (by rfl) g.str (by decide +kernel) rfl) pa_nil))))) (pw_or1 (pt_not (pt_chain op_le op_le pe_int (pe_callB call_len (by rfl) g.len PySem.boot_len (pa_cons (pv 0) pa_nil)) pe_int))))) (pss_one (ps_ret pe_bl)) pss_nil)
      (pss_one (ps_ret (pe_callB (cr_all rfl) (by rfl) g.all (by decide +kernel) (pa_cons (pe_lc (own := [("sign", 1)]) (g := gName 1)  (by rfl) sc_is_word.nd (pi_str (pv 0)) (blkOk_by (own := [("sign", 1)]) (N := ["thing", "sign"]) (sc := defScope s_is_word) (by decide +kernel)) (fun _ _ _ _ _ => (pg_name (i := 1) sc_is_word.nd rfl (Or.inl rfl))) (fun _ _ _ _ _ => pts_nil) (fun _ _ _ _ _ => (pe_cmpR op_in_sign (pv 1) (pe_glob (v := .str LET) rfl mLET ⟨_, rfl⟩) (by rfl)))) pa_nil))))), ?_⟩
    obtain ⟨x, rfl, ⟨T, ht, hc⟩, q⟩ := h
    exact ⟨_, rfl, _, _, _, _, false, rfl, .ty "str", ht, hc, _, rfl, iteT q⟩
theorem ok_is_pairN {f fIw fIs : Addr} {fd fdIw fdIs : FuncData} (F : Fun K "is_pair" "is_pair" s_is_pair f fd) (g : Bi mg) (FIw : Def P w K mg base CX0 1 "is_word" ["thing"] (spIsWordU K) fIw fdIw) (FIs : Def P w K mg base CX0 2 "is_small" ["thing"] (spIsSmall K) fIs fdIs) :
    FnOk P w K mg base CX0 3 f fd ["thing"] (spIsPairN K) := by
  obtain ⟨GIw, mIw, _, bIw⟩ := id FIw
  obtain ⟨GIs, mIs, _, bIs⟩ := id FIs
  refine F.ok sc_is_pair (fun vs H Q E h => ?_) (fun cdv A outer s H vs Q E hr h => ?_)
  · obtain ⟨_, rfl, _⟩ := h
    rfl
  · obtain ⟨x, rfl, hx, k⟩ := h
    have hrIw : Room 1 _ := hr.mono (by decide)
    have hrIs : Room 2 _ := hr.mono (by decide)
    refine ⟨_, (pss_one (ps_ret (pe_and (pe_callB call_isi (by rfl) g.isinstance (by decide +kernel) (pa_cons (pv 0) (pa_cons (pe_bltn (v := .ty "tuple") (by rfl) g.tuple (by decide +kernel) rfl) pa_nil))) (pe_and (pe_cmpR op_eq (pe_callB call_len (by rfl) g.len PySem.boot_len (pa_cons (pv 0) pa_nil)) pe_int (nomark _)) (pe_and (pe_call GIw hrIw rfl mIw FIw.kp bIw .nil pass0 (pa_cons (pe_ix ix_tup (pv 0) pe_int (fun _ _ => rfl)) pa_nil)) (pe_one (pe_call GIs hrIs rfl mIs FIs.kp bIs .nil pass0 (pa_cons (pe_ix ix_tup (pv 0) pe_int (fun _ _ => rfl)) pa_nil)))))))), ?_⟩
    rcases hx with ⟨T, ht, hc⟩ | ⟨t, vs, rfl, ht, hx⟩
    · exact ⟨_, rfl, _, _, _, _, false, rfl, .ty "tuple", ht, hc, _, rfl, iteF (k H (Same.refl H))⟩
    · refine ⟨_, rfl, _, _, _, _, true, rfl, .ty "tuple", .base (.tup ht), kit_ty (by decide +kernel), _, rfl, iteT ?_⟩
      refine ⟨_, rfl, _, _, rfl, .inr ⟨_, SqT.of ht, rfl⟩, rfl, _, rfl, ?_⟩
      by_cases c : vs.length = 2
      · rw [decide_eq_true (show V.int (vs.length : Nat) = V.int 2 by rw [c]; rfl)]
        refine iteT ?_
        rcases hx with n | ⟨a, b, rfl, hx⟩
        · exact absurd c n
        · refine ⟨_, rfl, t, _, 0, _, rfl, rfl, SqT.of ht, rfl, ?_⟩
          rcases hx with ha | ⟨z, rfl, hz, hb⟩
          · exact ask_nw (ha H (Same.refl H)) fun H' s' => ⟨_, rfl, iteF (k H' s')⟩
          · refine ask_w hz fun H' s' => ⟨_, rfl, iteT ?_⟩
            exact ⟨_, rfl, t, _, 1, _, rfl, rfl, SqT.of (s' _ _ ht), rfl, ask_wrong (E := E0) hb (k H' s')⟩
      · rw [decide_eq_false (show ¬ V.int (vs.length : Nat) = V.int 2 from fun q => c (by have := V.int.inj q; omega))]
        exact iteF (k H (Same.refl H))
theorem ok_ofN {C B f fIp fX : Addr} {fd fdIp fdX : FuncData} {fI : Addr} (F : Fun K "of" "Counts.of" s_Counts_of f fd) (g : Bi mg) (T : CT P w K mg base C fI) (FIp : Def P w K mg base CX0 3 "is_pair" ["thing"] (spIsPairU K) fIp fdIp)
    (XC : XDef P w K mg base "BadCounts" B fX "at" ["self", "at"] fdX) : FnOk P w K mg base (L2.CX P w) 4 f fd ["cls", "pairs"] (spOfN K C B) := by
  obtain ⟨GIp, mIp, _, bIp⟩ := id FIp
  refine F.okX sc_Counts_of (fun vs H Q E h => ?_) (fun cdv A outer s H vs Q E hr h => ?_)
  · obtain ⟨_, rfl, _⟩ := h
    rfl
  · obtain ⟨x, rfl, hk⟩ := h
    have hrIp : Room 3 _ := hr.mono (by decide)
    have hrI : Room 2 _ := hr.mono (by decide)
    have hrX : Room 2 _ := hr.mono (by decide)
    refine ⟨_, (pss_cons (ps_if (pt_not (pt_val (pe_callB call_isiT (by rfl) g.isinstance (by decide +kernel) (pa_cons (pv 1) (pa_cons (pe_tup (pa_cons (pe_bltn (v := .ty "list") (by rfl) g.list (by decide +kernel) rfl) (pa_cons (pe_bltn (v := .ty "tuple") (by rfl) g.tuple (by decide +kernel) rfl) pa_nil))) pa_nil))))) (pss_one (ps_raise rfl (takes_of rfl rfl rfl rfl) (pmk_oex XC.c XC.iC XC.tI XC.ok hrX XC.b .nil pass0 rfl XC.mg_ (pa_cons (pe_un un_neg pe_int) pa_nil)))) pss_nil)
      (pss_cons (ps_for (passes_of rfl) rfl (pi_enum (by rfl) g.enumerate (pa_cons (pv 1) pa_nil)) (pg_tup rfl (pgs_cons (pg_name (i := 2) sc_Counts_of.nd rfl (Or.inl rfl)) (pgs_cons (pg_name (i := 3) sc_Counts_of.nd rfl (Or.inl rfl)) pgs_nil))) (pss_one (ps_if (pt_not (pt_val (pe_call GIp hrIp rfl mIp FIp.kp bIp .nil pass0 (pa_cons (pv 3) pa_nil)))) (pss_one (ps_raise rfl (takes_of rfl rfl rfl rfl) (pmk_oex XC.c XC.iC XC.tI XC.ok hrX XC.b .nil pass0 rfl XC.mg_ (pa_cons (pv 2) pa_nil)))) pss_nil)))
      (pss_one (ps_ret (pe_mkSL (i := 0) T.mke T.ini hrI rfl (Or.inl rfl) pass0 (pv 1)))))), ?_⟩
    refine ⟨_, rfl, by show 2 ≤ sizeLine; decide, fun tp htp => ?_⟩
    have s1 : Same H (upd H tp (.tup [.ty "list", .ty "tuple"])) := Same.new htp
    rcases hk with ⟨hx, k⟩ | ⟨a, xs, n, gs, y, rfl, ha, hf, hP, hG, hB, k⟩
    · obtain ⟨T0, h0, h1, h2⟩ := hx _ s1
      refine ⟨_, tp, _, _, _, false, rfl, upd_same, .cons (.ty "list") (.cons (.ty "tuple") .nil), h0, kitAny_cons (b := false) h1 (fun _ => kitAny_cons (b := false) h2 (fun _ => rfl) (fun h => by cases h)) (fun h => by cases h), _, rfl, iteT ?_⟩
      exact ⟨_, rfl, xmk fun dx hdx => k _ dx s1 hdx⟩
    · refine ⟨_, tp, _, _, _, true, rfl, upd_same, .cons (.ty "list") (.cons (.ty "tuple") .nil), .base (.lst (s1 _ _ ha)), kitAny_cons (b := true) (kit_ty (b := "list") (by decide +kernel)) (fun h => by cases h) (fun _ => rfl), _, rfl, iteF ?_⟩
      have hnl : n < xs.length := (List.getElem?_eq_some_iff.mp hf).1
      refine ⟨_, rfl, a, xs, rfl, SqL.of (s1 _ _ ha), ?_⟩
      refine for_it (walk_enum (xs := xs)) (fun i σ' H' => i ≤ n ∧ ∃ x2 x3 : Option V, σ' = [some (.ref C), some (.ref a), x2, x3] ∧ Same H H') ⟨Nat.zero_le _, _, _, rfl, s1⟩ (fun i σ' H' _ ⟨_, _, _, _, h⟩ => SqL.of (h _ _ ha)) ?_ ?_
      · rintro i v σ' H' H2 hi ⟨hin, x2, x3, rfl, s'⟩ ⟨T2, x, y2, rfl, hT2, rfl, ex, ey⟩
        obtain rfl : V.int (i : Nat) = x := Option.some.inj ex
        have sT : Same H' (upd H' T2 (.tup [.int (i : Nat), y2])) := Same.new hT2
        refine ⟨T2, _, rfl, SqT.of upd_same, rfl, _, _, rfl, _, _, rfl, rfl, ?_⟩
        by_cases c : i = n
        · subst c
          obtain rfl : y2 = y := by
            have ey' : xs[i]? = some y2 := ey
            rw [hf] at ey'
            exact (Option.some.inj ey').symm
          refine ⟨_, rfl, .inr ⟨_, rfl, hB _ (s'.trans sT), fun H3 s3 => ⟨_, rfl, iteT ?_⟩⟩⟩
          exact ⟨_, rfl, xmk fun dx hdx => k _ dx ((s'.trans sT).trans s3) hdx⟩
        · have hlt : i < n := by omega
          have hi2 : i < gs.length := by rw [← hP.length, List.length_take]; omega
          obtain ⟨t, et, ht⟩ := hP.at (List.getElem?_eq_getElem hi2)
          obtain rfl : y2 = .ref t := by
            rw [List.getElem?_take_of_lt hlt] at et
            have ey' : xs[i]? = some y2 := ey
            rw [et] at ey'
            exact (Option.some.inj ey').symm
          refine ⟨_, rfl, .inl ⟨t, _, _, rfl, sT _ _ (s' _ _ ht), (hG _ (List.getElem_mem hi2)).1, (hG _ (List.getElem_mem hi2)).2, fun H3 s3 => ⟨_, rfl, iteF ?_⟩⟩⟩
          exact ⟨by omega, _, _, rfl, (s'.trans sT).trans s3⟩
      · rintro σ' H' ⟨hin, _⟩
        exact absurd hin (by omega)
theorem ok_getN {C B f fIw fX : Addr} {fd fdIw fdX : FuncData} {fI : Addr} (F : Fun K "__getitem__" "Counts.__getitem__" s_Counts_getitem f fd) (g : Bi mg) (T : CT P w K mg base C fI) (FIw : Def P w K mg base CX0 1 "is_word" ["thing"] (spIsWordU K) fIw fdIw)
    (XW : XDef P w K mg base "BadWord" B fX "word" ["self", "word"] fdX) : FnOk P w K mg base (L2.CX P w) 3 f fd ["self", "word"] (spGetN K C B) := by
  obtain ⟨GIw, mIw, _, bIw⟩ := id FIw
  refine F.okX sc_Counts_getitem (fun vs H Q E h => ?_) (fun cdv A outer s H vs Q E hr h => ?_)
  · obtain ⟨_, _, _, _, rfl, _⟩ := h
    rfl
  · obtain ⟨p, dx, fs, x, rfl, hp, hx, k⟩ := h
    have hrIw : Room 1 _ := hr.mono (by decide)
    have hrX : Room 2 _ := hr.mono (by decide)
    have hu := hu_of hr
    refine ⟨_, (pss_cons (ps_if (pt_not (pt_val (pe_call GIw hrIw rfl mIw FIw.kp bIw .nil pass0 (pa_cons (pv 1) pa_nil)))) (pss_one (ps_raise rfl (takes_of rfl rfl rfl rfl) (pmk_oex XW.c XW.iC XW.tI XW.ok hrX XW.b .nil pass0 rfl XW.mg_ (pa_cons (pv 1) pa_nil)))) pss_nil)
      (pss_one (ps_ret (pe_dget2 hu (pe_fld (pv 0) rfl) (pv 1) pe_int ⟨rfl, rfl, rfl, rfl⟩)))), ?_⟩
    refine ⟨_, rfl, ask_nw hx fun H1 s1 => ⟨_, rfl, iteT ?_⟩⟩
    exact ⟨_, rfl, xmk fun dx hdx => k H1 dx s1 hdx⟩
theorem ok_setN {C B B2 f fIw fIs fX fX2 : Addr} {fd fdIw fdIs fdX fdX2 : FuncData} {fI : Addr} (F : Fun K "__setitem__" "Counts.__setitem__" s_Counts_setitem f fd) (g : Bi mg) (T : CT P w K mg base C fI) (FIw : Def P w K mg base CX0 1 "is_word" ["thing"] (spIsWordU K) fIw fdIw) (FIs : Def P w K mg base CX0 2 "is_small" ["thing"] (spIsSmall K) fIs fdIs)
    (XW : XDef P w K mg base "BadWord" B fX "word" ["self", "word"] fdX) (XN : XDef P w K mg base "BadNumber" B2 fX2 "number" ["self", "number"] fdX2) : FnOk P w K mg base (L2.CX P w) 3 f fd ["self", "word", "number"] (spSetN K C B) := by
  obtain ⟨GIw, mIw, _, bIw⟩ := id FIw
  obtain ⟨GIs, mIs, _, bIs⟩ := id FIs
  refine F.okX sc_Counts_setitem (fun vs H Q E h => ?_) (fun cdv A outer s H vs Q E hr h => ?_)
  · obtain ⟨_, _, _, _, _, rfl, _⟩ := h
    rfl
  · obtain ⟨p, dx, fs, x, y, rfl, hp, hx, k⟩ := h
    have hrIw : Room 1 _ := hr.mono (by decide)
    have hrIs : Room 2 _ := hr.mono (by decide)
    have hrX : Room 2 _ := hr.mono (by decide)
    have hu := hu_of hr
    refine ⟨_, (pss_cons (ps_if (pt_not (pt_val (pe_call GIw hrIw rfl mIw FIw.kp bIw .nil pass0 (pa_cons (pv 1) pa_nil)))) (pss_one (ps_raise rfl (takes_of rfl rfl rfl rfl) (pmk_oex XW.c XW.iC XW.tI XW.ok hrX XW.b .nil pass0 rfl XW.mg_ (pa_cons (pv 1) pa_nil)))) pss_nil)
      (pss_cons (ps_if (pt_not (pt_val (pe_call GIs hrIs rfl mIs FIs.kp bIs .nil pass0 (pa_cons (pv 2) pa_nil)))) (pss_one (ps_raise rfl (takes_of rfl rfl rfl rfl) (pmk_oex XN.c XN.iC XN.tI XN.ok hrX XN.b .nil pass0 rfl XN.mg_ (pa_cons (pv 2) pa_nil)))) pss_nil)
      (pss_one (ps_if (pt_cmpR op_ne (pv 2) pe_int (nomark _)) (pss_one (ps_dput hu (pe_fld (pv 0) rfl) (pv 1) (pv 2) rfl)) (pss_one (ps_if (pt_cmp (pc_din hu (pv 1) (pe_fld (pv 0) rfl))) (pss_one (ps_ddel (pe_fld (pv 0) rfl) (pv 1))) pss_nil)))))), ?_⟩
    refine ⟨_, rfl, ask_nw hx fun H1 s1 => ⟨_, rfl, iteT ?_⟩⟩
    exact ⟨_, rfl, xmk fun dx hdx => k H1 dx s1 hdx⟩
theorem ok_hasN {C f fIw : Addr} {fd fdIw : FuncData} {fI : Addr} (F : Fun K "__contains__" "Counts.__contains__" s_Counts_contains f fd) (g : Bi mg) (T : CT P w K mg base C fI) (FIw : Def P w K mg base CX0 1 "is_word" ["thing"] (spIsWordU K) fIw fdIw) : FnOk P w K mg base CX0 2 f fd ["self", "word"] (spHasN K C) := by
  obtain ⟨GIw, mIw, _, bIw⟩ := id FIw
  refine F.ok sc_Counts_contains (fun vs H Q E h => ?_) (fun cdv A outer s H vs Q E hr h => ?_)
  · obtain ⟨_, _, _, _, rfl, _⟩ := h
    rfl
  · obtain ⟨p, dx, fs, x, rfl, hp, hx, k⟩ := h
    have hrIw : Room 1 _ := hr.mono (by decide)
    have hu := hu_of hr
    refine ⟨_, (pss_one (ps_ret (pe_and (pe_call GIw hrIw rfl mIw FIw.kp bIw .nil pass0 (pa_cons (pv 1) pa_nil)) (pe_one (pe_cmp (pc_din hu (pv 1) (pe_fld (pv 0) rfl)) rfl))))), ?_⟩
    exact ⟨_, rfl, ask_nw hx fun H1 s1 => ⟨_, rfl, iteF (k H1 s1)⟩⟩
end
end Cs

set_option Elab.async false
set_option linter.all false
set_option maxRecDepth 100000
set_option maxHeartbeats 4000000
set_option pp.maxSteps 600
/-! Counts(k = e, ..) refused. -/
namespace Cs
open PySem L2
theorem valV_kw : ∀ {ks : List Str} {zs : List V}, ks.Nodup → ks.length = zs.length → ∀ {i : Nat} {k : Str} {z : V}, ks[i]? = some k → zs[i]? = some z → valV (kwK ks zs) (Sum.inr k) = some z
  | [], _, _, _, i, k, z, h1, _ => by simp at h1
  | a :: ks, [], _, hl, i, k, z, _, _ => by simp at hl
  | a :: ks, b :: zs, hn, hl, i, k, z, h1, h2 => by
    have e : kwK (a :: ks) (b :: zs) = (Sum.inr a, b) :: kwK ks zs := by unfold kwK; rfl
    rw [e]
    cases i with
    | zero =>
      obtain rfl : a = k := by simpa using h1
      obtain rfl : b = z := by simpa using h2
      exact valV_pos rfl
    | succ i =>
      have h1' : ks[i]? = some k := by simpa using h1
      have h2' : zs[i]? = some z := by simpa using h2
      have hne : a ≠ k := by
        rintro rfl
        exact (List.nodup_cons.mp hn).1 (List.mem_of_getElem? h1')
      rw [valV_neg (by intro q; exact hne (Sum.inr.inj q))]
      exact valV_kw (List.nodup_cons.mp hn).2 (by simpa using hl) h1' h2'
theorem kwK_get {ks : List Str} {zs : List V} {i : Nat} {k : Str} {z : V} (h1 : ks[i]? = some k) (h2 : zs[i]? = some z) : (kwK ks zs)[i]? = some (Sum.inr k, z) := by
  unfold kwK
  rw [List.getElem?_map, List.getElem?_zip_eq_some (z := (k, z)) |>.mpr ⟨h1, h2⟩]
  rfl
theorem kwK_len {ks : List Str} {zs : List V} (h : ks.length = zs.length) : (kwK ks zs).length = ks.length := by
  unfold kwK
  rw [List.length_map, List.length_zip]
  omega
theorem notSmall {n : Int} (hn : ¬ Small n) : (decide (-(10 ^ 30) < n) && decide (n < 10 ^ 30)) = false := by
  rw [Bool.and_eq_false_iff]
  by_cases c : -(10 ^ 30) < n
  · exact .inr (decide_eq_false fun q => hn ⟨c, q⟩)
  · exact .inl (decide_eq_false c)
/-- the first wrong keyword -/
def KwBad (ks : List Str) (zs : List V) (n : Nat) (B1 B2 : Addr) (Wk : V → Prop) (Xk : Addr → Str → V → Prop) : Prop :=
  (∀ j, j < n → ∃ (k : Str) (m : Int), ks[j]? = some k ∧ zs[j]? = some (.int m) ∧ Word k ∧ Small m) ∧
  ∃ (k : Str) (z : V), ks[n]? = some k ∧ zs[n]? = some z ∧ ((wordB k = false ∧ k.length ≤ 100000 ∧ Xk B1 "word" (.str k)) ∨ (Word k ∧ Wk z ∧ Xk B2 "number" z))
def spInitNB (K : PySem.W.Frag) (C B1 B2 : Addr) (ks : List Str) : Sp := fun vs H _ E => ∃ (x pt dn dx : Addr) (zs : List V) (n : Nat), vs = [.ref x, .ref pt, .ref dn] ∧ H x = some (.ins C dx []) ∧ H pt = some (.tup []) ∧ H dn = some (.dK (kwK ks zs)) ∧ ks.Nodup ∧ ks.length = zs.length ∧
  KwBad ks zs n B1 B2 (fun z => ∀ H' : Hp, (∀ b o, H b = some o → b ≠ dn → H' b = some o) → WrongH K H' z) fun B fld y => ∀ (H' : Hp) (dd : Addr), (∀ b o, H b = some o → b ≠ dn → H' b = some o) → H' dd = none → E (.ref B) (some dd) (upd H' dd (.xd [(fld, y)]))
def spInitN (K : PySem.W.Frag) (C B1 B2 : Addr) (ks : List Str) : Sp := fun vs H _ E => ∃ (x dx : Addr) (zs : List V) (n : Nat), vs = .ref x :: zs ∧ H x = some (.ins C dx []) ∧ ks.length = zs.length ∧ KwBad ks zs n B1 B2 (fun z => ∀ H', Same H H' → WrongH K H' z) fun B fld y => Xw B fld y H E
section
variable {P : Program} {w : World} {K : PySem.W.Frag} {mg : Str → Option Value} {base : Heap}
theorem initN_body {C B1 B2 f fIw fIs fX fX2 : Addr} {fdIw fdIs fdX fdX2 : FuncData} {ks : List Str} {cdv : Value} {A : Around} {outer : List Env} {s : Shared} {H : Hp} {vs : List V} {Q : VK} {E : XK} (g : Bi mg) (cl : Cls K C) (nH : NoAttr K C "held")
    (FIw : Def P w K mg base CX0 1 "is_word" ["thing"] (spIsWordU K) fIw fdIw) (FIs : Def P w K mg base CX0 2 "is_small" ["thing"] (spIsSmall K) fIs fdIs)
    (XW : XDef P w K mg base "BadWord" B1 fX "word" ["self", "word"] fdX) (XN : XDef P w K mg base "BadNumber" B2 fX2 "number" ["self", "number"] fdX2)
    (hr : Room 2 (A.deeper (PyProof.Rows.envOfC "Counts.__init__" (defScope s_Counts_init) s.heap.objs.size f cdv))) (h : spInitNB K C B1 B2 ks vs H Q E) :
    ∃ t, PSs (cxOf (L2.CX P w) P w K mg base ["self", "pairs", "numbers", "word", "held", "number"] "Counts.__init__" (defScope s_Counts_init) f cdv A outer s H E) (defBody s_Counts_init) t ∧ t { nx := fun _ H' => Q .non H', rt := Q } (L2.start ["self", "pairs", "numbers", "word", "held", "number"] vs) H := by
  obtain ⟨GIw, mIw, _, bIw⟩ := id FIw
  obtain ⟨GIs, mIs, _, bIs⟩ := id FIs
  have hrIw : Room 1 _ := hr.mono (by decide)
  have hrIs : Room 2 _ := hr
  have hrX : Room 2 _ := hr
  obtain ⟨x, pt, dn, dx, zs, n, rfl, hx, hpt, hdn, hnd, hzl, hG, kk, zz, hk, hz, hbad⟩ := h
  have hu := hu_of hr
  refine ⟨_, (pss_cons (ps_lock (ps_for (passes_of rfl) rfl (pi_keys (pv 2)) (pg_name (i := 3) sc_Counts_init.nd rfl (Or.inl rfl)) (pss_cons (ps_if (pt_not (pt_val (pe_call GIw hrIw rfl mIw FIw.kp bIw .nil pass0 (pa_cons (pv 3) pa_nil)))) (pss_one (ps_raise rfl (takes_of rfl rfl rfl rfl) (pmk_oex XW.c XW.iC XW.tI XW.ok hrX XW.b .nil pass0 rfl XW.mg_ (pa_cons (pv 3) pa_nil)))) pss_nil)
      (pss_one (ps_if (pt_not (pt_val (pe_call GIs hrIs rfl mIs FIs.kp bIs .nil pass0 (pa_cons (pe_dget hu (pv 2) (pv 3) (fun _ _ => rfl)) pa_nil)))) (pss_one (ps_raise rfl (takes_of rfl rfl rfl rfl) (pmk_oex XN.c XN.iC XN.tI XN.ok hrX XN.b .nil pass0 rfl XN.mg_ (pa_cons (pe_dget hu (pv 2) (pv 3) (fun _ _ => rfl)) pa_nil)))) pss_nil)))))
      (pss_cons (ps_set (i := 4) sc_Counts_init.nd rfl (Or.inl rfl) pe_dnewK)
      (pss_cons (ps_for (passes_of rfl) rfl (pi_list (pe_op op_cat (pe_callTy call_list_of (by rfl) g.list (by decide +kernel) (pa_cons (pv 1) pa_nil)) (LiI.pe_listItems rfl (pv 2) (by rfl) g.list (by decide +kernel)))) (pg_tup rfl (pgs_cons (pg_name (i := 3) sc_Counts_init.nd rfl (Or.inl rfl)) (pgs_cons (pg_name (i := 5) sc_Counts_init.nd rfl (Or.inl rfl)) pgs_nil))) (pss_one (ps_dput hu (pv 4) (pv 3) (pe_op op_add (pe_dget2 hu (pv 4) (pv 3) pe_int ⟨rfl, rfl, rfl, rfl⟩) (pv 5)) rfl)))
      (pss_one (ps_fld (pv 0) (pe_lock (pe_dc (own := [("word", 3), ("number", 5)]) (g := gTup K 2 (gCons (gName 3) (gCons (gName 5) gNil))) (by rfl) sc_Counts_init.nd (pi_items (pv 4)) (blkOk_by (own := [("word", 3), ("number", 5)]) (N := ["self", "pairs", "numbers", "word", "held", "number"]) (sc := defScope s_Counts_init) (by decide +kernel)) (fun _ _ _ _ _ => (pg_tup rfl (pgs_cons (pg_name (i := 3) sc_Counts_init.nd rfl (Or.inl rfl)) (pgs_cons (pg_name (i := 5) sc_Counts_init.nd rfl (Or.inl rfl)) pgs_nil)))) (fun _ _ _ _ _ => (pts_one (pt_cmpR op_ne (pv 5) pe_int (nomark _)))) (fun _ _ _ _ _ => (pv 3)) (fun _ _ _ _ _ => (pv 5)))) rfl))))), ?_⟩
  refine ⟨dn, _, hdn, trivial, fun od => ?_⟩
  refine ⟨_, rfl, dn, od, rfl, .inl ⟨_, upd_same, ?_⟩⟩
  have hnl : n < ks.length := (List.getElem?_eq_some_iff.mp hk).1
  refine for_it walk_keys (fun i σ' H' => i ≤ n ∧ (∃ x3 : Option V, σ' = [some (.ref x), some (.ref pt), some (.ref dn), x3, none, none]) ∧ (∀ b o, H b = some o → b ≠ dn → H' b = some o) ∧ H' dn = some (.frz od (.dK (kwK ks zs)))) ⟨Nat.zero_le _, ⟨_, rfl⟩, fun b o e n => by rw [upd_ne n]; exact e, upd_same⟩ (fun i σ' H' _ h => h.2.2.2) ?_ ?_
  · rintro i v σ' H' H2 hi ⟨hin, ⟨x3, rfl⟩, k1, k2⟩ ⟨rfl, kq, vv, hv, ev⟩
    by_cases c : i = n
    · subst c
      rw [kwK_get hk hz] at hv
      obtain ⟨rfl, rfl⟩ := Prod.mk.inj (Option.some.inj hv)
      obtain rfl : v = V.str kk := ev
      rcases hbad with ⟨hw, hlw, k⟩ | ⟨hw, hwr, k⟩
      · refine ⟨_, rfl, .inl (.inl ⟨kk, rfl, hlw, fun H3 s3 => ?_⟩)⟩
        rw [hw]
        refine ⟨_, rfl, iteT ?_⟩
        exact ⟨_, rfl, xmk fun dx hdx => k H3 dx (fun b o e nb => s3 _ _ (k1 b o e nb)) hdx⟩
      · refine ⟨_, rfl, ask_w hw fun H3 s3 => ⟨_, rfl, iteF ?_⟩⟩
        have hget : DGet H3 dn (kV (Sum.inr kk)) (some zz) := by
          have : DGet H3 dn (kV (Sum.inr kk)) (valV (kwK ks zs) (Sum.inr kk)) := .inl ⟨_, _, .inr ⟨od, s3 _ _ k2⟩, rfl, rfl⟩
          rw [valV_kw hnd hzl hk hz] at this
          exact this
        rcases hwr H3 (fun b o e nb => s3 _ _ (k1 b o e nb)) with ⟨m9, rfl, hn9⟩ | hw9
        · refine ⟨_, rfl, _, rfl, dn, _, rfl, hget, .inl ⟨m9, rfl, ?_⟩⟩
          rw [notSmall hn9]
          refine ⟨_, rfl, iteT ?_⟩
          exact ⟨_, rfl, _, rfl, dn, _, rfl, hget, xmk fun dx hdx => k H3 dx (fun b o e nb => s3 _ _ (k1 b o e nb)) hdx⟩
        · refine ⟨_, rfl, _, rfl, dn, _, rfl, hget, .inr ⟨zz, rfl, hw9, ?_⟩⟩
          refine ⟨_, rfl, iteT ?_⟩
          exact ⟨_, rfl, _, rfl, dn, _, rfl, hget, xmk fun dx hdx => k H3 dx (fun b o e nb => s3 _ _ (k1 b o e nb)) hdx⟩
    · have hlt : i < n := by omega
      obtain ⟨k0, m0, h1, h2, hw, hs⟩ := hG i hlt
      rw [kwK_get h1 h2] at hv
      obtain ⟨rfl, rfl⟩ := Prod.mk.inj (Option.some.inj hv)
      obtain rfl : v = V.str k0 := ev
      refine ⟨_, rfl, ask_w hw fun H3 s3 => ⟨_, rfl, iteF ?_⟩⟩
      have hget : DGet H3 dn (kV (Sum.inr k0)) (some (.int m0)) := by
        have : DGet H3 dn (kV (Sum.inr k0)) (valV (kwK ks zs) (Sum.inr k0)) := .inl ⟨_, _, .inr ⟨od, s3 _ _ k2⟩, rfl, rfl⟩
        rw [valV_kw hnd hzl h1 h2] at this
        exact this
      refine ⟨_, rfl, _, rfl, dn, .int m0, rfl, hget, .inl ⟨m0, rfl, ?_⟩⟩
      rw [decide_eq_true hs.1, decide_eq_true hs.2]
      refine ⟨_, rfl, iteF ?_⟩
      exact ⟨by omega, ⟨_, rfl⟩, fun b o e nb => s3 _ _ (k1 b o e nb), s3 _ _ k2⟩
  · rintro σ' H' ⟨hin, _⟩
    rw [kwK_len hzl] at hin
    exact absurd hin (by omega)
theorem ok_initN {C B1 B2 f fIw fIs fX fX2 : Addr} {fdIw fdIs fdX fdX2 : FuncData} {oc od kV doc pm an cdv ct osl} {ks : List Str} (g : Bi mg) (cl : Cls K C) (nH : NoAttr K C "held")
    (FIw : Def P w K mg base CX0 1 "is_word" ["thing"] (spIsWordU K) fIw fdIw) (FIs : Def P w K mg base CX0 2 "is_small" ["thing"] (spIsSmall K) fIs fdIs)
    (XW : XDef P w K mg base "BadWord" B1 fX "word" ["self", "word"] fdX) (XN : XDef P w K mg base "BadNumber" B2 fX2 "number" ["self", "number"] fdX2)
    (lk : K.lookup f = some ⟨oc, od, .func (PySem.W.fnOf "__init__" "Counts.__init__" (defArgs s_Counts_init) (defBody s_Counts_init) (defScope s_Counts_init) .none kV doc pm an cdv ct), osl⟩) (hcd : PySem.W.codeIn K cdv "Counts.__init__" = true)
    (hn : ks.Nodup) (hl : ks.length ≤ 1000)
    (hb : ∀ (u : Value) (ws : List Value), ws.length = ks.length → bindArgs (PySem.W.fnOf "__init__" "Counts.__init__" (defArgs s_Counts_init) (defBody s_Counts_init) (defScope s_Counts_init) .none kV doc pm an cdv ct) ⟨[u], ks.zip ws⟩ =
      (newTuple [] >>= fun t => (alloc ({ cls := .type "dict", data := .dict #[] } : Obj) : Sem Addr) >>= fun d => (forIn (ks.zip ws) PUnit.unit fun x _ => (nsSet d x.1 x.2 >>= fun _ => pure (ForInStep.yield PUnit.unit))) >>= fun _ => pure [(("self" : Str), u), (("pairs" : Str), t), (("numbers" : Str), Value.ref d)])) :
    FnKw P w K mg base (L2.CX P w) 3 f ks (spInitN K C B1 B2 ks) := by
  have G := fn_kw (P := P) (w := w) (mg := mg) (base := base) (CX := L2.CX P w) (k := 2) (p1 := "self") (pv := "pairs") (pd := "numbers") (sp := spInitNB K C B1 B2 ks) lk hcd sc_Counts_init StX.cxUp hn hl hb
    (fun A outer s H vs Q E hr h => initN_body (P := P) (w := w) (mg := mg) (base := base) (outer := outer) (s := s) g cl nH FIw FIs XW XN hr h)
  intro A outer s H u v ws zs Q E hr e0 rv r hz hsp
  refine G A outer s H u v ws zs Q E hr e0 rv r hz ?_
  obtain ⟨x, dx, zs', n, ev, hx, hzl, hG, kk, zz, hk, hzz, hbad⟩ := hsp
  obtain ⟨rfl, rfl⟩ := List.cons.inj ev
  refine ⟨_, _, rfl, fun p d hp hd hne => ?_⟩
  have s1 : Same H (upd H p (.tup [])) := Same.new hp
  have hd1 : (upd H p (.tup [])) d = none := by rw [upd_ne hne]; exact hd
  have s2 : Same H (upd (upd H p (.tup [])) d (.dK (kwK ks zs))) := s1.trans (Same.new hd1)
  have up : ∀ {B : Addr} {fld : Str} {y : V}, Xw B fld y H E → ∀ (H' : Hp) (dd : Addr), (∀ b o, (upd (upd H p (.tup [])) d (.dK (kwK ks zs))) b = some o → b ≠ d → H' b = some o) → H' dd = none → E (.ref B) (some dd) (upd H' dd (.xd [(fld, y)])) := fun k H' dd kp hdd =>
    k H' dd (fun b o e => kp b o (s2 _ _ e) (ne_of_none e hd)) hdd
  refine ⟨x, p, d, dx, zs, n, rfl, s2 _ _ hx, (by rw [upd_ne hne.symm]; exact upd_same), upd_same, hn, hzl, hG, kk, zz, hk, hzz, ?_⟩
  rcases hbad with ⟨h1, h2, k⟩ | ⟨h1, h2, k⟩
  · exact .inl ⟨h1, h2, up k⟩
  · exact .inr ⟨h1, fun H' kp => h2 H' fun b o e => kp b o (s2 _ _ e) (ne_of_none e hd), up k⟩
end
end Cs

set_option Elab.async false
set_option linter.all false
set_option maxRecDepth 100000
set_option maxHeartbeats 4000000
set_option pp.maxSteps 600
/-! The law's wrong entries, words and numbers. -/
namespace Cs
open PySem L2
theorem upd_it {H : Hp} {p : Addr} {o : HO} {R : Hp → Prop} (hp : H p = none) (k : ∀ H', Same H H' → H' p = some o → R H') : R (upd H p o) := k _ (Same.new hp) upd_same
theorem pe_p30 {X : Cx} {e : Expr} (h : PE X e (tOp (rI CPow fun i j => V.int (i ^ j.toNat)) (tC (.int 10)) (tC (.int 30)))) : PE X e (tC (.int (10 ^ 30))) := ⟨fun pins s σ H Q I q => h.run pins s σ H Q I ⟨_, _, rfl, rfl, ⟨by decide, by decide, by decide⟩, q⟩⟩
theorem pe_m30 {X : Cx} {e : Expr} (h : PE X e (tUn (rU fun i => V.int (-i)) (tC (.int (10 ^ 30))))) : PE X e (tC (.int (-(10 ^ 30)))) := ⟨fun pins s σ H Q I q => h.run pins s σ H Q I ⟨_, rfl, q⟩⟩
theorem at_mem {xs : List V} {v : Int} (h0 : 0 ≤ v) (h : v < (xs.length : Nat)) : ∃ x ∈ xs, atI xs v = some x := by
  have hj : v.toNat < xs.length := by omega
  exact ⟨xs[v.toNat], List.getElem_mem hj, at_of (z := v) (j := v.toNat) (by omega) (List.getElem?_eq_getElem hj)⟩
theorem wA : Word "a" := ⟨by decide, by decide, by decide +kernel⟩
theorem badNT {K : PySem.W.Frag} {H : Hp} {x : V} {T : Value} (h : TyX K H x T) (e : PySem.W.kitOne K T (.type "tuple") = some false) : BadE K H x := .inl ⟨T, h, e⟩
theorem badL {K : PySem.W.Frag} {H : Hp} {t : Addr} {vs : List V} (h : H t = some (.tup vs)) (e : vs.length ≠ 2) : BadE K H (.ref t) := .inr ⟨t, vs, rfl, h, .inl e⟩
theorem badW {K : PySem.W.Frag} {H : Hp} {t : Addr} {a b : V} (h : H t = some (.tup [a, b])) (e : ∀ H', Same H H' → NW K H' a) : BadE K H (.ref t) := .inr ⟨t, _, rfl, h, .inr ⟨a, b, rfl, .inl e⟩⟩
theorem badN {K : PySem.W.Frag} {H : Hp} {t : Addr} {z : Str} {b : V} (h : H t = some (.tup [.str z, b])) (hz : Word z) (e : Wrong K b) : BadE K H (.ref t) := .inr ⟨t, _, rfl, h, .inr ⟨_, b, rfl, .inr ⟨z, rfl, hz, e⟩⟩⟩
/-- a value that is equal to itself: data, or counts -/
def SelfV (K : PySem.W.Frag) (C : Addr) (H : Hp) (x : V) : Prop := (∃ d, Dp K H x d ∧ SeqAt.shaped d = true) ∨ ∃ (p d : Addr) (t : Tab), x = .ref p ∧ Cnt C H p d t ∧ t.length ≤ 400
/-- what is new since H stands in H2 -/
def Frs (H H' H2 : Hp) : Prop := ∀ b o, H b = none → H' b = some o → H2 b = some o
def spWrongE (K : PySem.W.Frag) : Sp := fun vs H Q _ => ∃ c : Int, vs = [.int c] ∧ 0 ≤ c ∧ c < 18 ∧ ∀ x H', Same H H' → (∀ H2, Frs H H' H2 → BadE K H2 x) → Q x H'
def spNoWord (K : PySem.W.Frag) (C : Addr) : Sp := fun vs H Q _ => ∃ c : Int, vs = [.int c] ∧ 0 ≤ c ∧ c < 12 ∧ ∀ x H', Same H H' → (∀ H2, Same H' H2 → NW K H2 x ∧ SelfV K C H2 x ∧ ∃ T, TyX K H2 x T) → Q x H'
def spNoNum (K : PySem.W.Frag) (C : Addr) : Sp := fun vs H Q _ => ∃ c : Int, vs = [.int c] ∧ 0 ≤ c ∧ c < 8 ∧ ∀ x H', Same H H' → (∀ H2, Same H' H2 → WrongH K H2 x ∧ SelfV K C H2 x ∧ ∃ T, TyX K H2 x T) → Q x H'
section
variable {P : Program} {w : World} {K : PySem.W.Frag} {mg : Str → Option Value} {base : Heap}
theorem ok_wrong_entry {f : Addr} {fd : FuncData} (F : Fun K "_law_wrong_entry" "_law_wrong_entry" s_l_wrong_entry f fd) (g : Bi mg) : FnOk P w K mg base CX0 1 f fd ["_law_choice"] (spWrongE K) := by
  refine F.ok sc_l_wrong_entry (fun vs H Q E h => ?_) (fun cdv A outer s H vs Q E hr h => ?_)
  · obtain ⟨_, rfl, _⟩ := h
    rfl
  · obtain ⟨c, rfl, h0, h1, k⟩ := h
    refine ⟨_, (pss_cons (ps_set (i := 1) sc_l_wrong_entry.nd rfl (Or.inl rfl) (pe_lst (pa_cons pe_non (pa_cons (pe_tup (pa_cons pe_str pa_nil)) (pa_cons (pe_tup (pa_cons pe_str (pa_cons pe_int (pa_cons pe_int pa_nil)))) (pa_cons (pe_lst (pa_cons pe_str (pa_cons pe_int pa_nil))) (pa_cons (pe_tup (pa_cons pe_str (pa_cons pe_int pa_nil))) (pa_cons (pe_tup (pa_cons pe_str (pa_cons pe_int pa_nil))) (pa_cons (pe_tup (pa_cons pe_str (pa_cons pe_int pa_nil))) (pa_cons (pe_tup (pa_cons pe_str (pa_cons pe_bl pa_nil))) (pa_cons (pe_tup (pa_cons pe_str (pa_cons pe_str pa_nil))) pa_nil)))))))))))
      (pss_cons (ps_set (i := 1) sc_l_wrong_entry.nd rfl (Or.inl rfl) (pe_op op_cat (pv 1) (pe_lst (pa_cons (pe_tup (pa_cons pe_str (pa_cons (pe_p30 (pe_op op_pow pe_int pe_int)) pa_nil))) (pa_cons (pe_tup (pa_cons pe_str (pa_cons (pe_m30 (pe_un un_neg (pe_p30 (pe_op op_pow pe_int pe_int)))) pa_nil))) (pa_cons (pe_tup (pa_cons pe_int (pa_cons pe_int pa_nil))) (pa_cons pe_int (pa_cons pe_str (pa_cons (pe_tup (pa_cons pe_str (pa_cons pe_int pa_nil))) (pa_cons (pe_tup (pa_cons pe_str (pa_cons pe_non pa_nil))) (pa_cons (pe_tup (pa_cons pe_non (pa_cons pe_int pa_nil))) pa_nil)))))))))))
      (pss_cons (ps_expr (pe_bm PySem.F.plainAttrs_list PySem.F.slot_list_append PySem.F.type_list_append mt_append (pv 1) (pa_cons (pe_tup (pa_cons pe_str (pa_cons pe_int pa_nil))) pa_nil)))
      (pss_one (ps_ret (pe_ix ix_list (pv 1) (pv 0) (fun _ _ => rfl))))))), ?_⟩
    refine ⟨by show 1 ≤ sizeLine; decide, fun p1 f1 => ?_⟩
    have s1 : Same H (upd H p1 (.tup [.str "a"])) := Same.new f1
    have h1 : (upd H p1 (.tup [.str "a"])) p1 = some (.tup [.str "a"]) := upd_same
    generalize upd H p1 (.tup [.str "a"]) = H1 at s1 h1 ⊢
    refine ⟨by show 3 ≤ sizeLine; decide, fun p2 f2 => ?_⟩
    have s2 : Same H1 (upd H1 p2 (.tup [.str "a", .int 1, .int 2])) := Same.new f2
    have h2 : (upd H1 p2 (.tup [.str "a", .int 1, .int 2])) p2 = some (.tup [.str "a", .int 1, .int 2]) := upd_same
    generalize upd H1 p2 (.tup [.str "a", .int 1, .int 2]) = H2 at s2 h2 ⊢
    refine ⟨by show 2 ≤ sizeLine; decide, fun p3 f3 => ?_⟩
    have s3 : Same H2 (upd H2 p3 (.lst [.str "a", .int 1])) := Same.new f3
    have h3 : (upd H2 p3 (.lst [.str "a", .int 1])) p3 = some (.lst [.str "a", .int 1]) := upd_same
    generalize upd H2 p3 (.lst [.str "a", .int 1]) = H3 at s3 h3 ⊢
    refine ⟨by show 2 ≤ sizeLine; decide, fun p4 f4 => ?_⟩
    have s4 : Same H3 (upd H3 p4 (.tup [.str "A", .int 1])) := Same.new f4
    have h4 : (upd H3 p4 (.tup [.str "A", .int 1])) p4 = some (.tup [.str "A", .int 1]) := upd_same
    generalize upd H3 p4 (.tup [.str "A", .int 1]) = H4 at s4 h4 ⊢
    refine ⟨by show 2 ≤ sizeLine; decide, fun p5 f5 => ?_⟩
    have s5 : Same H4 (upd H4 p5 (.tup [.str "", .int 1])) := Same.new f5
    have h5 : (upd H4 p5 (.tup [.str "", .int 1])) p5 = some (.tup [.str "", .int 1]) := upd_same
    generalize upd H4 p5 (.tup [.str "", .int 1]) = H5 at s5 h5 ⊢
    refine ⟨by show 2 ≤ sizeLine; decide, fun p6 f6 => ?_⟩
    have s6 : Same H5 (upd H5 p6 (.tup [.str "abcdefghi", .int 1])) := Same.new f6
    have h6 : (upd H5 p6 (.tup [.str "abcdefghi", .int 1])) p6 = some (.tup [.str "abcdefghi", .int 1]) := upd_same
    generalize upd H5 p6 (.tup [.str "abcdefghi", .int 1]) = H6 at s6 h6 ⊢
    refine ⟨by show 2 ≤ sizeLine; decide, fun p7 f7 => ?_⟩
    have s7 : Same H6 (upd H6 p7 (.tup [.str "a", .bl true])) := Same.new f7
    have h7 : (upd H6 p7 (.tup [.str "a", .bl true])) p7 = some (.tup [.str "a", .bl true]) := upd_same
    generalize upd H6 p7 (.tup [.str "a", .bl true]) = H7 at s7 h7 ⊢
    refine ⟨by show 2 ≤ sizeLine; decide, fun p8 f8 => ?_⟩
    have s8 : Same H7 (upd H7 p8 (.tup [.str "a", .str "1"])) := Same.new f8
    have h8 : (upd H7 p8 (.tup [.str "a", .str "1"])) p8 = some (.tup [.str "a", .str "1"]) := upd_same
    generalize upd H7 p8 (.tup [.str "a", .str "1"]) = H8 at s8 h8 ⊢
    refine ⟨by show 9 ≤ sizeLine; decide, fun p9 f9 => ?_⟩
    have s9 : Same H8 (upd H8 p9 (.lst [.non, .ref p1, .ref p2, .ref p3, .ref p4, .ref p5, .ref p6, .ref p7, .ref p8])) := Same.new f9
    have h9 : (upd H8 p9 (.lst [.non, .ref p1, .ref p2, .ref p3, .ref p4, .ref p5, .ref p6, .ref p7, .ref p8])) p9 = some (.lst [.non, .ref p1, .ref p2, .ref p3, .ref p4, .ref p5, .ref p6, .ref p7, .ref p8]) := upd_same
    generalize upd H8 p9 (.lst [.non, .ref p1, .ref p2, .ref p3, .ref p4, .ref p5, .ref p6, .ref p7, .ref p8]) = H9 at s9 h9 ⊢
    refine ⟨_, rfl, ?_⟩
    refine ⟨by show 2 ≤ sizeLine; decide, fun p10 f10 => ?_⟩
    have s10 : Same H9 (upd H9 p10 (.tup [.str "a", .int (10 ^ 30)])) := Same.new f10
    have h10 : (upd H9 p10 (.tup [.str "a", .int (10 ^ 30)])) p10 = some (.tup [.str "a", .int (10 ^ 30)]) := upd_same
    generalize upd H9 p10 (.tup [.str "a", .int (10 ^ 30)]) = H10 at s10 h10 ⊢
    refine ⟨by show 2 ≤ sizeLine; decide, fun p11 f11 => ?_⟩
    have s11 : Same H10 (upd H10 p11 (.tup [.str "a", .int (-(10 ^ 30))])) := Same.new f11
    have h11 : (upd H10 p11 (.tup [.str "a", .int (-(10 ^ 30))])) p11 = some (.tup [.str "a", .int (-(10 ^ 30))]) := upd_same
    generalize upd H10 p11 (.tup [.str "a", .int (-(10 ^ 30))]) = H11 at s11 h11 ⊢
    refine ⟨by show 2 ≤ sizeLine; decide, fun p12 f12 => ?_⟩
    have s12 : Same H11 (upd H11 p12 (.tup [.int 1, .int 2])) := Same.new f12
    have h12 : (upd H11 p12 (.tup [.int 1, .int 2])) p12 = some (.tup [.int 1, .int 2]) := upd_same
    generalize upd H11 p12 (.tup [.int 1, .int 2]) = H12 at s12 h12 ⊢
    refine ⟨by show 2 ≤ sizeLine; decide, fun p13 f13 => ?_⟩
    have s13 : Same H12 (upd H12 p13 (.tup [.str "a b", .int 1])) := Same.new f13
    have h13 : (upd H12 p13 (.tup [.str "a b", .int 1])) p13 = some (.tup [.str "a b", .int 1]) := upd_same
    generalize upd H12 p13 (.tup [.str "a b", .int 1]) = H13 at s13 h13 ⊢
    refine ⟨by show 2 ≤ sizeLine; decide, fun p14 f14 => ?_⟩
    have s14 : Same H13 (upd H13 p14 (.tup [.str "a", .non])) := Same.new f14
    have h14 : (upd H13 p14 (.tup [.str "a", .non])) p14 = some (.tup [.str "a", .non]) := upd_same
    generalize upd H13 p14 (.tup [.str "a", .non]) = H14 at s14 h14 ⊢
    refine ⟨by show 2 ≤ sizeLine; decide, fun p15 f15 => ?_⟩
    have s15 : Same H14 (upd H14 p15 (.tup [.non, .int 1])) := Same.new f15
    have h15 : (upd H14 p15 (.tup [.non, .int 1])) p15 = some (.tup [.non, .int 1]) := upd_same
    generalize upd H14 p15 (.tup [.non, .int 1]) = H15 at s15 h15 ⊢
    refine ⟨by show 8 ≤ sizeLine; decide, fun p16 f16 => ?_⟩
    have s16 : Same H15 (upd H15 p16 (.lst [.ref p10, .ref p11, .ref p12, .int 5, .str "ab", .ref p13, .ref p14, .ref p15])) := Same.new f16
    have h16 : (upd H15 p16 (.lst [.ref p10, .ref p11, .ref p12, .int 5, .str "ab", .ref p13, .ref p14, .ref p15])) p16 = some (.lst [.ref p10, .ref p11, .ref p12, .int 5, .str "ab", .ref p13, .ref p14, .ref p15]) := upd_same
    generalize upd H15 p16 (.lst [.ref p10, .ref p11, .ref p12, .int 5, .str "ab", .ref p13, .ref p14, .ref p15]) = H16 at s16 h16 ⊢
    refine ⟨p9, p16, _, _, rfl, rfl, (s10.trans (s11.trans (s12.trans (s13.trans (s14.trans (s15.trans (s16))))))) _ _ h9, h16, by show 17 ≤ sizeLine; decide, fun l3 hl3 => ?_⟩
    have sx : Same H16 (upd H16 l3 (.lst ([.non, .ref p1, .ref p2, .ref p3, .ref p4, .ref p5, .ref p6, .ref p7, .ref p8] ++ [.ref p10, .ref p11, .ref p12, .int 5, .str "ab", .ref p13, .ref p14, .ref p15]))) := Same.new hl3
    have hx : (upd H16 l3 (.lst ([.non, .ref p1, .ref p2, .ref p3, .ref p4, .ref p5, .ref p6, .ref p7, .ref p8] ++ [.ref p10, .ref p11, .ref p12, .int 5, .str "ab", .ref p13, .ref p14, .ref p15]))) l3 = some (.lst ([.non, .ref p1, .ref p2, .ref p3, .ref p4, .ref p5, .ref p6, .ref p7, .ref p8] ++ [.ref p10, .ref p11, .ref p12, .int 5, .str "ab", .ref p13, .ref p14, .ref p15])) := upd_same
    generalize upd H16 l3 (.lst ([.non, .ref p1, .ref p2, .ref p3, .ref p4, .ref p5, .ref p6, .ref p7, .ref p8] ++ [.ref p10, .ref p11, .ref p12, .int 5, .str "ab", .ref p13, .ref p14, .ref p15])) = Hx at sx hx ⊢
    refine ⟨_, rfl, .inl ⟨rfl, _, SqL.of hx⟩, by show 2 ≤ sizeLine; decide, fun pz fz => ?_⟩
    have sz : Same Hx (upd Hx pz (.tup [.str "a1", .int 2])) := Same.new fz
    have hz : (upd Hx pz (.tup [.str "a1", .int 2])) pz = some (.tup [.str "a1", .int 2]) := upd_same
    generalize upd Hx pz (.tup [.str "a1", .int 2]) = Hz at sz hz ⊢
    have nz : pz ≠ l3 := (ne_of_none hx fz).symm
    refine ⟨l3, _, _, rfl, rfl, sz _ _ hx, by show 17 < sizeLine; decide, ?_⟩
    have R16 : Same H16 (upd Hz l3 (.lst (([.non, .ref p1, .ref p2, .ref p3, .ref p4, .ref p5, .ref p6, .ref p7, .ref p8] ++ [.ref p10, .ref p11, .ref p12, .int 5, .str "ab", .ref p13, .ref p14, .ref p15]) ++ [.ref pz]))) := fun b o e => by rw [upd_ne (ne_of_none e hl3)]; exact sz _ _ (sx _ _ e)
    have hz2 : (upd Hz l3 (.lst (([.non, .ref p1, .ref p2, .ref p3, .ref p4, .ref p5, .ref p6, .ref p7, .ref p8] ++ [.ref p10, .ref p11, .ref p12, .int 5, .str "ab", .ref p13, .ref p14, .ref p15]) ++ [.ref pz]))) pz = some (.tup [.str "a1", .int 2]) := by rw [upd_ne nz]; exact hz
    have hy : (upd Hz l3 (.lst (([.non, .ref p1, .ref p2, .ref p3, .ref p4, .ref p5, .ref p6, .ref p7, .ref p8] ++ [.ref p10, .ref p11, .ref p12, .int 5, .str "ab", .ref p13, .ref p14, .ref p15]) ++ [.ref pz]))) l3 = some (.lst (([.non, .ref p1, .ref p2, .ref p3, .ref p4, .ref p5, .ref p6, .ref p7, .ref p8] ++ [.ref p10, .ref p11, .ref p12, .int 5, .str "ab", .ref p13, .ref p14, .ref p15]) ++ [.ref pz])) := upd_same
    generalize upd Hz l3 (.lst (([.non, .ref p1, .ref p2, .ref p3, .ref p4, .ref p5, .ref p6, .ref p7, .ref p8] ++ [.ref p10, .ref p11, .ref p12, .int 5, .str "ab", .ref p13, .ref p14, .ref p15]) ++ [.ref pz])) = He at R16 hz2 hy ⊢
    have R15 := s16.trans R16
    have R14 := s15.trans R15
    have R13 := s14.trans R14
    have R12 := s13.trans R13
    have R11 := s12.trans R12
    have R10 := s11.trans R11
    have R9 := s10.trans R10
    have R8 := s9.trans R9
    have R7 := s8.trans R8
    have R6 := s7.trans R7
    have R5 := s6.trans R6
    have R4 := s5.trans R5
    have R3 := s4.trans R4
    have R2 := s3.trans R3
    have R1 := s2.trans R2
    obtain ⟨y, hm, hyI⟩ := at_mem (xs := ([.non, .ref p1, .ref p2, .ref p3, .ref p4, .ref p5, .ref p6, .ref p7, .ref p8] ++ [.ref p10, .ref p11, .ref p12, .int 5, .str "ab", .ref p13, .ref p14, .ref p15]) ++ [.ref pz]) (v := c) h0 (by show c < ((18 : Nat) : Int); omega)
    refine ⟨_, rfl, _, rfl, l3, _, c, y, rfl, rfl, SqL.of hy, hyI, k y He (s1.trans R1) ?_⟩
    revert y
    intro y hm _ H2 s
    have T1 := s1
    have Q1 : H p1 = none := f1
    have Q2 : H p2 = none := T1.free f2
    have T2 := T1.trans s2
    have Q3 : H p3 = none := T2.free f3
    have T3 := T2.trans s3
    have Q4 : H p4 = none := T3.free f4
    have T4 := T3.trans s4
    have Q5 : H p5 = none := T4.free f5
    have T5 := T4.trans s5
    have Q6 : H p6 = none := T5.free f6
    have T6 := T5.trans s6
    have Q7 : H p7 = none := T6.free f7
    have T7 := T6.trans s7
    have Q8 : H p8 = none := T7.free f8
    have T8 := T7.trans s8
    have Q9 : H p9 = none := T8.free f9
    have T9 := T8.trans s9
    have Q10 : H p10 = none := T9.free f10
    have T10 := T9.trans s10
    have Q11 : H p11 = none := T10.free f11
    have T11 := T10.trans s11
    have Q12 : H p12 = none := T11.free f12
    have T12 := T11.trans s12
    have Q13 : H p13 = none := T12.free f13
    have T13 := T12.trans s13
    have Q14 : H p14 = none := T13.free f14
    have T14 := T13.trans s14
    have Q15 : H p15 = none := T14.free f15
    have T15 := T14.trans s15
    have Q16 : H p16 = none := T15.free f16
    have T16 := T15.trans s16
    have Qz : H pz = none := (T16.trans sx).free fz
    exact (List.forall_mem_cons.mpr ⟨badNT (.base (.non)) (kit_ty (b := "tuple") (by decide +kernel)), List.forall_mem_cons.mpr ⟨badL (s _ _ Q1 (R1 _ _ h1)) (by decide), List.forall_mem_cons.mpr ⟨badL (s _ _ Q2 (R2 _ _ h2)) (by decide), List.forall_mem_cons.mpr ⟨badNT (.base (.lst (s _ _ Q3 (R3 _ _ h3)))) (kit_ty (b := "tuple") (by decide +kernel)), List.forall_mem_cons.mpr ⟨badW (s _ _ Q4 (R4 _ _ h4)) fun _ _ => .inl ⟨_, rfl, by decide, by decide +kernel⟩, List.forall_mem_cons.mpr ⟨badW (s _ _ Q5 (R5 _ _ h5)) fun _ _ => .inl ⟨_, rfl, by decide, by decide +kernel⟩, List.forall_mem_cons.mpr ⟨badW (s _ _ Q6 (R6 _ _ h6)) fun _ _ => .inl ⟨_, rfl, by decide, by decide +kernel⟩, List.forall_mem_cons.mpr ⟨badN (s _ _ Q7 (R7 _ _ h7)) wA (.inr fun H => ⟨"bool", .base (.bl _), .inl rfl⟩), List.forall_mem_cons.mpr ⟨badN (s _ _ Q8 (R8 _ _ h8)) wA (.inr fun H => ⟨"str", .base (.str _), .inr (by decide +kernel)⟩), List.forall_mem_cons.mpr ⟨badN (s _ _ Q10 (R10 _ _ h10)) wA (.inl ⟨_, rfl, by unfold Small; decide⟩), List.forall_mem_cons.mpr ⟨badN (s _ _ Q11 (R11 _ _ h11)) wA (.inl ⟨_, rfl, by unfold Small; decide⟩), List.forall_mem_cons.mpr ⟨badW (s _ _ Q12 (R12 _ _ h12)) fun _ _ => .inr ⟨_, .base (.int _), kit_ty (b := "str") (by decide +kernel)⟩, List.forall_mem_cons.mpr ⟨badNT (.base (.int _)) (kit_ty (b := "tuple") (by decide +kernel)), List.forall_mem_cons.mpr ⟨badNT (.base (.str _)) (kit_ty (b := "tuple") (by decide +kernel)), List.forall_mem_cons.mpr ⟨badW (s _ _ Q13 (R13 _ _ h13)) fun _ _ => .inl ⟨_, rfl, by decide, by decide +kernel⟩, List.forall_mem_cons.mpr ⟨badN (s _ _ Q14 (R14 _ _ h14)) wA (.inr fun H => ⟨"NoneType", .base (.non), .inr (by decide +kernel)⟩), List.forall_mem_cons.mpr ⟨badW (s _ _ Q15 (R15 _ _ h15)) fun _ _ => .inr ⟨_, .base .non, kit_ty (b := "str") (by decide +kernel)⟩, List.forall_mem_cons.mpr ⟨badW (s _ _ Qz hz2) fun _ _ => .inl ⟨_, rfl, by decide, by decide +kernel⟩, fun _ h => nomatch h⟩⟩⟩⟩⟩⟩⟩⟩⟩⟩⟩⟩⟩⟩⟩⟩⟩⟩ : ∀ y ∈ ([.non, .ref p1, .ref p2, .ref p3, .ref p4, .ref p5, .ref p6, .ref p7, .ref p8] ++ [.ref p10, .ref p11, .ref p12, .int 5, .str "ab", .ref p13, .ref p14, .ref p15]) ++ [.ref pz], BadE K H2 y) y hm
theorem ok_no_number {C f : Addr} {fd : FuncData} (F : Fun K "_law_no_number" "_law_no_number" s_l_no_number f fd) (g : Bi mg) : FnOk P w K mg base CX0 1 f fd ["_law_choice"] (spNoNum K C) := by
  refine F.ok sc_l_no_number (fun vs H Q E h => ?_) (fun cdv A outer s H vs Q E hr h => ?_)
  · obtain ⟨_, rfl, _⟩ := h
    rfl
  · obtain ⟨c, rfl, h0, h1, k⟩ := h
    refine ⟨_, (pss_one (ps_ret (pe_ix ix_list (pe_lst (pa_cons pe_bl (pa_cons pe_non (pa_cons pe_str (pa_cons (pe_p30 (pe_op op_pow pe_int pe_int)) (pa_cons (pe_m30 (pe_un un_neg (pe_p30 (pe_op op_pow pe_int pe_int)))) (pa_cons (pe_lst (pa_cons pe_int pa_nil)) (pa_cons (pe_tup (pa_cons pe_int pa_nil)) (pa_cons pe_bl pa_nil))))))))) (pv 0) (fun _ _ => rfl)))), ?_⟩
    refine ⟨by show 1 ≤ sizeLine; decide, fun p1 f1 => ?_⟩
    have s1 : Same H (upd H p1 (.lst [.int 1])) := Same.new f1
    have h1 : (upd H p1 (.lst [.int 1])) p1 = some (.lst [.int 1]) := upd_same
    generalize upd H p1 (.lst [.int 1]) = H1 at s1 h1 ⊢
    refine ⟨by show 1 ≤ sizeLine; decide, fun p2 f2 => ?_⟩
    have s2 : Same H1 (upd H1 p2 (.tup [.int 1])) := Same.new f2
    have h2 : (upd H1 p2 (.tup [.int 1])) p2 = some (.tup [.int 1]) := upd_same
    generalize upd H1 p2 (.tup [.int 1]) = H2 at s2 h2 ⊢
    refine ⟨by show 8 ≤ sizeLine; decide, fun p3 f3 => ?_⟩
    have s3 : Same H2 (upd H2 p3 (.lst [.bl true, .non, .str "1", .int (10 ^ 30), .int (-(10 ^ 30)), .ref p1, .ref p2, .bl false])) := Same.new f3
    have h3 : (upd H2 p3 (.lst [.bl true, .non, .str "1", .int (10 ^ 30), .int (-(10 ^ 30)), .ref p1, .ref p2, .bl false])) p3 = some (.lst [.bl true, .non, .str "1", .int (10 ^ 30), .int (-(10 ^ 30)), .ref p1, .ref p2, .bl false]) := upd_same
    generalize upd H2 p3 (.lst [.bl true, .non, .str "1", .int (10 ^ 30), .int (-(10 ^ 30)), .ref p1, .ref p2, .bl false]) = H3 at s3 h3 ⊢
    have R2 : Same H2 H3 := s3
    have R1 : Same H1 H3 := s2.trans (s3)
    obtain ⟨y, hm, hyI⟩ := at_mem (xs := [.bl true, .non, .str "1", .int (10 ^ 30), .int (-(10 ^ 30)), .ref p1, .ref p2, .bl false]) (v := c) h0 (by show c < ((8 : Nat) : Int); omega)
    refine ⟨_, rfl, p3, _, c, y, rfl, rfl, SqL.of h3, hyI, k y H3 (s1.trans (s2.trans (s3))) ?_⟩
    revert y
    intro y hm _ H2 s
    exact (List.forall_mem_cons.mpr ⟨⟨.inr ⟨"bool", .base (.bl _), .inl rfl⟩, .inl ⟨_, .bl _, by decide +kernel⟩, _, .base (.bl _)⟩, List.forall_mem_cons.mpr ⟨⟨.inr ⟨"NoneType", .base (.non), .inr (by decide +kernel)⟩, .inl ⟨_, .non, by decide +kernel⟩, _, .base (.non)⟩, List.forall_mem_cons.mpr ⟨⟨.inr ⟨"str", .base (.str _), .inr (by decide +kernel)⟩, .inl ⟨_, .str _, by decide +kernel⟩, _, .base (.str _)⟩, List.forall_mem_cons.mpr ⟨⟨.inl ⟨_, rfl, by unfold Small; decide⟩, .inl ⟨_, .int _, by decide +kernel⟩, _, .base (.int _)⟩, List.forall_mem_cons.mpr ⟨⟨.inl ⟨_, rfl, by unfold Small; decide⟩, .inl ⟨_, .int _, by decide +kernel⟩, _, .base (.int _)⟩, List.forall_mem_cons.mpr ⟨⟨.inr ⟨"list", .base (.lst ((R1.trans s) _ _ h1)), .inr (by decide +kernel)⟩, .inl ⟨_, .lst (SqL.of ((R1.trans s) _ _ h1)) (.cons (.int _) (.nil)), by decide +kernel⟩, _, .base (.lst ((R1.trans s) _ _ h1))⟩, List.forall_mem_cons.mpr ⟨⟨.inr ⟨"tuple", .base (.tup ((R2.trans s) _ _ h2)), .inr (by decide +kernel)⟩, .inl ⟨_, .tup (SqT.of ((R2.trans s) _ _ h2)) (.cons (.int _) (.nil)), by decide +kernel⟩, _, .base (.tup ((R2.trans s) _ _ h2))⟩, List.forall_mem_cons.mpr ⟨⟨.inr ⟨"bool", .base (.bl _), .inl rfl⟩, .inl ⟨_, .bl _, by decide +kernel⟩, _, .base (.bl _)⟩, fun _ h => nomatch h⟩⟩⟩⟩⟩⟩⟩⟩ : ∀ y ∈ [.bl true, .non, .str "1", .int (10 ^ 30), .int (-(10 ^ 30)), .ref p1, .ref p2, .bl false], WrongH K H2 y ∧ SelfV K C H2 y ∧ ∃ T, TyX K H2 y T) y hm
theorem ok_no_word {C f fI : Addr} {fd : FuncData} (F : Fun K "_law_no_word" "_law_no_word" s_l_no_word f fd) (g : Bi mg) (T : CT P w K mg base C fI) (ci : CI K C) (kS : PySem.W.kitOne K (.ref C) (.type "str") = some false) (IKa : FnKw P w K mg base CX0 3 fI ["a"] (spInitK C ["a"])) : FnOk P w K mg base CX0 5 f fd ["_law_choice"] (spNoWord K C) := by
  refine F.ok sc_l_no_word (fun vs H Q E h => ?_) (fun cdv A outer s H vs Q E hr h => ?_)
  · obtain ⟨_, rfl, _⟩ := h
    rfl
  · obtain ⟨c, rfl, h0, h1, k⟩ := h
    have hrIK : Room 4 _ := hr
    refine ⟨_, (pss_one (ps_ret (pe_ix ix_list (pe_lst (pa_cons pe_str (pa_cons pe_str (pa_cons pe_str (pa_cons pe_str (pa_cons pe_str (pa_cons pe_int (pa_cons pe_bl (pa_cons pe_non (pa_cons (pe_lst (pa_cons pe_str pa_nil)) (pa_cons (pe_tup (pa_cons pe_str pa_nil)) (pa_cons (pe_mkKw T.mke IKa hrIK rfl T.mgC pass0 (pk_cons pe_int pk_nil)) (pa_cons pe_str pa_nil))))))))))))) (pv 0) (fun _ _ => rfl)))), ?_⟩
    refine ⟨by show 1 ≤ sizeLine; decide, fun p1 f1 => ?_⟩
    have s1 : Same H (upd H p1 (.lst [.str "a"])) := Same.new f1
    have h1 : (upd H p1 (.lst [.str "a"])) p1 = some (.lst [.str "a"]) := upd_same
    generalize upd H p1 (.lst [.str "a"]) = H1 at s1 h1 ⊢
    refine ⟨by show 1 ≤ sizeLine; decide, fun p2 f2 => ?_⟩
    have s2 : Same H1 (upd H1 p2 (.tup [.str "a"])) := Same.new f2
    have h2 : (upd H1 p2 (.tup [.str "a"])) p2 = some (.tup [.str "a"]) := upd_same
    generalize upd H1 p2 (.tup [.str "a"]) = H2 at s2 h2 ⊢
    refine ⟨rfl, fun p3 dxo f3 fdo neo => ?_⟩
    have so0 := made (C := C) f3 fdo
    refine ⟨p3, dxo, [1], rfl, upd_same, rfl, (by intro n hn; rw [List.mem_singleton.mp hn]; unfold Small; decide), fun eo H3 heo hC kpo => ⟨rfl, ?_⟩⟩
    have s3 : Same H2 H3 := fun b o e => kpo b o (so0 b o e) (ne_of_none e f3)
    obtain ⟨⟨dxo2, hpo⟩, _⟩ := id hC
    refine ⟨by show 12 ≤ sizeLine; decide, fun p4 f4 => ?_⟩
    have s4 : Same H3 (upd H3 p4 (.lst [.str "", .str "A", .str "abcdefghi", .str "a b", .str "a1", .int 5, .bl true, .non, .ref p1, .ref p2, .ref p3, .str "a-b"])) := Same.new f4
    have h4 : (upd H3 p4 (.lst [.str "", .str "A", .str "abcdefghi", .str "a b", .str "a1", .int 5, .bl true, .non, .ref p1, .ref p2, .ref p3, .str "a-b"])) p4 = some (.lst [.str "", .str "A", .str "abcdefghi", .str "a b", .str "a1", .int 5, .bl true, .non, .ref p1, .ref p2, .ref p3, .str "a-b"]) := upd_same
    generalize upd H3 p4 (.lst [.str "", .str "A", .str "abcdefghi", .str "a b", .str "a1", .int 5, .bl true, .non, .ref p1, .ref p2, .ref p3, .str "a-b"]) = H4 at s4 h4 ⊢
    have R3 : Same H3 H4 := s4
    have R2 : Same H2 H4 := s3.trans (s4)
    have R1 : Same H1 H4 := s2.trans (s3.trans (s4))
    obtain ⟨y, hm, hyI⟩ := at_mem (xs := [.str "", .str "A", .str "abcdefghi", .str "a b", .str "a1", .int 5, .bl true, .non, .ref p1, .ref p2, .ref p3, .str "a-b"]) (v := c) h0 (by show c < ((12 : Nat) : Int); omega)
    refine ⟨_, rfl, p4, _, c, y, rfl, rfl, SqL.of h4, hyI, k y H4 (s1.trans (s2.trans (s3.trans (s4)))) ?_⟩
    revert y
    intro y hm _ H2 s
    exact (List.forall_mem_cons.mpr ⟨⟨.inl ⟨_, rfl, by decide, by decide +kernel⟩, .inl ⟨_, .str _, by decide +kernel⟩, _, .base (.str _)⟩, List.forall_mem_cons.mpr ⟨⟨.inl ⟨_, rfl, by decide, by decide +kernel⟩, .inl ⟨_, .str _, by decide +kernel⟩, _, .base (.str _)⟩, List.forall_mem_cons.mpr ⟨⟨.inl ⟨_, rfl, by decide, by decide +kernel⟩, .inl ⟨_, .str _, by decide +kernel⟩, _, .base (.str _)⟩, List.forall_mem_cons.mpr ⟨⟨.inl ⟨_, rfl, by decide, by decide +kernel⟩, .inl ⟨_, .str _, by decide +kernel⟩, _, .base (.str _)⟩, List.forall_mem_cons.mpr ⟨⟨.inl ⟨_, rfl, by decide, by decide +kernel⟩, .inl ⟨_, .str _, by decide +kernel⟩, _, .base (.str _)⟩, List.forall_mem_cons.mpr ⟨⟨.inr ⟨_, .base (.int _), kit_ty (b := "str") (by decide +kernel)⟩, .inl ⟨_, .int _, by decide +kernel⟩, _, .base (.int _)⟩, List.forall_mem_cons.mpr ⟨⟨.inr ⟨_, .base (.bl _), kit_ty (b := "str") (by decide +kernel)⟩, .inl ⟨_, .bl _, by decide +kernel⟩, _, .base (.bl _)⟩, List.forall_mem_cons.mpr ⟨⟨.inr ⟨_, .base (.non), kit_ty (b := "str") (by decide +kernel)⟩, .inl ⟨_, .non, by decide +kernel⟩, _, .base (.non)⟩, List.forall_mem_cons.mpr ⟨⟨.inr ⟨_, .base (.lst ((R1.trans s) _ _ h1)), kit_ty (b := "str") (by decide +kernel)⟩, .inl ⟨_, .lst (SqL.of ((R1.trans s) _ _ h1)) (.cons (.str _) (.nil)), by decide +kernel⟩, _, .base (.lst ((R1.trans s) _ _ h1))⟩, List.forall_mem_cons.mpr ⟨⟨.inr ⟨_, .base (.tup ((R2.trans s) _ _ h2)), kit_ty (b := "str") (by decide +kernel)⟩, .inl ⟨_, .tup (SqT.of ((R2.trans s) _ _ h2)) (.cons (.str _) (.nil)), by decide +kernel⟩, _, .base (.tup ((R2.trans s) _ _ h2))⟩, List.forall_mem_cons.mpr ⟨⟨.inr ⟨_, ci.ty ((R3.trans s) _ _ hpo), kS⟩, .inr ⟨_, _, _, rfl, hC.same (R3.trans s), by decide +kernel⟩, _, ci.ty ((R3.trans s) _ _ hpo)⟩, List.forall_mem_cons.mpr ⟨⟨.inl ⟨_, rfl, by decide, by decide +kernel⟩, .inl ⟨_, .str _, by decide +kernel⟩, _, .base (.str _)⟩, fun _ h => nomatch h⟩⟩⟩⟩⟩⟩⟩⟩⟩⟩⟩⟩ : ∀ y ∈ [.str "", .str "A", .str "abcdefghi", .str "a b", .str "a1", .int 5, .bl true, .non, .ref p1, .ref p2, .ref p3, .str "a-b"], NW K H2 y ∧ SelfV K C H2 y ∧ ∃ T, TyX K H2 y T) y hm
end
end Cs

set_option Elab.async false
set_option linter.all false
set_option maxRecDepth 100000
set_option maxHeartbeats 4000000
/-! Several except clauses, with or without a name. -/
namespace Cs
open PySem PySem.Spec PyProof.Rows L2
abbrev ClA := Value × Option Nat × (Addr → Value → Option Addr → TS)
/-- the suite's ends: the name is unbound behind it -/
def endsN (D : Ends) (i : Nat) : Ends := { nx := fun σ' H' => D.nx (σ'.set i none) H', rt := D.rt, bk := fun σ' H' => D.bk (σ'.set i none) H', ct := fun σ' H' => D.ct (σ'.set i none) H' }
def wManyA (K : PySem.W.Frag) (Wout : WX) (D : Ends) : List ClA → WX
  | [] => Wout
  | (c, none, ts) :: r => fun cls d σ H => ∃ b, PySem.W.exmOne K cls c = some b ∧ (b = true → ∀ a, H a = none → ts a cls d D σ H) ∧ (b = false → wManyA K Wout D r cls d σ H)
  | (c, some i, ts) :: r => fun cls d σ H => ∃ b, PySem.W.exmOne K cls c = some b ∧ (b = true → ∀ a, H a = none → ts a cls d (endsN D i) (σ.set i (some (.ref a))) H) ∧ (b = false → wManyA K Wout D r cls d σ H)
inductive HdsA (X : Cx) : List ExceptHandler → List ClA → Prop
  | nil : HdsA X [] []
  | cons {x : Str} {c : Value} {ts : Addr → Value → Option Addr → TS} {b₀ : Stmt} {suite : List Stmt} {np pos' : Pos} {hds : List ExceptHandler} {l : List ClA} (hc : Names X x c)
      (hsu : ∀ (a : Addr) (oe : Obj) (cls : Value) (d : Option Addr) (pn : List (Addr × Obj)), Zc cls d oe → (∃ vs, oe.data = .fields vs) → PSs (X.suite a ((a, oe) :: pn)) (b₀ :: suite) (ts a cls d)) (r : HdsA X hds l) :
      HdsA X (.ExceptHandler (some (.Name x np)) none (b₀ :: suite) pos' :: hds) ((c, none, ts) :: l)
  | consN {x n : Str} {i : Nat} {c : Value} {ts : Addr → Value → Option Addr → TS} {b₀ : Stmt} {suite : List Stmt} {np pos' : Pos} {hds : List ExceptHandler} {l : List ClA} (hi : X.N[i]? = some n) (hln : X.env.kindOf n = some .local) (hc : Names X x c)
      (hsu : ∀ (a : Addr) (oe : Obj) (cls : Value) (d : Option Addr) (pn : List (Addr × Obj)), Zc cls d oe → (∃ vs, oe.data = .fields vs) → PSs (X.suite a ((a, oe) :: pn)) (b₀ :: suite) (ts a cls d)) (r : HdsA X hds l) :
      HdsA X (.ExceptHandler (some (.Name x np)) (some n) (b₀ :: suite) pos' :: hds) ((c, some i, ts) :: l)
section
variable {X : Cx} {body : List Stmt} {h₀ : ExceptHandler} {hds : List ExceptHandler} {l : List ClA} {pos : Pos} {tb : WX → TS} {Wout : WX}
theorem ps_try_manyA (hs : X.stack = X.env :: X.outer) (hf : X.env.frame = some X.env.locals) (hN : X.N.Nodup) (tk : Takes X Wout)
    (hb : ∀ (W : WX) (pn : List (Addr × Obj)) (xe : Value → Shared → Prop), Takes (X.tr pn xe) W → PassesOwn (model X.prog X.w) X.A X.env xe → PSs (X.tr pn xe) body (tb W))
    (hh : HdsA X (h₀ :: hds) l) : PS X (.Try body (h₀ :: hds) [] [] pos) (fun D σ H => tb (wManyA X.K Wout D l) D σ H) := by
  refine ⟨fun pins s σ H D I h => ?_⟩
  have ok := I.ok
  have hfr : X.A.frames = some (X.env :: X.outer) := by rw [ok.frames, hs]
  refine wpAny_Try_except ?_
  refine wpAny_mono ((hb (wManyA X.K Wout D l) (X.pn ++ pins) (fun e s₁ => wpAny (model X.prog X.w) X.A (noteFrame e X.env) (fun _ s₂ => wpAny (model X.prog X.w) X.A (setFlight e none) (fun _ s₃ =>
    wpAny (model X.prog X.w) X.A (handleBy e X.env (h₀ :: hds)) (SP X pins D) X.xe s₃) X.xe s₂) X.xe s₁) (fun u s' xx => ?_) PassesOwn.looking).run [] s σ H D (I.toTry _) h) (fun f s1 hsp => ?_) (fun e s1 he => he)
  · obtain ⟨a, B, sI, pins', σ', H', cls, d, rfl, J', nb, up, sky, na, os, ag, w⟩ := xx
    have J : Inv X pins σ' H' sI := J'.ofTry ok
    have sky' : Sky B (X.env :: X.outer) a (Zc cls d) X.env.locals s'.heap := by rw [← hs]; exact sky
    show wpAny (model X.prog X.w) X.A (noteFrame (.ref a) X.env) _ _ _
    refine Sky.land Zc.steady hfr hf sky' fun h3 fl3 up3 => ?_
    have J3 : Inv X pins σ' H' { s' with heap := h3 } := J.landed nb fl3.1 (up.trans up3) os ag
    obtain ⟨oe3, vs3, he3, hz3, hd3⟩ := fl3.there
    have notFr : ∀ {h : Heap} {o : Obj} {vs : Array Value}, h.FunFrames B (X.env :: X.outer) → h.get? a = some o → o.data = .fields vs → a ∉ frs (X.env :: X.outer) := fun {h o vs} ff e dd hm => by
      obtain ⟨_, o', e', hnf⟩ := ff.mem hm
      rw [e] at e'; cases e'
      exact hnf _ dd
    have nfr := notFr fl3.2.2.1 he3 hd3
    have nL : a ≠ X.env.locals := fun z => nfr (List.mem_filterMap.mpr ⟨X.env, List.mem_cons_self, by rw [hf, z]⟩)
    have nF : a ∉ X.fs := fun hm => by
      obtain ⟨e, he, q⟩ := List.mem_filterMap.mp hm
      exact nfr (List.mem_filterMap.mpr ⟨e, List.mem_cons_of_mem _ he, q⟩)
    have S3 := J3.suite he3 hd3 na nL nF
    have test : ∀ {x : Str} {c : Value} {np : Pos} (hc : Names X x c) {Q : Value → Shared → Prop} {E : Value → Shared → Prop}, Q c { s' with heap := h3 } → wpAny (model X.prog X.w) (X.A.mark (some (.ref a))) (eval (.Name x np) X.env) Q E { s' with heap := h3 } := fun {x c np} hc {Q E} q => by
      obtain ⟨hg, hdbg, hm | ⟨hm, hv, hnn⟩⟩ := hc
      · exact ld_glob (X := X.suite a ((a, oe3) :: (X.pn ++ pins))) S3 hg hm q hdbg
      · exact ld_blt (X := X.suite a ((a, oe3) :: (X.pn ++ pins))) S3 hg hm hv q hnn hdbg
    have LT : PySem.W.Looks (model X.prog X.w) h3 (typeOf (.ref a)) cls := fun A Q E s k q => wpAny_typeOf_ref (k _ _ he3) (by rw [hz3.1]; exact q)
    have go : ∀ {hds' : List ExceptHandler} {l' : List ClA}, HdsA X hds' l' → wManyA X.K Wout D l' cls d σ' H' →
        wpAny (model X.prog X.w) X.A (handleBy (.ref a) X.env hds') (SP X pins D) X.xe { s' with heap := h3 } := by
      intro hds' l' hk
      induction hk with
      | nil =>
        intro w
        refine wpAny_handleBy_nil ?_
        obtain ⟨k1, k2, k3, oe, vs, T, oT, ts', he, hz, hd, h1, hr⟩ := id fl3
        unfold PySem.passOn
        refine wpAny_bind (wpAny_field he hd h1 ?_)
        rw [if_neg (show ¬ ((Value.ref T == Value.none) = true) from by simp)]
        have fin : wpAny (model X.prog X.w) X.A (setFlight (.ref a) X.env.frame) (fun _ s4 => wpAny (model X.prog X.w) X.A (throw (.ref a) : Sem Flow) (SP X pins D) X.xe s4) X.xe { s' with heap := h3 } := by
          rw [hf]
          refine HandSPX.setFlight_upZ fl3 fun h4 hh4 up4 => wpAny_throw (tk _ _ ?_)
          exact ⟨a, B, sI, pins, σ', H', cls, d, rfl, J, nb, (up.trans up3).trans up4, .inr (.inr (by rw [hs]; exact hh4)), na, os, ag, w⟩
        first
          | exact wpAny_bind (wpAny_pure (wpAny_bind fin))
          | exact wpAny_bind fin
      | @cons x c ts b₀ suite np pos' hds2 l2 hc hsu r ih =>
        intro w
        obtain ⟨b, hb1, hyes, hno⟩ := w
        refine wpAny_handleBy_cons (codeAny_handlers_test ?_) (by intro q; cases q)
        refine test hc ((PySem.W.exm_one (M := model X.prog X.w) (J3.kIn) LT hb1).here ?_)
        cases b with
        | true =>
          refine codeAny_handlers_suite ?_
          refine HandSPX.lands_againZ fl3 fun h4 fl4 up4 => ?_
          have J4 : Inv X pins σ' H' { s' with heap := h4 } := J.landed nb fl4.1 ((up.trans up3).trans up4) os ag
          obtain ⟨oe4, vs4, he4, hz4, hd4⟩ := fl4.there
          have S4 := J4.suite he4 hd4 na nL nF
          refine wpAny_mono ((hsu a oe4 cls d (X.pn ++ pins) hz4 ⟨_, hd4⟩).run [] _ _ H' _ S4 (hyes rfl a na)) (fun f s6 hsp => ?_) (fun _ _ z => False.elim z)
          cases f with
          | next =>
            obtain ⟨σ6, H6, S6, q6⟩ := hsp
            exact ⟨_, _, S6.unsuite ok, q6⟩
          | brk =>
            obtain ⟨σ6, H6, S6, q6⟩ := hsp
            exact ⟨_, _, S6.unsuite ok, q6⟩
          | cont =>
            obtain ⟨σ6, H6, S6, q6⟩ := hsp
            exact ⟨_, _, S6.unsuite ok, q6⟩
          | ret u =>
            obtain ⟨v6, σ6, H6, S6, r6, q6⟩ := hsp
            exact ⟨_, _, _, S6.unsuite ok, r6, q6⟩
        | false =>
          show wpAny _ X.A (handleBy (.ref a) X.env hds2) _ _ _
          exact ih (hno rfl)
      | @consN x n i c ts b₀ suite np pos' hds2 l2 hi hln hc hsu r ih =>
        intro w
        have hloc : Loc X.env.scope n := .inl hln
        obtain ⟨b, hb1, hyes, hno⟩ := w
        refine wpAny_handleBy_cons (codeAny_handlers_test ?_) (by intro q; cases q)
        refine test hc ((PySem.W.exm_one (M := model X.prog X.w) (J3.kIn) LT hb1).here ?_)
        cases b with
        | true =>
          refine codeAny_handlers_suite_as ?_
          refine HandSPX.lands_againZ fl3 fun h4 fl4 up4 => ?_
          have J4 : Inv X pins σ' H' { s' with heap := h4 } := J.landed nb fl4.1 ((up.trans up3).trans up4) os ag
          obtain ⟨oe4, vs4, he4, hz4, hd4⟩ := fl4.there
          have S4 := J4.suite he4 hd4 na nL nF
          refine store_ok (X := X.suite a ((a, oe4) :: (X.pn ++ pins))) (v := .ref a) S4 hN hi hloc rfl (fun s5 S5 => ?_) (.inr hln)
          refine wpAny_mono ((hsu a oe4 cls d (X.pn ++ pins) hz4 ⟨_, hd4⟩).run [] s5 _ H' _ S5 (hyes rfl a na)) (fun f s6 hsp => ?_) (fun _ _ z => False.elim z)
          have end_ : ∀ {σ6 : L2.St} {H6 : Hp} {Q : Shared → Prop}, Inv (X.suite a ((a, oe4) :: (X.pn ++ pins))) [] σ6 H6 s6 → (∀ s7, Inv X pins (σ6.set i none) H6 s7 → Q s7) →
              wpAny (model X.prog X.w) X.A (do bindName X.env n .none; unbindBehindTheSuite X.env n pos') (fun _ s7 => Q s7) X.xe s6 := fun {σ6 H6 Q} S6 hq => gone_ok (S6.unsuite ok) hN hi hln hq
          cases f with
          | next =>
            obtain ⟨σ6, H6, S6, q6⟩ := hsp
            exact end_ S6 fun s7 J7 => ⟨_, _, J7, q6⟩
          | brk =>
            obtain ⟨σ6, H6, S6, q6⟩ := hsp
            exact end_ S6 fun s7 J7 => ⟨_, _, J7, q6⟩
          | cont =>
            obtain ⟨σ6, H6, S6, q6⟩ := hsp
            exact end_ S6 fun s7 J7 => ⟨_, _, J7, q6⟩
          | ret u =>
            obtain ⟨v6, σ6, H6, S6, r6, q6⟩ := hsp
            exact end_ S6 fun s7 J7 => ⟨_, _, _, J7, r6, q6⟩
        | false =>
          show wpAny _ X.A (handleBy (.ref a) X.env hds2) _ _ _
          exact ih (hno rfl)
    exact go hh w
  · cases f with
    | next =>
      obtain ⟨σ', H', J', q⟩ := hsp
      exact wpAny_execs_nil ⟨σ', H', J'.ofTry ok, q⟩
    | brk =>
      obtain ⟨σ', H', J', q⟩ := hsp
      exact ⟨σ', H', J'.ofTry ok, q⟩
    | cont =>
      obtain ⟨σ', H', J', q⟩ := hsp
      exact ⟨σ', H', J'.ofTry ok, q⟩
    | ret u =>
      obtain ⟨v, σ', H', J', r, q⟩ := hsp
      exact ⟨v, σ', H', J'.ofTry ok, r, q⟩
end
end Cs

set_option Elab.async false
set_option linter.all false
set_option maxRecDepth 100000
set_option maxHeartbeats 4000000
/-! C.m(e, ..) and C(e, ..) (promises of FnR) in a try. -/
namespace Cs
open PySem PySem.Spec PyProof.Rows L2 ClX
section
variable {X : Cx} {pins : List (Addr × Obj)} {σ : L2.St} {H : Hp} {s : Shared} {C p g : Addr} {mc : Value} {m : Str}
theorem run_fnRS {CX : CXT} {k : Nat} {f : Addr} {sp : Sp} {E : XK} {Q : VK} {us : List Value} {vs : List V} (F : FnR X.prog X.w X.K X.mg X.base CX k f sp) (hr : Room k X.A) (hx : PassesAt CX X σ E) (I : Inv X pins σ H s) (r : Vals vs us) (h : sp vs H Q E) :
    codeAny (model X.prog X.w) X.A (.call (.ref f) ⟨us, []⟩) (fun r s' => match r with | .ok (.ret v) => EP X pins σ Q v s' | .ok _ => False | .error e => X.xe e s') s := by
  refine codeAny_mono (F X.A X.stack s H us vs Q E hr I.env0 r h) fun r s' hq => ?_
  cases r with
  | error e => exact hx pins H s e s' I hq
  | ok fl =>
    cases fl with
    | ret u => exact I.after hq
    | next => exact False.elim hq
    | brk => exact False.elim hq
    | cont => exact False.elim hq
theorem run_cmS {CX : CXT} {k : Nat} {q : Addr} {sp : Sp} {E : XK} {Q : VK} {us : List Value} {vs : List V} (F : FnR X.prog X.w X.K X.mg X.base CX k g sp) (hr : Room k X.A) (hx : PassesAt CX X σ E) (I : Inv X ((q, PySem.W.methodObj (.ref g) (.ref C)) :: pins) σ H s)
    (r : Vals vs us) (h : sp (.ref C :: vs) H Q E) : wpAny (model X.prog X.w) X.A (call (.ref q) us) (EP X pins σ Q) X.xe s := by
  have z : wpAny (model X.prog X.w) X.A (call (.ref q) us) (EP X ((q, PySem.W.methodObj (.ref g) (.ref C)) :: pins) σ Q) X.xe s :=
    wpAny_call (PySem.W.method_call (pin_at I) (run_fnRS (us := .ref C :: us) (vs := .ref C :: vs) F hr hx I (.cons rfl r) h))
  exact thn z fun _ _ y => unpinE y
theorem run_makeRS {CX : CXT} {k : Nat} {f : Addr} {sp : Sp} {E : XK} {Q : VK} {us : List Value} {vs : List V} (M : Mk X.K C f) (F : FnR X.prog X.w X.K X.mg X.base CX k f sp) (hr : Room (k + 1) X.A) (hx : PassesAt CX X σ E) (I : Inv X pins σ H s) (r : Vals vs us)
    (h : ∀ x dx, H x = Option.none → H dx = Option.none → dx ≠ x → sp (V.ref x :: vs) (upd (upd H dx (.own x)) x (.ins C dx [])) (fun v H2 => v = .non ∧ Q (.ref x) H2) E) :
    wpAny (model X.prog X.w) X.A (call (.ref C) us) (EP X pins σ Q) X.xe s := by
  have hq := h (s.heap.objs.size + 1) s.heap.objs.size (I.hok.fresh (Nat.le_succ _)) (I.hok.fresh (Nat.le_refl _)) (Nat.ne_of_lt (Nat.lt_succ_self _))
  have I2 := Inv.made (C := C) I
  have r2 : Vals (V.ref (s.heap.objs.size + 1) :: vs) (Value.ref (s.heap.objs.size + 1) :: us) := .cons rfl r
  refine wpAny_call (make_map (f := f) I.kIn M.makes M.init (beq_iff_eq.mp M.fn) (codeAny_mono (F _ X.stack _ _ (Value.ref (s.heap.objs.size + 1) :: us) _ _ E (hr.make C us []) (I2.env0.make C us []) r2 hq) fun r s' hq' => ?_))
  cases r with
  | error e => exact hx pins _ _ e s' I2 hq'
  | ok fl =>
    cases fl with
    | ret u =>
      obtain ⟨v, H', I3, rv, ev, q3⟩ := I2.after hq'
      subst ev
      exact ⟨rv, ⟨V.ref (s.heap.objs.size + 1), H', I3, rfl, q3⟩⟩
    | next => exact False.elim hq'
    | brk => exact False.elim hq'
    | cont => exact False.elim hq'
end
section
variable {X : Cx} {CX : CXT} {k : Nat} {C p g f : Addr} {mc : Value} {m x : Str} {sp : Sp} {E : L2.St → XK} {o e : Expr} {es : List Expr} {pos apos ppos : Pos} {ta : TE} {t : TA} {pl : Sem Bool}
def tCMethS (C : Addr) (sp : Sp) (E : L2.St → XK) (ta : TE) (t : TA) : TE := fun σ H Q => ta σ H fun x H1 => x = .ref C ∧ t σ H1 fun vs H2 => sp (.ref C :: vs) H2 Q (E σ)
theorem pe_cmethS (he : PE X o ta) (r : CRead X.K C mc) (c : CMet X.K C mc m p g) (F : FnR X.prog X.w X.K X.mg X.base CX k g sp) (hr : Room k X.A) (hx : ∀ σ, PassesAt CX X σ (E σ)) (ha : PA X (e :: es) t)
    (hst : starEach (e :: es) X.env = (false, eval e X.env) :: starEach es X.env := by rfl) (hpl : (backTo pos (starEach es X.env)).any (·.1) = false := by rfl)
    (ht : eval (.Call (.Attribute o m apos) (e :: es) [] pos) X.env = (do
      let ov ← eval o X.env
      standAt apos.atName
      let (f, first) ← holding [ov] (getMethod ov m pl)
      callWith pos f first (backTo pos (starEach (e :: es) X.env)) (backToKw pos (keywordEach [] X.env))) := by rfl) :
    PE X (.Call (.Attribute o m apos) (e :: es) [] pos) (tCMethS C sp E ta t) := by
  refine ⟨fun pins s σ H Q I h => ?_⟩
  refine PySem.W.methodCall_KW (pl := pl) (thn (he.run pins s σ H _ I h) fun u s1 ⟨x, H1, I1, rx, ex, q⟩ => ?_) ht
  subst ex
  obtain rfl : u = Value.ref C := rx
  refine getmethcm_ok I1 r c fun s2 I2 => ?_
  refine callwith_cm I2 (base_none I1 (Nat.le_refl _)) c.fi (thn (ha.run pos _ s2 σ H1 _ I2 q) fun us s3 ⟨vs, H2, I3, rv, q2⟩ => ⟨⟨pin_at I3, I3.kIn⟩, ?_⟩) hst hpl
  exact run_cmS F hr (hx σ) I3 rv q2
def tMakeRS (C : Addr) (sp : Sp) (E : L2.St → XK) (t : TA) : TE := fun σ H Q => t σ H fun vs H1 => ∀ x dx, H1 x = none → H1 dx = none → dx ≠ x → sp (.ref x :: vs) (upd (upd H1 dx (.own x)) x (.ins C dx [])) (fun v H2 => v = .non ∧ Q (.ref x) H2) (E σ)
theorem pe_makeRS (M : Mk X.K C f) (F : FnR X.prog X.w X.K X.mg X.base CX k f sp) (hr : Room (k + 1) X.A) (hg : Gl X x) (hm : X.mg x = some (.ref C)) (hx : ∀ σ, PassesAt CX X σ (E σ)) (ha : PA X (e :: es) t) (hdb : (x == ("__debug__" : Str)) = false := by decide)
    (he : starEach (e :: es) X.env = (false, eval e X.env) :: starEach es X.env := by rfl) (hpl : (backTo pos (starEach es X.env)).any (·.1) = false := by rfl) : PE X (.Call (.Name x ppos) (e :: es) [] pos) (tMakeRS C sp E t) := by
  refine ⟨fun pins s σ H Q I h => ?_⟩
  refine wpAny_Call_Name_kw (ld_glob I hg hm ?_ hdb)
  refine PySem.W.callWith_K (h₀ := X.base) I.ok.mod.kin M.kp (thn (ha.run pos pins s σ H _ I h) fun us s1 ⟨vs, H1, I1, r, q⟩ => ⟨I1.kIn, ?_⟩) he hpl
  exact run_makeRS M F hr (hx σ) I1 r q
end
end Cs

set_option Elab.async false
set_option linter.all false
set_option maxRecDepth 100000
set_option maxHeartbeats 4000000
/-! == and != of lists and of tuples of the same objects; of one rule or the other. -/
namespace Cs
open PySem PySem.Spec PyProof.Rows L2
theorem OpR.or {X : Cx} {f : Value → Value → Sem Value} {r r' : R2} (h : OpR X f r) (h' : OpR X f r') : OpR X f (fun x y H Q => r x y H Q ∨ r' x y H Q) := by
  intro pins s σ H x y v u Q I rx ry d
  exact d.elim (fun d => h pins s σ H x y v u Q I rx ry d) fun d => h' pins s σ H x y v u Q I rx ry d
theorem vals_refs : ∀ {xs : List V} {us ws : List Value}, (∀ z ∈ xs, ∃ p, z = V.ref p) → Vals xs us → Vals xs ws → us = ws
  | [], _, _, _, .nil, .nil => rfl
  | x :: xs, _, _, h, .cons a r, .cons b t => by
    obtain ⟨p, rfl⟩ := h x List.mem_cons_self
    cases a
    cases b
    rw [vals_refs (fun z m => h z (List.mem_cons_of_mem _ m)) r t]
def SameSeq (K : PySem.W.Frag) (H : Hp) (x y : V) : Prop := ∃ a b xs, x = .ref a ∧ y = .ref b ∧ (∀ z ∈ xs, ∃ p, z = V.ref p) ∧ ((SqL K H a xs ∧ SqL K H b xs) ∨ (SqT K H a xs ∧ SqT K H b xs))
def rEqI (K : PySem.W.Frag) : R2 := fun x y H Q => SameSeq K H x y ∧ Q (.bl true) H
def rNeI (K : PySem.W.Frag) : R2 := fun x y H Q => SameSeq K H x y ∧ Q (.bl false) H
theorem all_range (n : Nat) : ((List.range n).all fun _ => true) = true := List.all_eq_true.mpr fun _ _ => rfl
theorem op_eqI {X : Cx} (hu : X.A.units < cLine) : OpR X (compareOp .Eq) (rEqI X.K) := by
  intro pins s σ H x y v u Q I rx ry h
  obtain ⟨⟨a, b, xs, rfl, rfl, hr, h⟩, q⟩ := h
  cases rx
  cases ry
  rcases h with ⟨ha, hb⟩ | ⟨ha, hb⟩
  · obtain ⟨us, r1, p1, _⟩ := I.list ha
    obtain ⟨ws, r2, p2, _⟩ := I.list hb
    obtain rfl := vals_refs hr r1 r2
    refine SeqAt.eq_listAt (e := fun _ => true) p1.isList p2.isList rfl hu (fun j _ _ => SeqAt.EqAt.same _) ?_
    rw [all_range]
    exact ⟨.bl true, H, I, rfl, q⟩
  · obtain ⟨us, r1, p1, _⟩ := I.tuple ha
    obtain ⟨ws, r2, p2, _⟩ := I.tuple hb
    obtain rfl := vals_refs hr r1 r2
    refine SeqAt.eq_tupleAt (e := fun _ => true) p1 p2 hu (fun j _ _ => SeqAt.EqAt.same _) ?_
    rw [all_range]
    exact ⟨.bl true, H, I, by simp; rfl, q⟩
theorem op_neI {X : Cx} (hu : X.A.units < cLine) : OpR X (compareOp .NotEq) (rNeI X.K) := by
  intro pins s σ H x y v u Q I rx ry h
  obtain ⟨⟨a, b, xs, rfl, rfl, hr, h⟩, q⟩ := h
  cases rx
  cases ry
  rcases h with ⟨ha, hb⟩ | ⟨ha, hb⟩
  · obtain ⟨us, r1, p1, _⟩ := I.list ha
    obtain ⟨ws, r2, p2, _⟩ := I.list hb
    obtain rfl := vals_refs hr r1 r2
    refine SeqAt.RcNeAt.lists (e := fun _ => true) p1.isList p2.isList rfl hu (fun j _ _ => SeqAt.EqAt.same _) X.prog X.w X.xe _ ?_
    rw [all_range]
    exact ⟨.bl false, H, I, rfl, q⟩
  · obtain ⟨us, r1, p1, _⟩ := I.tuple ha
    obtain ⟨ws, r2, p2, _⟩ := I.tuple hb
    obtain rfl := vals_refs hr r1 r2
    refine SeqAt.RcNeAt.tuples (e := fun _ => true) p1 p2 hu (fun j _ _ => SeqAt.EqAt.same _) X.prog X.w X.xe _ ?_
    rw [all_range]
    exact ⟨.bl false, H, I, by simp; rfl, q⟩
end Cs

set_option Elab.async false
set_option linter.all false
set_option maxRecDepth 100000
set_option maxHeartbeats 4000000
set_option pp.maxSteps 600
/-! The law's tries. -/
namespace Cs
open PySem L2
section
open L2H PySem.Spec PyProof.Rows
variable {X : Cx} {k : Nat} {f : Addr} {fd : FuncData} {ps : List Str} {sp : Sp} {x : Str} {e : Expr} {es : List Expr} {p pos : Pos} {t : TA}
/-- a call of a def that needs no calm -/
theorem pe_callW (F : FnW X.prog X.w X.K X.mg X.base k f fd ps sp) (hr : RoomH k X.A) (hg : Gl X x) (hm : X.mg x = some (.ref f)) (hk : PySem.W.keepIn X.K (.ref f) = true) (hb : Binds X.K fd ps [])
    (ha : PA X (e :: es) t) (hdb : (x == ("__debug__" : Str)) = false := by decide) (he : starEach (e :: es) X.env = (false, eval e X.env) :: starEach es X.env := by rfl) (hpl : (backTo pos (starEach es X.env)).any (·.1) = false := by rfl) :
    PE X (.Call (.Name x p) (e :: es) [] pos) (tCall sp [] E0 t) := by
  refine ⟨fun pins s σ H Q I h => ?_⟩
  refine wpAny_Call_Name_kw (ld_glob I hg hm ?_ hdb)
  refine PySem.W.callWith_K (h₀ := X.base) I.ok.mod.kin hk (thn (ha.run pos pins s σ H _ I h) fun us s1 ⟨vs, H1, I1, r, q⟩ => ⟨I1.kIn, ?_⟩) he hpl
  have q : sp (vs ++ []) H1 Q E0 := q
  rw [List.append_nil] at q
  exact run_fnW F hr hb I1 r q
end
theorem roomH0 {k : Nat} {A : PySem.Around} (r : L2.Room k A) : L2H.RoomH k A := ⟨r.dp, r.un⟩
theorem wB : Word "b" := ⟨by decide, by decide, by decide +kernel⟩
def spSame (K : PySem.W.Frag) (C : Addr) : Sp := fun vs H Q _ => ∃ x : V, vs = [x, x] ∧ SelfV K C H x ∧ Q (.bl true) H
theorem tyL {K : PySem.W.Frag} {H : Hp} {a : Addr} {xs : List V} (h : SqL K H a xs) : TyX K H (.ref a) (.type "list") := by
  rcases h with (e | ⟨o, e⟩) | ⟨o, its, n, e, c, _⟩
  · exact .base (.lst e)
  · exact .base (.frz e)
  · exact .kList e c
theorem tyT {K : PySem.W.Frag} {H : Hp} {a : Addr} {xs : List V} (h : SqT K H a xs) : TyX K H (.ref a) (.type "tuple") := by
  rcases h with (e | ⟨o, e⟩) | ⟨o, its, n, e, c, _⟩
  · exact .base (.tup e)
  · exact .fTuple e
  · exact .kTuple e c
/-- an instance of another class -/
structure OK2 (K : PySem.W.Frag) (B1 B2 ce : Addr) : Prop where
  k1 : PySem.W.kitOne K (.ref B1) (.ref ce) = some true
  k2 : PySem.W.kitOne K (.ref B2) (.ref ce) = some true
  k12 : PySem.W.kitOne K (.ref B1) (.ref B2) = some false
  e21 : PySem.W.exmOne K (.ref B2) (.ref B1) = some false
def spListRef (K : PySem.W.Frag) : Sp := fun vs H Q _ => ∃ (x : V) (n : Int), vs = [x, .int n] ∧ (((∀ H', Same H H' → NSeq K H' x) ∧ n = -1) ∨
  ∃ (a : Addr) (xs : List V) (f : Nat) (gs : List (Str × Int)) (y : V), x = .ref a ∧ H a = some (.lst xs) ∧ xs[f]? = some y ∧ PrL H (xs.take f) gs ∧ GoodPs gs ∧ (∀ H', Same H H' → BadE K H' y) ∧ n = f) ∧ ∀ H', Same H H' → Q (.bl true) H'
def spReading (K : PySem.W.Frag) (C : Addr) : Sp := fun vs H Q _ => ∃ (p dx : Addr) (fs : List (Str × V)) (x : V), vs = [.ref p, x] ∧ H p = some (.ins C dx fs) ∧ (∀ H', Same H H' → NW K H' x ∧ SelfV K C H' x) ∧ ∀ H', Same H H' → Q (.bl true) H'
def spSetting (K : PySem.W.Frag) (C : Addr) : Sp := fun vs H Q _ => ∃ (p d : Addr) (t : Tab) (x y : V) (known : Bool), vs = [.ref p, x, y, .bl known] ∧ Cnt C H p d t ∧ t.length ≤ 400 ∧
  ((known = false ∧ ∀ H', Same H H' → NW K H' x ∧ SelfV K C H' x) ∨ (known = true ∧ (∃ z, x = .str z ∧ Word z) ∧ ∀ H', Same H H' → WrongH K H' y ∧ SelfV K C H' y)) ∧ ∀ H', Same H H' → Q (.bl true) H'
def spByName (K : PySem.W.Frag) (C : Addr) : Sp := fun vs H Q _ => ∃ (x : V) (n : Int), vs = [x, .int n] ∧ Small n ∧ (∀ H', Same H H' → WrongH K H' x ∧ SelfV K C H' x) ∧ ∀ H', Same H H' → Q (.bl true) H'
section
variable {P : Program} {w : World} {K : PySem.W.Frag} {mg : Str → Option Value} {base : Heap}
theorem ok_eqW {C f : Addr} {fd : FuncData} {fI : Addr} (F : Fun K "__eq__" "Counts.__eq__" s_Counts_eq f fd) (g : Bi mg) (T : CT P w K mg base C fI) (ci : CI K C) : FnW P w K mg base 1 f fd ["self", "other"] (spEq C) := by
  refine Fun.okW F sc_Counts_eq (fun vs H Q E h => ?_) (fun cdv A outer s H vs Q E hr h => ?_)
  · obtain ⟨_, _, _, _, _, _, rfl, _⟩ := h
    rfl
  · obtain ⟨p, d, q, e, t, u, rfl, hc, hc2, k⟩ := h
    have hu0 : (A.deeper (PyProof.Rows.envOfC "Counts.__eq__" (defScope s_Counts_eq) s.heap.objs.size f cdv)).units < cLine := by have := hr.un; omega
    refine ⟨_, (pss_one (ps_ret (pe_and (pe_callB call_isi (by rfl) g.isinstance (by decide +kernel) (pa_cons (pv 1) (pa_cons (pe_glob (v := .ref C) rfl T.mgC rfl) pa_nil))) (pe_one (pe_cmpR (op_eqT hu0) (pe_fld (pv 0) rfl) (pe_fld (pv 1) rfl) (nomark _)))))), ?_⟩
    obtain ⟨⟨dx, hp⟩, hd, hh, _⟩ := id hc
    obtain ⟨⟨dx2, hq⟩, hd2, hh2, _⟩ := id hc2
    refine ⟨_, rfl, _, _, _, _, true, rfl, .own C, ci.ty hq, kit_self, _, rfl, iteT ?_⟩
    refine ⟨_, rfl, p, C, dx, _, _, rfl, hp, T.cl, T.nH, flds_held d, _, rfl, q, C, dx2, _, _, rfl, hq, T.cl, T.nH, flds_held e, ?_⟩
    exact ⟨d, e, t, u, rfl, rfl, hd, hd2, k _ (same_tab hh hh2)⟩
theorem ok_lintW {f : Addr} {fd : FuncData} (F : Fun K "_law_is_integer" "_law_is_integer" s_l_is_integer f fd) (g : Bi mg) : FnW P w K mg base 1 f fd ["_law_thing"] (fun vs H Q _ => ∃ n : Int, vs = [.int n] ∧ Q (.bl true) H) := by
  refine Fun.okW F sc_l_is_integer (fun vs H Q E h => ?_) (fun cdv A outer s H vs Q E hr h => ?_)
  · obtain ⟨_, rfl, _⟩ := h
    rfl
  · obtain ⟨n, rfl, k⟩ := h
    refine ⟨_, (pss_one (ps_ret (pe_and (pe_callB call_isi (by rfl) g.isinstance (by decide +kernel) (pa_cons (pv 0) (pa_cons (pe_bltn (v := .ty "int") (by rfl) g.int (by decide +kernel) rfl) pa_nil))) (pe_one (pe_not (pe_callB call_isi (by rfl) g.isinstance (by decide +kernel) (pa_cons (pv 0) (pa_cons (pe_bltn (v := .ty "bool") (by rfl) g.bool (by decide +kernel) rfl) pa_nil)))))))), ?_⟩
    refine ⟨_, rfl, _, _, _, _, true, rfl, .ty "int", .base (.int n), kit_ty (by decide +kernel), _, rfl, iteT ?_⟩
    exact ⟨_, rfl, _, _, _, _, false, rfl, .ty "bool", .base (.int n), kit_ty (by decide +kernel), _, rfl, k⟩
theorem ok_same {C f fEq : Addr} {fd fdEq : FuncData} (F : Fun K "_law_same" "_law_same" s_l_same f fd) (g : Bi mg) (ci : CI K C) (kB : PySem.W.kitOne K (.ref C) (.type "bool") = some false)
    (cEq : EqC K C fEq) (oEq : FnW P w K mg base 1 fEq fdEq ["self", "other"] (spEq C)) (bEq : Binds K fdEq ["self", "other"] []) : FnW P w K mg base 3 f fd ["_law_actual", "_law_wanted"] (spSame K C) := by
  refine Fun.okW F sc_l_same (fun vs H Q E h => ?_) (fun cdv A outer s H vs Q E hr h => ?_)
  · obtain ⟨_, rfl, _⟩ := h
    rfl
  · obtain ⟨x, rfl, hx, k⟩ := h
    have hrEq : L2H.RoomH 1 _ := hr.mono (by decide)
    refine ⟨_, (pss_cons (ps_if (pt_cmpR op_isN (pv 1) pe_non (nomark _)) (pss_one (ps_ret (pe_cmpR op_isN (pv 0) pe_non (nomark _)))) pss_nil)
      (pss_one (ps_ret (pe_and (pe_cmpR op_eq (pe_callB call_isi (by rfl) g.isinstance (by decide +kernel) (pa_cons (pv 0) (pa_cons (pe_bltn (v := .ty "bool") (by rfl) g.bool (by decide +kernel) rfl) pa_nil))) (pe_callB call_isi (by rfl) g.isinstance (by decide +kernel) (pa_cons (pv 1) (pa_cons (pe_bltn (v := .ty "bool") (by rfl) g.bool (by decide +kernel) rfl) pa_nil))) (nomark _)) (pe_one (pe_cmpR (Cs.OpR.or (op_eqD hr.units) (op_eqW cEq oEq hrEq bEq)) (pv 0) (pv 1) (nomark _))))))), ?_⟩
    have go : x ≠ .non → ∀ (T : Value) (b : Bool), TyX K H x T → PySem.W.kitOne K T (.type "bool") = some b → ((∃ d, Dp K H x d ∧ SeqAt.shaped d = true) ∨ ∃ (p d : Addr) (t : Tab), x = .ref p ∧ Cnt C H p d t ∧ t.length ≤ 400) →
        tSeq (tIfS (tTest (tOp (fun x y H Q => y = V.non ∧ Q (V.bl (decide (x = V.non))) H) (tVar 1) (tC V.non))) (tRet (tOp (fun x y H Q => y = V.non ∧ Q (V.bl (decide (x = V.non))) H) (tVar 0) (tC V.non))) tNext)
          (tRet (tAndV (tOp rEq (tCB (rIsi K) (tCons (tVar 0) (tCons (tC (V.ty "bool")) tNil))) (tCB (rIsi K) (tCons (tVar 1) (tCons (tC (V.ty "bool")) tNil)))) (tOp (fun x y H_1 Q => rEqD K x y H_1 Q ∨ rEqO C (spEq C) E0 x y H_1 Q) (tVar 0) (tVar 1))))
          { nx := fun x H' => Q V.non H', rt := Q } [some x, some x] H := fun hn T b ht hk hx => by
      refine ⟨_, rfl, rfl, _, rfl, ?_⟩
      rw [decide_eq_false hn]
      refine iteF ?_
      refine ⟨_, rfl, _, _, _, _, b, rfl, .ty "bool", ht, hk, _, rfl, _, _, _, _, b, rfl, .ty "bool", ht, hk, rfl, ?_⟩
      rw [decide_eq_true (show V.bl b = V.bl b from rfl)]
      refine ⟨_, rfl, iteT ?_⟩
      rcases hx with ⟨d, hd, hs⟩ | ⟨p, d, t, rfl, hc, hl⟩
      · refine ⟨_, rfl, _, rfl, .inl ⟨d, d, hd, hd, hs, hs, ?_⟩⟩
        rw [SeqAt.eqv_refl _ (SeqAt.canLay_of_shaped hs)]
        exact k
      · obtain ⟨⟨dx, hp⟩, _⟩ := id hc
        refine ⟨_, rfl, _, rfl, .inr ⟨p, p, _, _, _, _, rfl, rfl, hp, hp, p, d, p, d, t, t, rfl, hc, hc, fun b hb => ?_⟩⟩
        obtain rfl : b = true := hb.mpr fun _ => rfl
        exact k
    rcases id hx with ⟨d, hd, hs⟩ | ⟨p, d, t, rfl, hc, hl⟩
    · cases hd with
      | non => exact ⟨_, rfl, rfl, _, rfl, iteT ⟨_, rfl, rfl, k⟩⟩
      | bl b => exact go (by simp) _ true (.base (.bl b)) (kit_ty (by decide +kernel)) hx
      | int i => exact go (by simp) _ false (.base (.int i)) (kit_ty (by decide +kernel)) hx
      | str z => exact go (by simp) _ false (.base (.str z)) (kit_ty (by decide +kernel)) hx
      | lst h1 h2 => exact go (by simp) _ false (tyL h1) (kit_ty (by decide +kernel)) hx
      | tup h1 h2 => exact go (by simp) _ false (tyT h1) (kit_ty (by decide +kernel)) hx
    · obtain ⟨⟨dx, hp⟩, _⟩ := id hc
      exact go (by simp) _ false (ci.ty hp) kB hx
theorem ok_list_refused {C B B2 ce f fX fLi q g9 : Addr} {fd fdX fdLi : FuncData} {mc : Value} {fI : Addr} (F : Fun K "_law_list_refused" "_law_list_refused" s_l_list_refused f fd) (g : Bi mg) (T : CT P w K mg base C fI)
    (rO : ClX.CRead K C mc) (cO : ClX.CMet K C mc "of" q g9) (oO : FnR P w K mg base (L2.CX P w) 4 g9 (spOfN K C B))
    (XC : XDef P w K mg base "BadCounts" B fX "at" ["self", "at"] fdX) (EC : ExcC K B) (XF : XfC K B) (hno : PySem.W.findIn K (.ref B) "at" = some none) (mCE : mg "CountsheldError" = some (.ref ce)) (k1 : PySem.W.kitOne K (.ref B) (.ref ce) = some true)
    (oLi : FnW P w K mg base 1 fLi fdLi ["_law_thing"] (fun vs H Q _ => ∃ n : Int, vs = [.int n] ∧ Q (.bl true) H)) (mLi : mg "_law_is_integer" = some (.ref fLi)) (kLi : PySem.W.keepIn K (.ref fLi) = true) (bLi : Binds K fdLi ["_law_thing"] []) :
    FnOk P w K mg base CX0 5 f fd ["_law_thing", "_law_at"] (spListRef K) := by
  refine F.ok sc_l_list_refused (fun vs H Q E h => ?_) (fun cdv A outer s H vs Q E hr h => ?_)
  · obtain ⟨_, _, rfl, _⟩ := h
    rfl
  · obtain ⟨x, n, rfl, hx, k⟩ := h
    have hrOf : Room 4 _ := hr
    refine ⟨_, (pss_cons (ps_try_as (i := 2) (tb := fun W => tDrop (tCMethS C (spOfN K C B) (WE W) (tC (.ref C)) (tCons (tVar 0) tNil))) (ts := fun ae cls d => tRet (tAndV (tCall (fun vs H Q _ => ∃ n : Int, vs = [.int n] ∧ Q (.bl true) H) [] E0 (tCons (tXf ae cls d B "at" (tVar 2)) tNil)) (tAndV (tOp rEq (tXf ae cls d B "at" (tVar 2)) (tVar 1)) (tCB (rIsD K ae cls d) (tCons (tVar 2) (tCons (tC (.ref ce)) tNil)))))) rfl rfl sc_l_list_refused.nd rfl rfl ⟨rfl, by decide, Or.inl XC.mg_⟩ takes0
          (fun W pn xe tk _ => pss_one (ps_expr (pe_cmethS (pe_glob (v := .ref C) rfl T.mgC rfl) rO cO oO hrOf (fun σ => passAt tk σ) (pa_cons (pv 0) pa_nil))))
          (fun ae oe cls d pn hz hf => pss_one (ps_ret (pe_and (pe_callW oLi (roomM (hr.mono (by decide))) rfl mLi kLi bLi (pa_cons (pe_xf XF hno hz hf (pv 2)) pa_nil)) (pe_and (pe_cmpR op_eq (pe_xf XF hno hz hf (pv 2)) (pv 1) (nomark _)) (pe_one (pe_callB (call_isD hz hf) (by rfl) g.isinstance (by decide +kernel) (pa_cons (pv 2) (pa_cons (pe_glob (v := .ref ce) rfl mCE rfl) pa_nil)))))))))
      (pss_one (ps_ret pe_bl))), ?_⟩
    have comb : ∀ {E' : XK}, Xw B "at" (.int n) H E' → (((∀ H', Same H H' → NSeq K H' x) ∧ Xw B "at" (.int (-1)) H E') ∨
        ∃ (a : Addr) (xs : List V) (f : Nat) (gs : List (Str × Int)) (y : V), x = .ref a ∧ H a = some (.lst xs) ∧ xs[f]? = some y ∧ PrL H (xs.take f) gs ∧ GoodPs gs ∧ (∀ H', Same H H' → BadE K H' y) ∧ Xw B "at" (.int f) H E') := fun k => by
      rcases hx with ⟨hx, rfl⟩ | ⟨a, xs, f, gs, y, rfl, h1, h2, h3, h4, h5, rfl⟩
      · exact .inl ⟨hx, k⟩
      · exact .inr ⟨a, xs, f, gs, y, rfl, h1, h2, h3, h4, h5, k⟩
    refine ⟨rfl, _, rfl, x, rfl, comb fun H' d s' hd => ?_⟩
    refine ⟨true, XC.te, fun _ ae ha => ?_, fun q => Bool.noConfusion q⟩
    have sd : Same H' (upd H' d (.xd [(("at" : Str), .int n)])) := Same.new hd
    have gd : (upd H' d (.xd [(("at" : Str), .int n)])) d = some (.xd [(("at" : Str), .int n)]) := upd_same
    generalize upd H' d (.xd [(("at" : Str), .int n)]) = H2 at sd gd ⊢
    refine ⟨_, rfl, rfl, rfl, d, _, .int n, rfl, gd, rfl, n, rfl, _, rfl, iteT ?_⟩
    refine ⟨_, rfl, rfl, rfl, d, _, .int n, rfl, gd, rfl, _, rfl, rfl, ?_⟩
    rw [decide_eq_true (show V.int n = V.int n from rfl)]
    refine ⟨_, rfl, iteT ?_⟩
    exact ⟨_, rfl, B, d, _, _, _, _, EC, rfl, rfl, gd, rfl, fun _ q => q, k1, k _ (s'.trans sd)⟩
theorem ok_reading {C B B2 ce f fX fSm fGe : Addr} {fd fdX fdSm fdGe : FuncData} {fI : Addr} (F : Fun K "_law_reading" "_law_reading" s_l_reading f fd) (g : Bi mg) (T : CT P w K mg base C fI)
    (sGe : Spc K C "__getitem__" fGe) (iGe : PySem.W.fnIn K fGe = true) (oGe : FnOk P w K mg base (L2.CX P w) 3 fGe fdGe ["self", "word"] (spGetN K C B)) (bGe : Binds K fdGe ["self", "word"] [])
    (XW : XDef P w K mg base "BadWord" B fX "word" ["self", "word"] fdX) (EC : ExcC K B) (XF : XfC K B) (hno : PySem.W.findIn K (.ref B) "word" = some none) (mCE : mg "CountsheldError" = some (.ref ce)) (mBN : mg "BadNumber" = some (.ref B2)) (kk : OK2 K B B2 ce)
    (oSm : FnW P w K mg base 3 fSm fdSm ["_law_actual", "_law_wanted"] (spSame K C)) (mSm : mg "_law_same" = some (.ref fSm)) (kSm : PySem.W.keepIn K (.ref fSm) = true) (bSm : Binds K fdSm ["_law_actual", "_law_wanted"] []) :
    FnOk P w K mg base CX0 5 f fd ["_law_counts", "_law_word_here"] (spReading K C) := by
  refine F.ok sc_l_reading (fun vs H Q E h => ?_) (fun cdv A outer s H vs Q E hr h => ?_)
  · obtain ⟨_, _, _, _, rfl, _⟩ := h
    rfl
  · obtain ⟨p, dx, fs, x, rfl, hp, hx, k⟩ := h
    have hrGe : Room 4 _ := hr
    refine ⟨_, (pss_cons (ps_try_as (i := 3) (tb := fun W => tSeq (tAsg (tIxS C (spGetN K C B) (WE W) (tVar 0) (tVar 1)) (gName 2)) (tRet (tAndV (tCall (spSame K C) [] E0 (tCons (tVar 2) (tCons (tVar 1) tNil))) (tC (.bl false))))) (ts := fun ae cls d => tRet (tAndV (tCall (spSame K C) [] E0 (tCons (tXf ae cls d B "word" (tVar 3)) (tCons (tVar 1) tNil))) (tAndV (tCB (rIsD K ae cls d) (tCons (tVar 3) (tCons (tC (.ref ce)) tNil))) (tNotV (tCB (rIsD K ae cls d) (tCons (tVar 3) (tCons (tC (.ref B2)) tNil))))))) rfl rfl sc_l_reading.nd rfl rfl ⟨rfl, by decide, Or.inl XW.mg_⟩ takes0
          (fun W pn xe tk _ => pss_cons (ps_set (i := 2) sc_l_reading.nd rfl (Or.inl rfl) (pe_ixS sGe iGe oGe hrGe bGe (fun σ => passAt tk σ) (pv 0) (pv 1))) (pss_one (ps_ret (pe_and (pe_callW oSm (roomH0 (hr.mono (by decide))) rfl mSm kSm bSm (pa_cons (pv 2) (pa_cons (pv 1) pa_nil))) (pe_one pe_bl)))))
          (fun ae oe cls d pn hz hf => pss_one (ps_ret (pe_and (pe_callW oSm (roomM (hr.mono (by decide))) rfl mSm kSm bSm (pa_cons (pe_xf XF hno hz hf (pv 3)) (pa_cons (pv 1) pa_nil))) (pe_and (pe_callB (call_isD hz hf) (by rfl) g.isinstance (by decide +kernel) (pa_cons (pv 3) (pa_cons (pe_glob (v := .ref ce) rfl mCE rfl) pa_nil))) (pe_one (pe_not (pe_callB (call_isD hz hf) (by rfl) g.isinstance (by decide +kernel) (pa_cons (pv 3) (pa_cons (pe_glob (v := .ref B2) rfl mBN rfl) pa_nil))))))))))
      (pss_one (ps_ret pe_bl))), ?_⟩
    refine ⟨_, rfl, _, rfl, p, dx, fs, rfl, hp, p, dx, fs, x, rfl, hp, (hx H (Same.refl H)).1, fun H' d s' hd => ?_⟩
    refine ⟨true, XW.te, fun _ ae ha => ?_, fun q => Bool.noConfusion q⟩
    have sd : Same H' (upd H' d (.xd [(("word" : Str), x)])) := Same.new hd
    have gd : (upd H' d (.xd [(("word" : Str), x)])) d = some (.xd [(("word" : Str), x)]) := upd_same
    generalize upd H' d (.xd [(("word" : Str), x)]) = H2 at sd gd ⊢
    refine ⟨_, rfl, rfl, rfl, d, _, x, rfl, gd, rfl, _, rfl, x, rfl, (hx _ (s'.trans sd)).2, _, rfl, iteT ?_⟩
    refine ⟨_, rfl, B, d, _, _, _, _, EC, rfl, rfl, gd, rfl, fun _ q => q, kk.k1, _, rfl, iteT ?_⟩
    exact ⟨_, rfl, B, d, _, _, _, _, EC, rfl, rfl, gd, rfl, fun _ q => q, kk.k12, _, rfl, k _ (s'.trans sd)⟩
theorem ok_setting {C B B2 ce f fX fX2 fSm fSe : Addr} {fd fdX fdX2 fdSm fdSe : FuncData} {fI : Addr} (F : Fun K "_law_setting" "_law_setting" s_l_setting f fd) (g : Bi mg) (T : CT P w K mg base C fI)
    (sSe : Spc K C "__setitem__" fSe) (nSe : PySem.W.noSeq K C = true) (oSe : FnOk P w K mg base (L2.CX P w) 3 fSe fdSe ["self", "word", "number"] (fun vs H Q E => spSetX K C B2 vs H Q E ∨ spSetN K C B vs H Q E)) (bSe : Binds K fdSe ["self", "word", "number"] [])
    (XW : XDef P w K mg base "BadWord" B fX "word" ["self", "word"] fdX) (XN : XDef P w K mg base "BadNumber" B2 fX2 "number" ["self", "number"] fdX2) (EC : ExcC K B) (EC2 : ExcC K B2) (XF : XfC K B) (XF2 : XfC K B2)
    (hno : PySem.W.findIn K (.ref B) "word" = some none) (hno2 : PySem.W.findIn K (.ref B2) "number" = some none) (mCE : mg "CountsheldError" = some (.ref ce)) (kk : OK2 K B B2 ce)
    (oSm : FnW P w K mg base 3 fSm fdSm ["_law_actual", "_law_wanted"] (spSame K C)) (mSm : mg "_law_same" = some (.ref fSm)) (kSm : PySem.W.keepIn K (.ref fSm) = true) (bSm : Binds K fdSm ["_law_actual", "_law_wanted"] []) :
    FnOk P w K mg base CX0 5 f fd ["_law_counts", "_law_word_here", "_law_number_here", "_law_known"] (spSetting K C) := by
  refine F.ok sc_l_setting (fun vs H Q E h => ?_) (fun cdv A outer s H vs Q E hr h => ?_)
  · obtain ⟨_, _, _, _, _, _, rfl, _⟩ := h
    rfl
  · obtain ⟨p, d0, t, x, y, known, rfl, hc, hl, hx, k⟩ := h
    have hrSe : Room 3 _ := hr.mono (by decide)
    obtain ⟨⟨dx, hp⟩, _⟩ := id hc
    refine ⟨_, (pss_cons (ps_try_manyA (l := [(.ref B, some 4, fun ae cls d => tRet (tAndV (tNotV (tVar 3)) (tCall (spSame K C) [] E0 (tCons (tXf ae cls d B "word" (tVar 4)) (tCons (tVar 1) tNil))))), (.ref B2, some 4, fun ae cls d => tRet (tAndV (tVar 3) (tAndV (tCall (spSame K C) [] E0 (tCons (tXf ae cls d B2 "number" (tVar 4)) (tCons (tVar 2) tNil))) (tCB (rIsD K ae cls d) (tCons (tVar 4) (tCons (tC (.ref ce)) tNil))))))]) (tb := fun W => tAsg (tVar 2) (gSetX C (fun vs H Q E => spSetX K C B2 vs H Q E ∨ spSetN K C B vs H Q E) (WE W) (tVar 0) (tVar 1))) rfl rfl sc_l_setting.nd takes0
          (fun W pn xe tk _ => pss_one (ps_asg (pv 2) (pg_setX sSe nSe oSe hrSe bSe (fun σ => passAt tk σ) (pv 0) (pv 1))))
          (.consN rfl rfl ⟨rfl, by decide, Or.inl XW.mg_⟩ (fun ae oe cls d pn hz hf => pss_one (ps_ret (pe_and (pe_not (pv 3)) (pe_one (pe_callW oSm (roomM (hr.mono (by decide))) rfl mSm kSm bSm (pa_cons (pe_xf XF hno hz hf (pv 4)) (pa_cons (pv 1) pa_nil)))))))
            (.consN rfl rfl ⟨rfl, by decide, Or.inl XN.mg_⟩ (fun ae oe cls d pn hz hf => pss_one (ps_ret (pe_and (pv 3) (pe_and (pe_callW oSm (roomM (hr.mono (by decide))) rfl mSm kSm bSm (pa_cons (pe_xf XF2 hno2 hz hf (pv 4)) (pa_cons (pv 2) pa_nil))) (pe_one (pe_callB (call_isD hz hf) (by rfl) g.isinstance (by decide +kernel) (pa_cons (pv 4) (pa_cons (pe_glob (v := .ref ce) rfl mCE rfl) pa_nil)))))))) .nil)))
      (pss_one (ps_ret pe_bl))), ?_⟩
    refine ⟨_, rfl, _, rfl, _, rfl, p, dx, _, rfl, hp, ?_⟩
    rcases hx with ⟨rfl, hx⟩ | ⟨rfl, ⟨z, rfl, hz⟩, hy⟩
    · refine .inr ⟨p, dx, _, x, y, rfl, hp, (hx H (Same.refl H)).1, fun H' d s' hd => ?_⟩
      refine ⟨true, XW.te, fun _ ae ha => ?_, fun q => Bool.noConfusion q⟩
      have sd : Same H' (upd H' d (.xd [(("word" : Str), x)])) := Same.new hd
      have gd : (upd H' d (.xd [(("word" : Str), x)])) d = some (.xd [(("word" : Str), x)]) := upd_same
      generalize upd H' d (.xd [(("word" : Str), x)]) = H2 at sd gd ⊢
      refine ⟨_, rfl, _, rfl, _, rfl, iteT ?_⟩
      exact ⟨_, rfl, rfl, rfl, d, _, x, rfl, gd, rfl, _, rfl, x, rfl, (hx _ (s'.trans sd)).2, k _ (s'.trans sd)⟩
    · refine .inl ⟨p, d0, t, z, y, rfl, hz, hc, by omega, .inr ⟨fun H' s => (hy H' s).1, fun H' d s' hd => ?_⟩⟩
      refine ⟨false, kk.e21, fun q => Bool.noConfusion q, fun _ => ⟨true, XN.te, fun _ ae ha => ?_, fun q => Bool.noConfusion q⟩⟩
      have sd : Same H' (upd H' d (.xd [(("number" : Str), y)])) := Same.new hd
      have gd : (upd H' d (.xd [(("number" : Str), y)])) d = some (.xd [(("number" : Str), y)]) := upd_same
      generalize upd H' d (.xd [(("number" : Str), y)]) = H2 at sd gd ⊢
      refine ⟨_, rfl, _, rfl, iteT ?_⟩
      refine ⟨_, rfl, rfl, rfl, d, _, y, rfl, gd, rfl, _, rfl, y, rfl, (hy _ (s'.trans sd)).2, _, rfl, iteT ?_⟩
      exact ⟨_, rfl, B2, d, _, _, _, _, EC2, rfl, rfl, gd, rfl, fun _ q => q, kk.k2, k _ (s'.trans sd)⟩
theorem ok_by_name {C B B2 ce f fI fX fX2 fSm : Addr} {fd fdX fdX2 fdSm : FuncData} (F : Fun K "_law_by_name" "_law_by_name" s_l_by_name f fd) (g : Bi mg) (T : CT P w K mg base C fI)
    (I1 : FnKw P w K mg base (L2.CX P w) 3 fI ["a", "b", "Main"] (spInitN K C B B2 ["a", "b", "Main"])) (I2 : FnKw P w K mg base (L2.CX P w) 3 fI ["a", "Main", "b"] (spInitN K C B B2 ["a", "Main", "b"])) (I3 : FnKw P w K mg base CX0 3 fI ["a", "b"] (spInitK C ["a", "b"]))
    (XW : XDef P w K mg base "BadWord" B fX "word" ["self", "word"] fdX) (XN : XDef P w K mg base "BadNumber" B2 fX2 "number" ["self", "number"] fdX2) (XF : XfC K B) (XF2 : XfC K B2)
    (hno : PySem.W.findIn K (.ref B) "word" = some none) (hno2 : PySem.W.findIn K (.ref B2) "number" = some none) (mCE : mg "CountsheldError" = some (.ref ce))
    (oSm : FnW P w K mg base 3 fSm fdSm ["_law_actual", "_law_wanted"] (spSame K C)) (mSm : mg "_law_same" = some (.ref fSm)) (kSm : PySem.W.keepIn K (.ref fSm) = true) (bSm : Binds K fdSm ["_law_actual", "_law_wanted"] []) :
    FnOk P w K mg base CX0 5 f fd ["_law_wrong", "_law_good"] (spByName K C) := by
  refine F.ok sc_l_by_name (fun vs H Q E h => ?_) (fun cdv A outer s H vs Q E hr h => ?_)
  · obtain ⟨_, _, rfl, _⟩ := h
    rfl
  · obtain ⟨x, n, rfl, hn, hx, k⟩ := h
    have hrI : Room 4 _ := hr
    refine ⟨_, (pss_cons (ps_asg (pe_tup (pa_cons pe_str (pa_cons pe_str (pa_cons pe_str pa_nil)))) (pg_tup rfl (pgs_cons (pg_name (i := 2) sc_l_by_name.nd rfl (Or.inl rfl)) (pgs_cons (pg_name (i := 3) sc_l_by_name.nd rfl (Or.inl rfl)) (pgs_cons (pg_name (i := 4) sc_l_by_name.nd rfl (Or.inl rfl)) pgs_nil)))))
      (pss_cons (ps_try_manyA (l := [(.ref B2, some 5, fun ae cls d => tAsg (tIf (tB (tCall (spSame K C) [] E0 (tCons (tXf ae cls d B2 "number" (tVar 5)) (tCons (tVar 0) tNil)))) (tC (.str "number")) (tC (.str "other"))) (gName 2)), (.ref B, none, fun ae cls d => tAsg (tC (.str "word")) (gName 2))]) (tb := fun W => tDrop (tMkKwS C (spInitN K C B B2 ["a", "b", "Main"]) (WE W) 3 (tCons (tVar 1) (tCons (tVar 0) (tCons (tVar 1) tNil))))) rfl rfl sc_l_by_name.nd takes0
          (fun W pn xe tk _ => pss_one (ps_expr (pe_mkKwS T.mke I1 hrI (by rfl) T.mgC (fun σ => passAt tk σ) (pk_cons (pv 1) (pk_cons (pv 0) (pk_cons (pv 1) pk_nil))))))
          (.consN rfl rfl ⟨rfl, by decide, Or.inl XN.mg_⟩ (fun ae oe cls d pn hz hf => pss_one (ps_set (i := 2) sc_l_by_name.nd rfl (Or.inl rfl) (pe_ifExp (pt_val (pe_callW oSm (roomM (hr.mono (by decide))) rfl mSm kSm bSm (pa_cons (pe_xf XF2 hno2 hz hf (pv 5)) (pa_cons (pv 0) pa_nil)))) pe_str pe_str)))
            (.cons ⟨rfl, by decide, Or.inl XW.mg_⟩ (fun ae oe cls d pn hz hf => pss_one (ps_set (i := 2) sc_l_by_name.nd rfl (Or.inl rfl) pe_str)) .nil)))
      (pss_cons (ps_try_manyA (l := [(.ref B, some 5, fun ae cls d => tAsg (tXf ae cls d B "word" (tVar 5)) (gName 3)), (.ref B2, none, fun ae cls d => tAsg (tC (.str "number")) (gName 3))]) (tb := fun W => tDrop (tMkKwS C (spInitN K C B B2 ["a", "Main", "b"]) (WE W) 3 (tCons (tVar 1) (tCons (tVar 0) (tCons (tVar 0) tNil))))) rfl rfl sc_l_by_name.nd takes0
          (fun W pn xe tk _ => pss_one (ps_expr (pe_mkKwS T.mke I2 hrI (by rfl) T.mgC (fun σ => passAt tk σ) (pk_cons (pv 1) (pk_cons (pv 0) (pk_cons (pv 0) pk_nil))))))
          (.consN rfl rfl ⟨rfl, by decide, Or.inl XW.mg_⟩ (fun ae oe cls d pn hz hf => pss_one (ps_set (i := 3) sc_l_by_name.nd rfl (Or.inl rfl) (pe_xf XF hno hz hf (pv 5))))
            (.cons ⟨rfl, by decide, Or.inl XN.mg_⟩ (fun ae oe cls d pn hz hf => pss_one (ps_set (i := 3) sc_l_by_name.nd rfl (Or.inl rfl) pe_str)) .nil)))
      (pss_cons (ps_try_only (tb := fun W => tDrop (tMkKw C (spInitK C ["a", "b"]) E0 2 (tCons (tVar 1) (tCons (tUn (rU fun i => V.int (-i)) (tVar 1)) tNil)))) (ts := fun _ _ _ => tAsg (tC (.str "refused")) (gName 4)) (Wout := fun _ _ _ _ => False) rfl rfl ⟨rfl, by decide, Or.inl mCE⟩ takes0
          (fun W pn xe tk _ => pss_one (ps_expr (pe_mkKw (X := Cx.tr _ pn xe) (CX := CX0) (ks := ["a", "b"]) (sp := spInitK C ["a", "b"]) (E := E0) T.mke I3 hrI (by rfl) T.mgC pass0 (pk_cons (pv 1) (pk_cons (pe_un un_neg (pv 1)) pk_nil)))))
          (fun ae oe cls d pn hz hf => pss_one (ps_set (i := 4) sc_l_by_name.nd rfl (Or.inl rfl) pe_str)))
      (pss_one (ps_ret (pe_cmpR (op_eqD hr.units) (pe_lst (pa_cons (pv 2) (pa_cons (pv 3) (pa_cons (pv 4) pa_nil)))) (pe_lst (pa_cons pe_str (pa_cons pe_str (pa_cons pe_str pa_nil)))) (nomark _)))))))), ?_⟩
    refine ⟨by show 3 ≤ sizeLine; decide, fun tp htp => ?_⟩
    have s1 : Same H (upd H tp (.tup [.str "", .str "", .str ""])) := Same.new htp
    have h1 : (upd H tp (.tup [.str "", .str "", .str ""])) tp = some (.tup [.str "", .str "", .str ""]) := upd_same
    generalize upd H tp (.tup [.str "", .str "", .str ""]) = H1 at s1 h1 ⊢
    refine ⟨tp, _, rfl, SqT.of h1, rfl, _, _, rfl, _, _, rfl, _, _, rfl, rfl, ?_⟩
    -- the wrong number
    refine ⟨_, rfl, _, rfl, _, rfl, rfl, fun x5 dx5 nx ndx nex => ?_⟩
    have m5 := made (C := C) nx ndx
    refine ⟨x5, dx5, [.int n, x, .int n], 1, rfl, upd_same, rfl, fun j hj => ⟨"a", n, (by have e0 : j = 0 := (by omega); subst e0; exact ⟨rfl, rfl, wA, hn⟩)⟩, "b", x, rfl, rfl, .inr ⟨wB, fun H' s => (hx H' ((s1.trans m5).trans s)).1, fun H2 d s2 hd => ?_⟩⟩
    have s12 := (s1.trans m5).trans s2
    refine ⟨true, XN.te, fun _ ae ha => ?_, fun q => Bool.noConfusion q⟩
    have sd : Same H2 (upd H2 d (.xd [(("number" : Str), x)])) := Same.new hd
    have gd : (upd H2 d (.xd [(("number" : Str), x)])) d = some (.xd [(("number" : Str), x)]) := upd_same
    generalize upd H2 d (.xd [(("number" : Str), x)]) = H3 at sd gd ⊢
    have s3 := s12.trans sd
    refine ⟨_, rfl, rfl, rfl, d, _, x, rfl, gd, rfl, _, rfl, x, rfl, (hx _ s3).2, _, rfl, iteT ?_⟩
    -- the wrong word
    refine ⟨_, rfl, _, rfl, _, rfl, rfl, fun x6 dx6 nx6 ndx6 nex6 => ?_⟩
    have m6 := made (C := C) nx6 ndx6
    refine ⟨x6, dx6, [.int n, x, x], 1, rfl, upd_same, rfl, fun j hj => ⟨"a", n, (by have e0 : j = 0 := (by omega); subst e0; exact ⟨rfl, rfl, wA, hn⟩)⟩, "Main", x, rfl, rfl, .inl ⟨by decide +kernel, by decide, fun H4 d4 s4 hd4 => ?_⟩⟩
    have s34 := (s3.trans m6).trans s4
    refine ⟨true, XW.te, fun _ ae ha => ?_, fun q => Bool.noConfusion q⟩
    have sd4 : Same H4 (upd H4 d4 (.xd [(("word" : Str), .str "Main")])) := Same.new hd4
    have gd4 : (upd H4 d4 (.xd [(("word" : Str), .str "Main")])) d4 = some (.xd [(("word" : Str), .str "Main")]) := upd_same
    generalize upd H4 d4 (.xd [(("word" : Str), .str "Main")]) = H5 at sd4 gd4 ⊢
    have s5 := s34.trans sd4
    refine ⟨_, rfl, rfl, rfl, d4, _, .str "Main", rfl, gd4, rfl, ?_⟩
    -- all well
    refine ⟨_, rfl, _, rfl, _, rfl, rfl, fun x7 dx7 nx7 ndx7 nex7 => ?_⟩
    have m7 := made (C := C) nx7 ndx7
    have hn2 : Small (-n) := ⟨by have := hn.2; omega, by have := hn.1; omega⟩
    refine ⟨x7, dx7, [n, -n], rfl, upd_same, rfl, (fun q hq => by
      rcases List.mem_cons.mp hq with e | e
      · rw [e]; exact hn
      · rw [List.mem_singleton.mp e]; exact hn2), fun d7 H7 hd7 hC7 kp7 => ⟨rfl, ?_⟩⟩
    have s7 : Same H H7 := fun b o e => kp7 b o (m7 _ _ (s5 _ _ e)) (ne_of_none (s5 _ _ e) nx7)
    refine ⟨_, rfl, _, rfl, _, rfl, by show 3 ≤ sizeLine; decide, fun l1 hl1 => ⟨by show 3 ≤ sizeLine; decide, fun l2 hl2 => ?_⟩⟩
    have s8 : Same H7 (upd H7 l1 (.lst [.str "number", .str "Main", .str ""])) := Same.new hl1
    have g8 : (upd H7 l1 (.lst [.str "number", .str "Main", .str ""])) l1 = some (.lst [.str "number", .str "Main", .str ""]) := upd_same
    generalize upd H7 l1 (.lst [.str "number", .str "Main", .str ""]) = H8 at s8 g8 hl2 ⊢
    have s9 : Same H8 (upd H8 l2 (.lst [.str "number", .str "Main", .str ""])) := Same.new hl2
    have g9 : (upd H8 l2 (.lst [.str "number", .str "Main", .str ""])) l2 = some (.lst [.str "number", .str "Main", .str ""]) := upd_same
    generalize upd H8 l2 (.lst [.str "number", .str "Main", .str ""]) = H9 at s9 g9 ⊢
    refine ⟨.list [.str "number", .str "Main", .str ""], .list [.str "number", .str "Main", .str ""], .lst (SqL.of (s9 _ _ g8)) (.cons (.str _) (.cons (.str _) (.cons (.str _) .nil))), .lst (SqL.of g9) (.cons (.str _) (.cons (.str _) (.cons (.str _) .nil))), by decide +kernel, by decide +kernel, ?_⟩
    rw [SeqAt.eqv_refl (.list [.str "number", .str "Main", .str ""]) (by decide +kernel)]
    exact k _ ((s7.trans s8).trans s9)
end
end Cs

set_option Elab.async false
set_option linter.all false
set_option maxRecDepth 100000
set_option maxHeartbeats 8000000
set_option pp.maxSteps 800
/-! The law of counts refused. -/
namespace Cs
open PySem L2
/-- an odd thing -/
def OddV (C : Addr) (H : Hp) (x : V) : Prop := (x = .non ∨ (∃ n, x = .int n) ∨ (∃ z, x = .str z) ∨ ∃ b, x = .bl b) ∨ ∃ (po dx : Addr) (fs : List (Str × V)), x = .ref po ∧ H po = some (.ins C dx fs)
def BadP (K : PySem.W.Frag) (p : Addr) (H : Hp) (y : V) : Prop := ∀ H', Kp p H H' → BadE K H' y
/-- the things, and where the first wrong one is -/
structure ThI (K : PySem.W.Frag) (p : Addr) (H : Hp) (tl : Addr) (ps : List (Str × Int)) (first : Int) (m : Nat) : Prop where
  at_ : ∃ ys, H tl = some (.lst ys) ∧ ys.length ≤ m ∧ ((first = -2 ∧ PrL H ys ps) ∨ ∃ (f : Nat) (gs : List (Str × Int)) (y : V), first = f ∧ ys[f]? = some y ∧ PrL H (ys.take f) gs ∧ GoodPs gs ∧ BadP K p H y)
theorem PrL.take {H : Hp} : ∀ {xs : List V} {ps : List (Str × Int)} (n : Nat), PrL H xs ps → PrL H (xs.take n) (ps.take n)
  | _, _, 0, _ => .nil
  | _, _, _ + 1, .nil => .nil
  | _, _, n + 1, .cons r t => .cons r (PrL.take n t)
theorem kw_a : ∀ z ∈ (["a"] : List Str), Word z := by
  intro z hz
  rw [List.mem_singleton.mp hz]
  exact wA
theorem kw_ab : ∀ z ∈ (["a", "b"] : List Str), Word z := by
  intro z hz
  simp only [List.mem_cons, List.not_mem_nil, or_false] at hz
  rcases hz with rfl | rfl
  · exact wA
  · exact wB
theorem cut_pre (ys : List V) {v : Int} (h0 : 0 ≤ v) (h : v.toNat ≤ ys.length) : cutV ys none (some v) = ys.take v.toNat := by
  obtain ⟨n, rfl⟩ := Int.eq_ofNat_of_zero_le h0
  rw [Int.toNat_natCast] at h ⊢
  unfold cutV
  rw [HT.sIx_nat, Nat.min_eq_left h]
  show (ys.drop 0).take (n - 0) = _
  simp
theorem cut_suf (ys : List V) {v : Int} (h0 : 0 ≤ v) (h : v.toNat ≤ ys.length) : cutV ys (some v) none = ys.drop v.toNat := by
  obtain ⟨n, rfl⟩ := Int.eq_ofNat_of_zero_le h0
  rw [Int.toNat_natCast] at h ⊢
  unfold cutV
  rw [HT.sIx_nat, Nat.min_eq_left h, HT.sIx_none]
  exact List.take_of_length_le (by rw [List.length_drop]; omega)
theorem OddV.nseq {K : PySem.W.Frag} {C : Addr} {H : Hp} {x : V} (ci : CI K C) (kL : PySem.W.kitOne K (.ref C) (.type "list") = some false) (kT : PySem.W.kitOne K (.ref C) (.type "tuple") = some false) (h : OddV C H x) : ∀ H', Same H H' → NSeq K H' x := fun H' s => by
  rcases h with (rfl | ⟨n, rfl⟩ | ⟨z, rfl⟩ | ⟨b, rfl⟩) | ⟨po, dx, fs, rfl, hp⟩
  · exact ⟨_, .base .non, kit_ty (b := "list") (by decide +kernel), kit_ty (b := "tuple") (by decide +kernel)⟩
  · exact ⟨_, .base (.int n), kit_ty (b := "list") (by decide +kernel), kit_ty (b := "tuple") (by decide +kernel)⟩
  · exact ⟨_, .base (.str z), kit_ty (b := "list") (by decide +kernel), kit_ty (b := "tuple") (by decide +kernel)⟩
  · exact ⟨_, .base (.bl b), kit_ty (b := "list") (by decide +kernel), kit_ty (b := "tuple") (by decide +kernel)⟩
  · exact ⟨_, ci.ty (s _ _ hp), kL, kT⟩
section
variable {P : Program} {w : World} {K : PySem.W.Frag} {mg : Str → Option Value} {base : Heap}
theorem OddV.kp {C p c : Addr} {H H' : Hp} {x : V} (S : Src H p c) (k : Kp p H H') (h : OddV C H x) : OddV C H' x := by
  rcases h with h | ⟨po, dx, fs, rfl, hp⟩
  · exact .inl h
  · exact .inr ⟨po, dx, fs, rfl, k _ _ hp (by obtain ⟨_, _, _, _, hpp, _⟩ := S; exact ne_of hp hpp (by intro z; cases z))⟩
theorem ok_law {C f fI fS fD fN fP fMo fWe fNw fNn fLr fRd fSt fBn fEq fHa fSe fGe qO fO : Addr} {fd fdS fdD fdN fdP fdMo fdWe fdNw fdNn fdLr fdRd fdSt fdBn fdEq fdHa fdSe fdGe : FuncData} {mc : Value}
    (F : Fun K "law" "law" s_law f fd) (g : Bi mg) (T : CT P w K mg base C fI) (ci : CI K C) (kL : PySem.W.kitOne K (.ref C) (.type "list") = some false) (kT : PySem.W.kitOne K (.ref C) (.type "tuple") = some false)
    (IKa : FnKw P w K mg base CX0 3 fI ["a"] (spInitK C ["a"]))
    (FS : Def P w K mg base CX0 1 "_law_source" ["_law_script"] (spSource K) fS fdS) (FD : Def P w K mg base CX0 2 "_law_draw" ["_law_source_here", "_law_size"] spDraw fD fdD) (FN : Def P w K mg base CX0 3 "_law_number" ["_law_source_here"] spNumber fN fdN)
    (FP : Def P w K mg base CX0 4 "_law_pairs" ["_law_source_here", "_law_most"] spPairs fP fdP) (FMo : Def P w K mg base CX0 1 "_law_model" ["_law_pairs_here"] spModel fMo fdMo) (MOf : KDef P w K mg base CX0 4 C mc "of" (spOf K C) qO fO)
    (FWe : Def P w K mg base CX0 1 "_law_wrong_entry" ["_law_choice"] (spWrongE K) fWe fdWe) (FNw : Def P w K mg base CX0 5 "_law_no_word" ["_law_choice"] (spNoWord K C) fNw fdNw) (FNn : Def P w K mg base CX0 1 "_law_no_number" ["_law_choice"] (spNoNum K C) fNn fdNn)
    (FLr : Def P w K mg base CX0 5 "_law_list_refused" ["_law_thing", "_law_at"] (spListRef K) fLr fdLr) (FRd : Def P w K mg base CX0 5 "_law_reading" ["_law_counts", "_law_word_here"] (spReading K C) fRd fdRd)
    (FSt : Def P w K mg base CX0 5 "_law_setting" ["_law_counts", "_law_word_here", "_law_number_here", "_law_known"] (spSetting K C) fSt fdSt) (FBn : Def P w K mg base CX0 5 "_law_by_name" ["_law_wrong", "_law_good"] (spByName K C) fBn fdBn)
    (FEq : Def P w K mg base CX0 4 "_law_equal" ["_law_counts", "_law_model_here"] (spEqual C) fEq fdEq) (MHa : SDef P w K mg base CX0 2 C "__contains__" ["self", "word"] (spHasN K C) fHa fdHa)
    (MSe : SDef P w K mg base CX0 3 C "__setitem__" ["self", "word", "number"] (spSet C) fSe fdSe) (SGe : GDef P w K mg base CX0 2 C "__getitem__" ["self", "word"] (spGet C) fGe fdGe) :
    FnOk P w K mg base CX0 7 f fd ["_law_script"] (spLaw K) := by
  obtain ⟨GS, mS, _, bS⟩ := id FS
  obtain ⟨GD, mD, _, bD⟩ := id FD
  obtain ⟨GN, mN, _, bN⟩ := id FN
  obtain ⟨GP, mP, _, bP⟩ := id FP
  obtain ⟨GMo, mMo, _, bMo⟩ := id FMo
  obtain ⟨GWe, mWe, _, bWe⟩ := id FWe
  obtain ⟨GNw, mNw, _, bNw⟩ := id FNw
  obtain ⟨GNn, mNn, _, bNn⟩ := id FNn
  obtain ⟨GLr, mLr, _, bLr⟩ := id FLr
  obtain ⟨GRd, mRd, _, bRd⟩ := id FRd
  obtain ⟨GSt, mSt, _, bSt⟩ := id FSt
  obtain ⟨GBn, mBn, _, bBn⟩ := id FBn
  obtain ⟨GEq, mEq, _, bEq⟩ := id FEq
  refine F.ok sc_law (fun vs H Q E h => ?_) (fun cdv A outer s H vs Q E hr h => ?_)
  · obtain ⟨_, _, rfl, _⟩ := h
    rfl
  · obtain ⟨a, ns, rfl, hS, hlen, k⟩ := h
    have hrS : Room 1 _ := hr.mono (by decide)
    have hrD : Room 2 _ := hr.mono (by decide)
    have hrN : Room 3 _ := hr.mono (by decide)
    have hrP : Room 4 _ := hr.mono (by decide)
    have hrMo : Room 1 _ := hr.mono (by decide)
    have hrOf : Room 4 _ := hr.mono (by decide)
    have hrWe : Room 1 _ := hr.mono (by decide)
    have hrNw : Room 5 _ := hr.mono (by decide)
    have hrNn : Room 1 _ := hr.mono (by decide)
    have hrLr : Room 5 _ := hr.mono (by decide)
    have hrRd : Room 5 _ := hr.mono (by decide)
    have hrSt : Room 5 _ := hr.mono (by decide)
    have hrBn : Room 5 _ := hr.mono (by decide)
    have hrEq : Room 4 _ := hr.mono (by decide)
    have hrHa : Room 2 _ := hr.mono (by decide)
    have hrSe : Room 3 _ := hr.mono (by decide)
    have hrGe : Room 3 _ := hr.mono (by decide)
    have hrIK : Room 4 _ := hr.mono (by decide)
    have hu := hu_of hr
    refine ⟨_, (pss_cons (ps_set (i := 1) sc_law.nd rfl (Or.inl rfl) (pe_call GS hrS rfl mS FS.kp bS .nil pass0 (pa_cons (pv 0) pa_nil)))
      (pss_cons (ps_set (i := 2) sc_law.nd rfl (Or.inl rfl) (pe_call GD hrD rfl mD FD.kp bD .nil pass0 (pa_cons (pv 1) (pa_cons pe_int pa_nil))))
      (pss_cons (ps_set (i := 3) sc_law.nd rfl (Or.inl rfl) (pe_lst (pa_cons (pe_call GD hrD rfl mD FD.kp bD .nil pass0 (pa_cons (pv 1) (pa_cons pe_int pa_nil))) (pa_cons (pe_call GD hrD rfl mD FD.kp bD .nil pass0 (pa_cons (pv 1) (pa_cons pe_int pa_nil))) (pa_cons (pe_call GD hrD rfl mD FD.kp bD .nil pass0 (pa_cons (pv 1) (pa_cons pe_int pa_nil))) (pa_cons (pe_call GD hrD rfl mD FD.kp bD .nil pass0 (pa_cons (pv 1) (pa_cons pe_int pa_nil))) pa_nil))))))
      (pss_cons (ps_set (i := 4) sc_law.nd rfl (Or.inl rfl) (pe_ix ix_list (pe_lst (pa_cons pe_non (pa_cons pe_int (pa_cons pe_str (pa_cons pe_bl (pa_cons (pe_mkKw T.mke IKa hrIK rfl T.mgC pass0 (pk_cons pe_int pk_nil)) (pa_cons pe_int (pa_cons pe_str pa_nil)))))))) (pe_call GD hrD rfl mD FD.kp bD .nil pass0 (pa_cons (pv 1) (pa_cons pe_int pa_nil))) (fun _ _ => rfl)))
      (pss_cons (ps_set (i := 5) sc_law.nd rfl (Or.inl rfl) (pe_call GN hrN rfl mN FN.kp bN .nil pass0 (pa_cons (pv 1) pa_nil)))
      (pss_cons (ps_set (i := 6) sc_law.nd rfl (Or.inl rfl) (pe_call GP hrP rfl mP FP.kp bP .nil pass0 (pa_cons (pv 1) (pa_cons pe_int pa_nil))))
      (pss_cons (ps_set (i := 7) sc_law.nd rfl (Or.inl rfl) (pe_callTy call_list_of (by rfl) g.list (by decide +kernel) (pa_cons (pv 6) pa_nil)))
      (pss_cons (ps_set (i := 8) sc_law.nd rfl (Or.inl rfl) (pe_un un_neg pe_int))
      (pss_cons (ps_for PassesOwn.never rfl (pi_range1 rfl g.range (pa_cons (pv 2) pa_nil)) (pg_name (i := 9) sc_law.nd rfl (Or.inl rfl)) (pss_cons (ps_set (i := 10) sc_law.nd rfl (Or.inl rfl) (pe_call GD hrD rfl mD FD.kp bD .nil pass0 (pa_cons (pv 1) (pa_cons (pe_op op_add (pe_callB call_len (by rfl) g.len PySem.boot_len (pa_cons (pv 7) pa_nil)) pe_int) pa_nil))))
      (pss_cons (ps_set (i := 7) sc_law.nd rfl (Or.inl rfl) (pe_op op_cat (pe_op op_cat (pe_slice sl_list (pv 7) po_none (po_some (pv 10))) (pe_lst (pa_cons (pe_call GWe hrWe rfl mWe FWe.kp bWe .nil pass0 (pa_cons (pe_ix ix_list (pv 3) (pv 9) (fun _ _ => rfl)) pa_nil)) pa_nil))) (pe_slice sl_list (pv 7) (po_some (pv 10)) po_none)))
      (pss_one (ps_set (i := 8) sc_law.nd rfl (Or.inl rfl) (pe_ifExp (PW.pt (pw_or (pt_cmpR op_eq (pv 8) (pe_un un_neg pe_int) (nomark _)) (pw_or1 (pt_cmpR op_le (pv 10) (pv 8) (nomark _))))) (pv 10) (pv 8)))))))
      (C8.pss_cut (ps_if (PW.pt (pw_and (pt_cmpR op_ge (pv 8) pe_int (nomark _)) (pw_and1 (pt_not (pt_val (pe_call GLr hrLr rfl mLr FLr.kp bLr .nil pass0 (pa_cons (pv 7) (pa_cons (pv 8) pa_nil)))))))) (pss_one (ps_ret pe_bl)) pss_nil)
      (pss_cons (ps_if (PW.pt (pw_or (pt_not (pt_val (pe_call GLr hrLr rfl mLr FLr.kp bLr .nil pass0 (pa_cons (pv 4) (pa_cons (pe_un un_neg pe_int) pa_nil))))) (pw_or1 (pt_not (pt_val (pe_call GEq hrEq rfl mEq FEq.kp bEq .nil pass0 (pa_cons (ClX.pe_cmeth (pe_glob (v := .ref C) rfl T.mgC rfl) MOf.r MOf.c MOf.ok hrOf pass0 (pa_cons (pv 6) pa_nil)) (pa_cons (pe_call GMo hrMo rfl mMo FMo.kp bMo .nil pass0 (pa_cons (pv 6) pa_nil)) pa_nil)))))))) (pss_one (ps_ret pe_bl)) pss_nil)
      (C8.pss_cut (ps_if (PW.pt (pw_and (pt_cmpR op_lt (pv 8) pe_int (nomark _)) (pw_and1 (pt_not (pt_val (pe_call GEq hrEq rfl mEq FEq.kp bEq .nil pass0 (pa_cons (ClX.pe_cmeth (pe_glob (v := .ref C) rfl T.mgC rfl) MOf.r MOf.c MOf.ok hrOf pass0 (pa_cons (pv 7) pa_nil)) (pa_cons (pe_call GMo hrMo rfl mMo FMo.kp bMo .nil pass0 (pa_cons (pv 6) pa_nil)) pa_nil)))))))) (pss_one (ps_ret pe_bl)) pss_nil)
      (pss_cons (ps_set (i := 11) sc_law.nd rfl (Or.inl rfl) (ClX.pe_cmeth (pe_glob (v := .ref C) rfl T.mgC rfl) MOf.r MOf.c MOf.ok hrOf pass0 (pa_cons (pv 6) pa_nil)))
      (pss_cons (ps_set (i := 12) sc_law.nd rfl (Or.inl rfl) (pe_call GNw hrNw rfl mNw FNw.kp bNw .nil pass0 (pa_cons (pe_ix ix_list (pv 3) pe_int (fun _ _ => rfl)) pa_nil)))
      (pss_cons (ps_set (i := 13) sc_law.nd rfl (Or.inl rfl) (pe_call GNn hrNn rfl mNn FNn.kp bNn .nil pass0 (pa_cons (pe_ix ix_list (pv 3) pe_int (fun _ _ => rfl)) pa_nil)))
      (pss_cons (ps_if (PW.pt (pw_or (pt_cmpR (op_inO MHa.c MHa.ok hrHa MHa.b pass0) (pv 12) (pv 11) (by rfl)) (pw_or1 (pt_not (pt_val (pe_call GRd hrRd rfl mRd FRd.kp bRd .nil pass0 (pa_cons (pv 11) (pa_cons (pv 12) pa_nil)))))))) (pss_one (ps_ret pe_bl)) pss_nil)
      (pss_cons (ps_if (PW.pt (pw_or (pt_not (pt_val (pe_call GSt hrSt rfl mSt FSt.kp bSt .nil pass0 (pa_cons (pv 11) (pa_cons (pv 12) (pa_cons (pv 5) (pa_cons pe_bl pa_nil))))))) (pw_or1 (pt_not (pt_val (pe_call GSt hrSt rfl mSt FSt.kp bSt .nil pass0 (pa_cons (pv 11) (pa_cons (pv 12) (pa_cons (pv 13) (pa_cons pe_bl pa_nil)))))))))) (pss_one (ps_ret pe_bl)) pss_nil)
      (pss_cons (ps_if (PW.pt (pw_or (pt_not (pt_val (pe_call GSt hrSt rfl mSt FSt.kp bSt .nil pass0 (pa_cons (pv 11) (pa_cons pe_str (pa_cons (pv 13) (pa_cons pe_bl pa_nil))))))) (pw_or1 (pt_not (pt_val (pe_call GBn hrBn rfl mBn FBn.kp bBn .nil pass0 (pa_cons (pv 13) (pa_cons (pv 5) pa_nil)))))))) (pss_one (ps_ret pe_bl)) pss_nil)
      (pss_cons (ps_if (pt_not (pt_val (pe_call GEq hrEq rfl mEq FEq.kp bEq .nil pass0 (pa_cons (pv 11) (pa_cons (pe_call GMo hrMo rfl mMo FMo.kp bMo .nil pass0 (pa_cons (pv 6) pa_nil)) pa_nil))))) (pss_one (ps_ret pe_bl)) pss_nil)
      (pss_cons (ps_asg (pv 5) (pg_sub (pv 11) pe_str (set_own MSe.c MSe.ns MSe.ok hrSe MSe.b pass0)))
      (pss_one (ps_ret (pe_cmpR op_eq (pe_ixO SGe.c SGe.fi SGe.ok hrGe SGe.b pass0 (pv 11) pe_str) (pv 5) (nomark _)))))))))))))))))))))))), ?_⟩
    refine ⟨_, rfl, a, ns, rfl, hS, fun p c H1 hp hc s1 S1 => ?_⟩
    refine ⟨_, rfl, p, c, 3, rfl, S1, by decide, by decide, fun many H2 m0 m1 S2 k2 => ?_⟩
    refine ⟨_, rfl, p, c, 18, rfl, S2, by decide, by decide, fun c0 H3 a0 b0 S3 k3 => ⟨_, rfl, p, c, 18, rfl, S3, by decide, by decide, fun c1 H4 a1 b1 S4 k4 => ⟨_, rfl, p, c, 12, rfl, S4, by decide, by decide, fun c2 H5 a2 b2 S5 k5 =>
      ⟨_, rfl, p, c, 8, rfl, S5, by decide, by decide, fun c3 H6 a3 b3 S6 k6 => ⟨by show 4 ≤ sizeLine; decide, fun cl hcl => ?_⟩⟩⟩⟩⟩
    have s7 : Same H6 (upd H6 cl (.lst [.int c0, .int c1, .int c2, .int c3])) := Same.new hcl
    have g7 : (upd H6 cl (.lst [.int c0, .int c1, .int c2, .int c3])) cl = some (.lst [.int c0, .int c1, .int c2, .int c3]) := upd_same
    have ncp : cl ≠ p := S6.new_p hcl
    generalize upd H6 cl (.lst [.int c0, .int c1, .int c2, .int c3]) = H7 at s7 g7 ⊢
    have S7 := S6.same s7
    -- an odd thing
    refine ⟨rfl, fun po dxo fo fdo neo => ?_⟩
    have mo := made (C := C) fo fdo
    refine ⟨po, dxo, [1], rfl, upd_same, rfl, (fun q hq => by rw [List.mem_singleton.mp hq]; unfold Small; decide), fun eo H8 heo hCo kpo => ⟨rfl, ?_⟩⟩
    have s8 : Same H7 H8 := fun b o e => kpo b o (mo _ _ e) (ne_of_none e fo)
    obtain ⟨⟨dxo2, hpo⟩, _⟩ := id hCo
    refine ⟨by show 7 ≤ sizeLine; decide, fun ol hol => ?_⟩
    have s9 : Same H8 (upd H8 ol (.lst [.non, .int 5, .str "ab", .bl true, .ref po, .int 0, .str ""])) := Same.new hol
    have g9 : (upd H8 ol (.lst [.non, .int 5, .str "ab", .bl true, .ref po, .int 0, .str ""])) ol = some (.lst [.non, .int 5, .str "ab", .bl true, .ref po, .int 0, .str ""]) := upd_same
    have nop : ol ≠ p := (S7.same s8).new_p hol
    generalize upd H8 ol (.lst [.non, .int 5, .str "ab", .bl true, .ref po, .int 0, .str ""]) = H9 at s9 g9 ⊢
    have S9 := (S7.same s8).same s9
    refine ⟨_, rfl, p, c, 7, rfl, S9, by decide, by decide, fun vo H10 ao bo S10 k10 => ?_⟩
    obtain ⟨odd, hom, hoI⟩ := at_mem (xs := [.non, .int 5, .str "ab", .bl true, .ref po, .int 0, .str ""]) (v := vo) ao (by show vo < ((7 : Nat) : Int); omega)
    refine ⟨ol, _, vo, odd, rfl, rfl, SqL.of (k10 _ _ g9 nop), hoI, ?_⟩
    have hodd : OddV C H9 odd := by
      revert odd
      intro odd hom _
      exact (List.forall_mem_cons.mpr ⟨.inl (.inl rfl), List.forall_mem_cons.mpr ⟨.inl (.inr (.inl ⟨_, rfl⟩)), List.forall_mem_cons.mpr ⟨.inl (.inr (.inr (.inl ⟨_, rfl⟩))), List.forall_mem_cons.mpr ⟨.inl (.inr (.inr (.inr ⟨_, rfl⟩))), List.forall_mem_cons.mpr ⟨.inr ⟨po, dxo2, _, rfl, s9 _ _ hpo⟩,
        List.forall_mem_cons.mpr ⟨.inl (.inr (.inl ⟨_, rfl⟩)), List.forall_mem_cons.mpr ⟨.inl (.inr (.inr (.inl ⟨_, rfl⟩))), fun _ h => nomatch h⟩⟩⟩⟩⟩⟩⟩ : ∀ y ∈ [V.non, .int 5, .str "ab", .bl true, .ref po, .int 0, .str ""], OddV C H9 y) odd hom
    have hodd := hodd.kp S9 k10
    have g10 := k10 _ _ (s9 _ _ (s8 _ _ g7)) ncp
    clear g9 hoI hom hpo hCo kpo mo
    -- a number, the pairs, the things
    refine ⟨_, rfl, p, c, rfl, S10, fun good H11 hgo S11 k11 => ?_⟩
    refine ⟨_, rfl, p, c, 8, rfl, S11, by decide, by decide, fun q H12 xs ps hq h12 hP hG hl S12 k12 => ?_⟩
    have nqp : q ≠ p := S11.new_p hq
    have hW : WdP ps := fun r m => (hG r m).1
    have hodd := (hodd.kp S10 k11).kp S11 k12
    have g12 := k12 _ _ (k11 _ _ g10 ncp) ncp
    refine ⟨_, rfl, q, xs, rfl, .inl (SqL.of h12), fun tl htl => ?_⟩
    have s13 : Same H12 (upd H12 tl (.lst xs)) := Same.new htl
    have g13 : (upd H12 tl (.lst xs)) tl = some (.lst xs) := upd_same
    have ntp : tl ≠ p := S12.new_p htl
    generalize upd H12 tl (.lst xs) = H13 at s13 g13 ⊢
    have S13 := S12.same s13
    have hodd := hodd.kp S12 (Kp.of s13)
    have g13c := s13 _ _ g12
    have h13 := s13 _ _ h12
    have hP13 : PrL H13 xs ps := hP.mono fun _ _ _ e => s13 _ _ e
    have hxl : xs.length ≤ 8 := by rw [hP.length]; omega
    clear g10 g12 h12 hP g7 k3 k4 k5 k6
    refine ⟨_, rfl, ?_⟩
    have hmn : (many.toNat : Int) = many := by omega
    rw [← hmn]
    refine ⟨_, rfl, _, rfl, by omega, by omega, for_range (lo := 0) (n := many.toNat) (fun i σ' H' => ∃ (tl : Addr) (first : Int) (x9 x10 : Option V), σ' = [some (.ref a), some (.ref p), some (.int (many.toNat : Nat)), some (.ref cl), some odd, some (.int good), some (.ref q), some (.ref tl), some (.int first), x9, x10, none, none, none] ∧
      tl ≠ p ∧ ThI K p H' tl ps first (8 + i) ∧ OddV C H' odd ∧ H' cl = some (.lst [.int c0, .int c1, .int c2, .int c3]) ∧ H' q = some (.lst xs) ∧ PrL H' xs ps ∧ Src H' p c)
      ⟨tl, -2, _, _, rfl, ntp, ⟨xs, g13, by omega, .inl ⟨rfl, hP13⟩⟩, hodd, g13c, h13, hP13, S13⟩ ?_ ?_⟩
    · rintro i σ' H' hi ⟨tl, first, x9, x10, rfl, ntp, ⟨ys, hys, hyl, hyi⟩, hodd, hcl, hq', hP', S'⟩
      refine ⟨_, rfl, _, rfl, _, _, rfl, .inl ⟨_, SqL.of hys, rfl⟩, _, _, rfl, rfl, p, c, _, rfl, S', by omega, by omega, fun v H2 v0 v1 S2 k2 => ?_⟩
      have hys2 := k2 _ _ hys ntp
      have hcl2 := k2 _ _ hcl ncp
      have hvl : v.toNat ≤ ys.length := by omega
      refine ⟨_, rfl, _, rfl, _, rfl, tl, _, rfl, SqL.of hys2, fun l1 hl1 => ?_⟩
      rw [cut_pre ys v0 hvl]
      have e1 : Same H2 (upd H2 l1 (.lst (ys.take v.toNat))) := Same.new hl1
      have f1 : (upd H2 l1 (.lst (ys.take v.toNat))) l1 = some (.lst (ys.take v.toNat)) := upd_same
      generalize upd H2 l1 (.lst (ys.take v.toNat)) = H3 at e1 f1 ⊢
      obtain ⟨cc, hcc, hc0, hc18⟩ : ∃ cc, atI [V.int c0, .int c1, .int c2, .int c3] (0 + ((i : Nat) : Int)) = some (V.int cc) ∧ 0 ≤ cc ∧ cc < 18 := by
        have : i = 0 ∨ i = 1 := by omega
        rcases this with rfl | rfl
        · exact ⟨c0, rfl, a0, b0⟩
        · exact ⟨c1, rfl, a1, b1⟩
      have S3 := S2.same e1
      refine ⟨_, rfl, _, rfl, cl, _, _, _, rfl, rfl, SqL.of (e1 _ _ hcl2), hcc, cc, rfl, hc0, hc18, fun y H4 e2 hB => ⟨by show 1 ≤ sizeLine; decide, fun l2 hl2 => ?_⟩⟩
      have e3 : Same H4 (upd H4 l2 (.lst [y])) := Same.new hl2
      have f3 : (upd H4 l2 (.lst [y])) l2 = some (.lst [y]) := upd_same
      generalize upd H4 l2 (.lst [y]) = H5 at e3 f3 ⊢
      refine ⟨l1, l2, _, _, rfl, rfl, e3 _ _ (e2 _ _ f1), f3, by rw [List.length_take]; show min v.toNat ys.length + 1 ≤ sizeLine; exact Nat.le_trans (show _ ≤ 1000 by omega) (by decide), fun l3 hl3 => ?_⟩
      have e4 : Same H5 (upd H5 l3 (.lst (ys.take v.toNat ++ [y]))) := Same.new hl3
      have f4 : (upd H5 l3 (.lst (ys.take v.toNat ++ [y]))) l3 = some (.lst (ys.take v.toNat ++ [y])) := upd_same
      generalize upd H5 l3 (.lst (ys.take v.toNat ++ [y])) = H6 at e4 f4 ⊢
      have e26 := ((e1.trans e2).trans e3).trans e4
      refine ⟨_, rfl, _, rfl, _, rfl, tl, _, rfl, SqL.of (e26 _ _ hys2), fun l4 hl4 => ?_⟩
      rw [cut_suf ys v0 hvl]
      have e5 : Same H6 (upd H6 l4 (.lst (ys.drop v.toNat))) := Same.new hl4
      have f5 : (upd H6 l4 (.lst (ys.drop v.toNat))) l4 = some (.lst (ys.drop v.toNat)) := upd_same
      generalize upd H6 l4 (.lst (ys.drop v.toNat)) = H7 at e5 f5 ⊢
      refine ⟨l3, l4, _, _, rfl, rfl, e5 _ _ f4, f5, by rw [List.length_append, List.length_take, List.length_drop]; show min v.toNat ys.length + 1 + _ ≤ sizeLine; exact Nat.le_trans (show _ ≤ 1000 by omega) (by decide), fun l5 hl5 => ?_⟩
      have e6 : Same H7 (upd H7 l5 (.lst (ys.take v.toNat ++ [y] ++ ys.drop v.toNat))) := Same.new hl5
      have f6 : (upd H7 l5 (.lst (ys.take v.toNat ++ [y] ++ ys.drop v.toNat))) l5 = some (.lst (ys.take v.toNat ++ [y] ++ ys.drop v.toNat)) := upd_same
      have e27 := e26.trans e5
      have n5p : l5 ≠ p := (S2.same e27).new_p hl5
      generalize upd H7 l5 (.lst (ys.take v.toNat ++ [y] ++ ys.drop v.toNat)) = H8 at e6 f6 ⊢
      have e28 := e27.trans e6
      have kk : Kp p H' H8 := k2.trans (Kp.of e28)
      have S8 := S2.same e28
      have hodd8 := hodd.kp S' kk
      have hP8 : PrL H8 xs ps := hP'.mono fun _ _ _ e => kk _ _ e (S'.tup_p e)
      have hBy : BadP K p H8 y := fun H9 kq => hB H9 fun b o h0 h1 => kq b o (((e3.trans e4).trans e5).trans e6 _ _ h1) (by
        obtain ⟨_, _, _, _, hpp, _⟩ := S3
        rintro rfl
        rw [hpp] at h0
        cases h0)
      have hl8 : (ys.take v.toNat ++ [y] ++ ys.drop v.toNat).length ≤ 8 + (i + 1) := by
        rw [List.length_append, List.length_append, List.length_take, List.length_drop, List.length_singleton]
        omega
      have fin : ∀ f' : Int, ((f' = v ∧ (first = -2 ∨ v ≤ first)) ∨ (f' = first ∧ first ≠ -2 ∧ first < v)) → ThI K p H8 l5 ps f' (8 + (i + 1)) := fun f' hf => by
        refine ⟨_, f6, hl8, .inr ?_⟩
        rcases hf with ⟨rfl, hf⟩ | ⟨rfl, hn, hf⟩
        · have ev : ((f'.toNat : Nat) : Int) = f' := by omega
          have et : (ys.take f'.toNat ++ [y] ++ ys.drop f'.toNat)[f'.toNat]? = some y := by
            rw [List.append_assoc, List.getElem?_append_right (by rw [List.length_take]; omega), List.length_take]
            rw [show f'.toNat - min f'.toNat ys.length = 0 by omega]
            rfl
          have ek : (ys.take f'.toNat ++ [y] ++ ys.drop f'.toNat).take f'.toNat = ys.take f'.toNat := by
            rw [List.append_assoc]
            exact List.take_left' (by rw [List.length_take]; omega)
          rcases hyi with ⟨_, hyP⟩ | ⟨f, gs, y1, rfl, h1, h2, h3, h4⟩
          · refine ⟨f'.toNat, ps.take f'.toNat, y, ev.symm, et, ?_, fun q hq => hG q (List.mem_of_mem_take hq), hBy⟩
            rw [ek]
            exact (hyP.take _).mono fun _ _ _ e => kk _ _ e (S'.tup_p e)
          · have hfv : f'.toNat ≤ f := by omega
            refine ⟨f'.toNat, gs.take f'.toNat, y, ev.symm, et, ?_, fun q hq => h3 q (List.mem_of_mem_take hq), hBy⟩
            rw [ek, show ys.take f'.toNat = (ys.take f).take f'.toNat by rw [List.take_take, Nat.min_eq_left hfv]]
            exact (h2.take _).mono fun _ _ _ e => kk _ _ e (S'.tup_p e)
        · rcases hyi with ⟨e0, _⟩ | ⟨f, gs, y1, rfl, h1, h2, h3, h4⟩
          · exact absurd e0 hn
          · have hfl : f < ys.length := (List.getElem?_eq_some_iff.mp h1).1
            refine ⟨f, gs, y1, rfl, ?_, ?_, h3, fun H9 kq => h4 H9 (kk.trans kq)⟩
            · rw [List.append_assoc, List.getElem?_append_left (by rw [List.length_take]; omega), List.getElem?_take_of_lt (by omega)]
              exact h1
            · rw [List.append_assoc, List.take_append_of_le_length (by rw [List.length_take]; omega), List.take_take, Nat.min_eq_left (by omega)]
              exact h2.mono fun _ _ _ e => kk _ _ e (S'.tup_p e)
      refine ⟨_, rfl, _, rfl, rfl, _, rfl, ?_⟩
      by_cases d1 : first = -2
      · rw [decide_eq_true (show V.int first = V.int (-2) by rw [d1])]
        refine iteT (iteT ?_)
        exact ⟨_, rfl, l5, v, _, _, rfl, n5p, fin v (.inl ⟨rfl, .inl d1⟩), hodd8, e28 _ _ hcl2, kk _ _ hq' nqp, hP8, S8⟩
      · rw [decide_eq_false (show ¬ V.int first = V.int (-2) from fun e => d1 (V.int.inj e))]
        refine iteF ?_
        refine ⟨_, rfl, _, rfl, _, _, rfl, rfl, _, rfl, ?_⟩
        by_cases d2 : v ≤ first
        · rw [decide_eq_true d2]
          refine iteT ?_
          exact ⟨_, rfl, l5, v, _, _, rfl, n5p, fin v (.inl ⟨rfl, .inr d2⟩), hodd8, e28 _ _ hcl2, kk _ _ hq' nqp, hP8, S8⟩
        · rw [decide_eq_false d2]
          refine iteF ?_
          exact ⟨_, rfl, l5, first, _, _, rfl, n5p, fin first (.inr ⟨rfl, d1, by omega⟩), hodd8, e28 _ _ hcl2, kk _ _ hq' nqp, hP8, S8⟩
    rintro σ' H14 ⟨tl, first, x9, x10, rfl, ntp, ⟨ys, hys, hyl, hyi⟩, hodd, hcl, hq', hP', S'⟩
    have hm8 : ys.length ≤ 10 := by omega
    have hul : (addUp ps).length ≤ 8 := Nat.le_trans (addUp_len ps) (by omega)
    -- the things refused
    refine ⟨fun σ2 H7 => σ2 = [some (.ref a), some (.ref p), some (.int (many.toNat : Nat)), some (.ref cl), some odd, some (.int good), some (.ref q), some (.ref tl), some (.int first), x9, x10, none, none, none] ∧ Same H14 H7, ?_, ?_⟩
    · refine ⟨_, rfl, _, _, rfl, rfl, _, rfl, ite2 (fun d => ?_) (fun d => ?_)⟩
      · have d := of_decide_eq_true d
        rcases hyi with ⟨e0, _⟩ | ⟨f, gs, y, rfl, h1, h2, h3, h4⟩
        · omega
        · refine ⟨_, rfl, _, rfl, .ref tl, f, rfl, .inr ⟨tl, ys, f, gs, y, rfl, hys, h1, h2, h3, fun H9 s9 => h4 H9 (Kp.of s9), rfl⟩, fun H9 s9 => ⟨_, rfl, iteF ?_⟩⟩
          exact ⟨rfl, s9⟩
      · exact ⟨rfl, Same.refl _⟩
    rintro σ2 H15 ⟨rfl, s15⟩
    have hq5 := s15 _ _ hq'
    have hP5 : PrL H15 xs ps := hP'.mono fun _ _ _ e => s15 _ _ e
    have hcl5 := s15 _ _ hcl
    have hys5 := s15 _ _ hys
    -- the odd thing refused; the pairs taken
    refine ⟨_, rfl, _, rfl, odd, -1, rfl, .inl ⟨fun H9 s9 => hodd.nseq ci kL kT H9 (s15.trans s9), rfl⟩, fun H16 s16 => ⟨_, rfl, iteF ?_⟩⟩
    refine ⟨rfl, _, rfl, q, xs, ps, rfl, s16 _ _ hq5, hP5.mono fun _ _ _ e => s16 _ _ e, hG, by omega, fun r1 e1 H17 t1 hr1 he1 s17 hc1 hv1 hl1 => ?_⟩
    refine ⟨_, rfl, q, xs, ps, rfl, s17 _ _ (s16 _ _ hq5), hP5.mono fun _ _ _ e => s17 _ _ (s16 _ _ e), hW, by omega, fun m1 H18 hm1 s18 M18 => ?_⟩
    refine ⟨r1, e1, m1, t1, addUp ps, rfl, hc1.same s18, by omega, M18, by omega, fun z => by rw [hv1, addUp_val], fun H19 s19 => ⟨_, rfl, iteF ?_⟩⟩
    have s59 := ((s16.trans s17).trans s18).trans s19
    -- the things taken
    refine ⟨fun σ2 H7 => σ2 = [some (.ref a), some (.ref p), some (.int (many.toNat : Nat)), some (.ref cl), some odd, some (.int good), some (.ref q), some (.ref tl), some (.int first), x9, x10, none, none, none] ∧ Same H15 H7, ?_, ?_⟩
    · refine ⟨_, rfl, _, _, rfl, rfl, _, rfl, ite2 (fun d => ?_) (fun d => ?_)⟩
      · have d := of_decide_eq_true d
        rcases hyi with ⟨e0, hyP⟩ | ⟨f, gs, y, rfl, h1, h2, h3, h4⟩
        · refine ⟨rfl, _, rfl, tl, ys, ps, rfl, s59 _ _ hys5, hyP.mono fun _ _ _ e => s59 _ _ (s15 _ _ e), hG, by omega, fun r2 e2 H20 t2 hr2 he2 s20 hc2 hv2 hl2 => ?_⟩
          refine ⟨_, rfl, q, xs, ps, rfl, s20 _ _ (s59 _ _ hq5), hP5.mono fun _ _ _ e => s20 _ _ (s59 _ _ e), hW, by omega, fun m2 H21 hm2 s21 M21 => ?_⟩
          refine ⟨r2, e2, m2, t2, addUp ps, rfl, hc2.same s21, by omega, M21, by omega, fun z => by rw [hv2, addUp_val], fun H22 s22 => ⟨_, rfl, iteF ?_⟩⟩
          exact ⟨rfl, ((s59.trans s20).trans s21).trans s22⟩
        · omega
      · exact ⟨rfl, s59⟩
    rintro σ2 H20 ⟨rfl, s20⟩
    have hq6 := s20 _ _ hq5
    have hP6 : PrL H20 xs ps := hP5.mono fun _ _ _ e => s20 _ _ e
    have hcl6 := s20 _ _ hcl5
    clear hyi hodd hcl hq' hP' S' hys hq5 hP5 hcl5 hys5 s59 hc1 M18 hv1 hl1
    -- the counts, a wrong word, a wrong number
    refine ⟨rfl, _, rfl, q, xs, ps, rfl, hq6, hP6, hG, by omega, fun r e H21 t hr21 he21 s21 hc21 hv21 hl21 => ?_⟩
    have hvu : ∀ z, val t z = val (addUp ps) z := fun z => by rw [hv21, addUp_val]
    have ht8 : t.length ≤ 8 := by omega
    refine ⟨_, rfl, cl, _, 2, _, rfl, rfl, SqL.of (s21 _ _ hcl6), rfl, c2, rfl, a2, b2, fun wd H22 s22 hwd => ?_⟩
    refine ⟨_, rfl, cl, _, 3, _, rfl, rfl, SqL.of (s22 _ _ (s21 _ _ hcl6)), rfl, c3, rfl, a3, b3, fun nm H23 s23 hnm => ?_⟩
    have hc23 := (hc21.same s22).same s23
    obtain ⟨⟨dx23, hp23⟩, _⟩ := id hc23
    have s03 := (s22.trans s23)
    refine ⟨_, rfl, _, rfl, r, dx23, _, rfl, hp23, r, dx23, _, wd, rfl, hp23, (hwd _ s23).1, fun H24 s24 => ⟨_, rfl, _, rfl, iteF ?_⟩⟩
    refine ⟨_, rfl, _, rfl, r, dx23, _, wd, rfl, s24 _ _ hp23, fun H9 s9 => ⟨(hwd H9 ((s23.trans s24).trans s9)).1, (hwd H9 ((s23.trans s24).trans s9)).2.1⟩, fun H25 s25 => ⟨_, rfl, iteF ?_⟩⟩
    have s35 := s24.trans s25
    refine ⟨_, rfl, _, rfl, _, rfl, r, e, t, wd, .int good, false, rfl, hc23.same s35, by omega, .inl ⟨rfl, fun H9 s9 => ⟨(hwd H9 ((s23.trans s35).trans s9)).1, (hwd H9 ((s23.trans s35).trans s9)).2.1⟩⟩, fun H26 s26 => ⟨_, rfl, iteF ?_⟩⟩
    have s36 := s35.trans s26
    refine ⟨_, rfl, _, rfl, _, rfl, r, e, t, wd, nm, false, rfl, hc23.same s36, by omega, .inl ⟨rfl, fun H9 s9 => ⟨(hwd H9 ((s23.trans s36).trans s9)).1, (hwd H9 ((s23.trans s36).trans s9)).2.1⟩⟩, fun H27 s27 => ⟨_, rfl, iteF ?_⟩⟩
    have s37 := s36.trans s27
    refine ⟨_, rfl, _, rfl, r, e, t, .str "a", nm, true, rfl, hc23.same s37, by omega, .inr ⟨rfl, ⟨_, rfl, wA⟩, fun H9 s9 => ⟨(hnm H9 (s37.trans s9)).1, (hnm H9 (s37.trans s9)).2.1⟩⟩, fun H28 s28 => ⟨_, rfl, iteF ?_⟩⟩
    have s38 := s37.trans s28
    refine ⟨_, rfl, _, rfl, nm, good, rfl, hgo, fun H9 s9 => ⟨(hnm H9 (s38.trans s9)).1, (hnm H9 (s38.trans s9)).2.1⟩, fun H29 s29 => ⟨_, rfl, iteF ?_⟩⟩
    have s39 := s38.trans s29
    have s61 := ((s21.trans s22).trans s23).trans s39
    refine ⟨_, rfl, _, rfl, q, xs, ps, rfl, s61 _ _ hq6, hP6.mono fun _ _ _ e => s61 _ _ e, hW, by omega, fun m3 H30 hm3 s30 M30 => ?_⟩
    have hc30 := (hc23.same s39).same s30
    refine ⟨r, e, m3, t, addUp ps, rfl, hc30, by omega, M30, by omega, hvu, fun H31 s31 => ⟨_, rfl, iteF ?_⟩⟩
    have hc31 := hc30.same s31
    obtain ⟨⟨dx31, hp31⟩, _⟩ := id hc31
    refine ⟨_, rfl, _, rfl, r, dx31, _, rfl, hp31, r, e, t, "a", good, rfl, wA, hgo, hc31, by omega, fun t5 H32 hc32 hv32 hl32 kp32 => ?_⟩
    obtain ⟨⟨dx32, hp32⟩, _⟩ := id hc32
    refine ⟨_, rfl, r, dx32, _, rfl, hp32, r, e, t5, "a", rfl, wA, hc32, fun H33 s33 => ⟨_, rfl, rfl, ?_⟩⟩
    rw [hv32, if_pos rfl, decide_eq_true (show V.int good = V.int good from rfl)]
    exact k _
end
end Cs

set_option Elab.async false
set_option linter.all false
set_option maxRecDepth 100000
set_option maxHeartbeats 8000000
namespace Cs
open PySem L2
theorem all_mk {l : PySem.W.OpenLaw} {w : World} {K : PySem.W.Frag} {h : Heap} {mg : Str → Option Value} {fa : Addr} (X : K.In h) (G : h.Ns mainGlobals mg) (hfa : mg "law" = some (.ref fa))
    {f_isint : Addr} {oc_isint kV_isint dc_isint pm_isint cd_isint ct_isint : Value} {od_isint an_isint : Option Addr} {sl_isint : Array (Option Value)}
    {f_isword : Addr} {oc_isword kV_isword dc_isword pm_isword cd_isword ct_isword : Value} {od_isword an_isword : Option Addr} {sl_isword : Array (Option Value)}
    {f_issmall : Addr} {oc_issmall kV_issmall dc_issmall pm_issmall cd_issmall ct_issmall : Value} {od_issmall an_issmall : Option Addr} {sl_issmall : Array (Option Value)}
    {f_ispair : Addr} {oc_ispair kV_ispair dc_ispair pm_ispair cd_ispair ct_ispair : Value} {od_ispair an_ispair : Option Addr} {sl_ispair : Array (Option Value)}
    {f_distinct : Addr} {oc_distinct kV_distinct dc_distinct pm_distinct cd_distinct ct_distinct : Value} {od_distinct an_distinct : Option Addr} {sl_distinct : Array (Option Value)}
    {f_source : Addr} {oc_source kV_source dc_source pm_source cd_source ct_source : Value} {od_source an_source : Option Addr} {sl_source : Array (Option Value)}
    {f_mixed : Addr} {oc_mixed kV_mixed dc_mixed pm_mixed cd_mixed ct_mixed : Value} {od_mixed an_mixed : Option Addr} {sl_mixed : Array (Option Value)}
    {f_draw : Addr} {oc_draw kV_draw dc_draw pm_draw cd_draw ct_draw : Value} {od_draw an_draw : Option Addr} {sl_draw : Array (Option Value)}
    {f_word : Addr} {oc_word kV_word dc_word pm_word cd_word ct_word : Value} {od_word an_word : Option Addr} {sl_word : Array (Option Value)}
    {f_number : Addr} {oc_number kV_number dc_number pm_number cd_number ct_number : Value} {od_number an_number : Option Addr} {sl_number : Array (Option Value)}
    {f_pairs : Addr} {oc_pairs kV_pairs dc_pairs pm_pairs cd_pairs ct_pairs : Value} {od_pairs an_pairs : Option Addr} {sl_pairs : Array (Option Value)}
    {f_model : Addr} {oc_model kV_model dc_model pm_model cd_model ct_model : Value} {od_model an_model : Option Addr} {sl_model : Array (Option Value)}
    {f_told : Addr} {oc_told kV_told dc_told pm_told cd_told ct_told : Value} {od_told an_told : Option Addr} {sl_told : Array (Option Value)}
    {f_lint : Addr} {oc_lint kV_lint dc_lint pm_lint cd_lint ct_lint : Value} {od_lint an_lint : Option Addr} {sl_lint : Array (Option Value)}
    {f_equal : Addr} {oc_equal kV_equal dc_equal pm_equal cd_equal ct_equal : Value} {od_equal an_equal : Option Addr} {sl_equal : Array (Option Value)}
    {f_wronge : Addr} {oc_wronge kV_wronge dc_wronge pm_wronge cd_wronge ct_wronge : Value} {od_wronge an_wronge : Option Addr} {sl_wronge : Array (Option Value)}
    {f_noword : Addr} {oc_noword kV_noword dc_noword pm_noword cd_noword ct_noword : Value} {od_noword an_noword : Option Addr} {sl_noword : Array (Option Value)}
    {f_nonum : Addr} {oc_nonum kV_nonum dc_nonum pm_nonum cd_nonum ct_nonum : Value} {od_nonum an_nonum : Option Addr} {sl_nonum : Array (Option Value)}
    {f_same : Addr} {oc_same kV_same dc_same pm_same cd_same ct_same : Value} {od_same an_same : Option Addr} {sl_same : Array (Option Value)}
    {f_listref : Addr} {oc_listref kV_listref dc_listref pm_listref cd_listref ct_listref : Value} {od_listref an_listref : Option Addr} {sl_listref : Array (Option Value)}
    {f_reading : Addr} {oc_reading kV_reading dc_reading pm_reading cd_reading ct_reading : Value} {od_reading an_reading : Option Addr} {sl_reading : Array (Option Value)}
    {f_setting : Addr} {oc_setting kV_setting dc_setting pm_setting cd_setting ct_setting : Value} {od_setting an_setting : Option Addr} {sl_setting : Array (Option Value)}
    {f_byname : Addr} {oc_byname kV_byname dc_byname pm_byname cd_byname ct_byname : Value} {od_byname an_byname : Option Addr} {sl_byname : Array (Option Value)}
    {f_law : Addr} {oc_law kV_law dc_law pm_law cd_law ct_law : Value} {od_law an_law : Option Addr} {sl_law : Array (Option Value)}
    {C : Addr}
    {f_init : Addr} {oc_init kV_init dc_init pm_init cd_init ct_init : Value} {od_init an_init : Option Addr} {sl_init : Array (Option Value)}
    {f_mwords : Addr} {oc_mwords kV_mwords dc_mwords pm_mwords cd_mwords ct_mwords : Value} {od_mwords an_mwords : Option Addr} {sl_mwords : Array (Option Value)}
    {f_mpairs : Addr} {oc_mpairs kV_mpairs dc_mpairs pm_mpairs cd_mpairs ct_mpairs : Value} {od_mpairs an_mpairs : Option Addr} {sl_mpairs : Array (Option Value)}
    {f_mget : Addr} {oc_mget kV_mget dc_mget pm_mget cd_mget ct_mget : Value} {od_mget an_mget : Option Addr} {sl_mget : Array (Option Value)}
    {f_mset : Addr} {oc_mset kV_mset dc_mset pm_mset cd_mset ct_mset : Value} {od_mset an_mset : Option Addr} {sl_mset : Array (Option Value)}
    {f_mhas : Addr} {oc_mhas kV_mhas dc_mhas pm_mhas cd_mhas ct_mhas : Value} {od_mhas an_mhas : Option Addr} {sl_mhas : Array (Option Value)}
    {f_meq : Addr} {oc_meq kV_meq dc_meq pm_meq cd_meq ct_meq : Value} {od_meq an_meq : Option Addr} {sl_meq : Array (Option Value)}
    {BW : Addr}
    {f_xw : Addr} {oc_xw kV_xw dc_xw pm_xw cd_xw ct_xw : Value} {od_xw an_xw : Option Addr} {sl_xw : Array (Option Value)}
    {BN : Addr}
    {f_xn : Addr} {oc_xn kV_xn dc_xn pm_xn cd_xn ct_xn : Value} {od_xn an_xn : Option Addr} {sl_xn : Array (Option Value)}
    {BC : Addr}
    {f_xc : Addr} {oc_xc kV_xc dc_xc pm_xc cd_xc ct_xc : Value} {od_xc an_xc : Option Addr} {sl_xc : Array (Option Value)}
    {q_mof : Addr} {r_mof : List Value}
    {f_mof : Addr} {oc_mof kV_mof dc_mof pm_mof cd_mof ct_mof : Value} {od_mof an_mof : Option Addr} {sl_mof : Array (Option Value)}
    {tk_LET : Tok}
    
    {ce : Addr}
    (a_isint : PySem.W.nsIn K mainGlobals "is_integer" = some (some (.ref f_isint)))
    (l_isint : K.lookup f_isint = some ⟨oc_isint, od_isint, .func (PySem.W.fnOf "is_integer" "is_integer" (defArgs s_is_integer) (defBody s_is_integer) (defScope s_is_integer) .none kV_isint dc_isint pm_isint an_isint cd_isint ct_isint), sl_isint⟩)
    (c_isint : PySem.W.codeIn K cd_isint "is_integer" = true)
    (k_isint : PySem.W.keepIn K (.ref f_isint) = true)
    (a_isword : PySem.W.nsIn K mainGlobals "is_word" = some (some (.ref f_isword)))
    (l_isword : K.lookup f_isword = some ⟨oc_isword, od_isword, .func (PySem.W.fnOf "is_word" "is_word" (defArgs s_is_word) (defBody s_is_word) (defScope s_is_word) .none kV_isword dc_isword pm_isword an_isword cd_isword ct_isword), sl_isword⟩)
    (c_isword : PySem.W.codeIn K cd_isword "is_word" = true)
    (k_isword : PySem.W.keepIn K (.ref f_isword) = true)
    (a_issmall : PySem.W.nsIn K mainGlobals "is_small" = some (some (.ref f_issmall)))
    (l_issmall : K.lookup f_issmall = some ⟨oc_issmall, od_issmall, .func (PySem.W.fnOf "is_small" "is_small" (defArgs s_is_small) (defBody s_is_small) (defScope s_is_small) .none kV_issmall dc_issmall pm_issmall an_issmall cd_issmall ct_issmall), sl_issmall⟩)
    (c_issmall : PySem.W.codeIn K cd_issmall "is_small" = true)
    (k_issmall : PySem.W.keepIn K (.ref f_issmall) = true)
    (a_ispair : PySem.W.nsIn K mainGlobals "is_pair" = some (some (.ref f_ispair)))
    (l_ispair : K.lookup f_ispair = some ⟨oc_ispair, od_ispair, .func (PySem.W.fnOf "is_pair" "is_pair" (defArgs s_is_pair) (defBody s_is_pair) (defScope s_is_pair) .none kV_ispair dc_ispair pm_ispair an_ispair cd_ispair ct_ispair), sl_ispair⟩)
    (c_ispair : PySem.W.codeIn K cd_ispair "is_pair" = true)
    (k_ispair : PySem.W.keepIn K (.ref f_ispair) = true)
    (a_distinct : PySem.W.nsIn K mainGlobals "distinct" = some (some (.ref f_distinct)))
    (l_distinct : K.lookup f_distinct = some ⟨oc_distinct, od_distinct, .func (PySem.W.fnOf "distinct" "distinct" (defArgs s_distinct) (defBody s_distinct) (defScope s_distinct) .none kV_distinct dc_distinct pm_distinct an_distinct cd_distinct ct_distinct), sl_distinct⟩)
    (c_distinct : PySem.W.codeIn K cd_distinct "distinct" = true)
    (k_distinct : PySem.W.keepIn K (.ref f_distinct) = true)
    (a_source : PySem.W.nsIn K mainGlobals "_law_source" = some (some (.ref f_source)))
    (l_source : K.lookup f_source = some ⟨oc_source, od_source, .func (PySem.W.fnOf "_law_source" "_law_source" (defArgs s_l_source) (defBody s_l_source) (defScope s_l_source) .none kV_source dc_source pm_source an_source cd_source ct_source), sl_source⟩)
    (c_source : PySem.W.codeIn K cd_source "_law_source" = true)
    (k_source : PySem.W.keepIn K (.ref f_source) = true)
    (a_mixed : PySem.W.nsIn K mainGlobals "_law_mixed" = some (some (.ref f_mixed)))
    (l_mixed : K.lookup f_mixed = some ⟨oc_mixed, od_mixed, .func (PySem.W.fnOf "_law_mixed" "_law_mixed" (defArgs s_l_mixed) (defBody s_l_mixed) (defScope s_l_mixed) .none kV_mixed dc_mixed pm_mixed an_mixed cd_mixed ct_mixed), sl_mixed⟩)
    (c_mixed : PySem.W.codeIn K cd_mixed "_law_mixed" = true)
    (k_mixed : PySem.W.keepIn K (.ref f_mixed) = true)
    (a_draw : PySem.W.nsIn K mainGlobals "_law_draw" = some (some (.ref f_draw)))
    (l_draw : K.lookup f_draw = some ⟨oc_draw, od_draw, .func (PySem.W.fnOf "_law_draw" "_law_draw" (defArgs s_l_draw) (defBody s_l_draw) (defScope s_l_draw) .none kV_draw dc_draw pm_draw an_draw cd_draw ct_draw), sl_draw⟩)
    (c_draw : PySem.W.codeIn K cd_draw "_law_draw" = true)
    (k_draw : PySem.W.keepIn K (.ref f_draw) = true)
    (a_word : PySem.W.nsIn K mainGlobals "_law_word" = some (some (.ref f_word)))
    (l_word : K.lookup f_word = some ⟨oc_word, od_word, .func (PySem.W.fnOf "_law_word" "_law_word" (defArgs s_l_word) (defBody s_l_word) (defScope s_l_word) .none kV_word dc_word pm_word an_word cd_word ct_word), sl_word⟩)
    (c_word : PySem.W.codeIn K cd_word "_law_word" = true)
    (k_word : PySem.W.keepIn K (.ref f_word) = true)
    (a_number : PySem.W.nsIn K mainGlobals "_law_number" = some (some (.ref f_number)))
    (l_number : K.lookup f_number = some ⟨oc_number, od_number, .func (PySem.W.fnOf "_law_number" "_law_number" (defArgs s_l_number) (defBody s_l_number) (defScope s_l_number) .none kV_number dc_number pm_number an_number cd_number ct_number), sl_number⟩)
    (c_number : PySem.W.codeIn K cd_number "_law_number" = true)
    (k_number : PySem.W.keepIn K (.ref f_number) = true)
    (a_pairs : PySem.W.nsIn K mainGlobals "_law_pairs" = some (some (.ref f_pairs)))
    (l_pairs : K.lookup f_pairs = some ⟨oc_pairs, od_pairs, .func (PySem.W.fnOf "_law_pairs" "_law_pairs" (defArgs s_l_pairs) (defBody s_l_pairs) (defScope s_l_pairs) .none kV_pairs dc_pairs pm_pairs an_pairs cd_pairs ct_pairs), sl_pairs⟩)
    (c_pairs : PySem.W.codeIn K cd_pairs "_law_pairs" = true)
    (k_pairs : PySem.W.keepIn K (.ref f_pairs) = true)
    (a_model : PySem.W.nsIn K mainGlobals "_law_model" = some (some (.ref f_model)))
    (l_model : K.lookup f_model = some ⟨oc_model, od_model, .func (PySem.W.fnOf "_law_model" "_law_model" (defArgs s_l_model) (defBody s_l_model) (defScope s_l_model) .none kV_model dc_model pm_model an_model cd_model ct_model), sl_model⟩)
    (c_model : PySem.W.codeIn K cd_model "_law_model" = true)
    (k_model : PySem.W.keepIn K (.ref f_model) = true)
    (a_told : PySem.W.nsIn K mainGlobals "_law_told" = some (some (.ref f_told)))
    (l_told : K.lookup f_told = some ⟨oc_told, od_told, .func (PySem.W.fnOf "_law_told" "_law_told" (defArgs s_l_told) (defBody s_l_told) (defScope s_l_told) .none kV_told dc_told pm_told an_told cd_told ct_told), sl_told⟩)
    (c_told : PySem.W.codeIn K cd_told "_law_told" = true)
    (k_told : PySem.W.keepIn K (.ref f_told) = true)
    (a_lint : PySem.W.nsIn K mainGlobals "_law_is_integer" = some (some (.ref f_lint)))
    (l_lint : K.lookup f_lint = some ⟨oc_lint, od_lint, .func (PySem.W.fnOf "_law_is_integer" "_law_is_integer" (defArgs s_l_is_integer) (defBody s_l_is_integer) (defScope s_l_is_integer) .none kV_lint dc_lint pm_lint an_lint cd_lint ct_lint), sl_lint⟩)
    (c_lint : PySem.W.codeIn K cd_lint "_law_is_integer" = true)
    (k_lint : PySem.W.keepIn K (.ref f_lint) = true)
    (a_equal : PySem.W.nsIn K mainGlobals "_law_equal" = some (some (.ref f_equal)))
    (l_equal : K.lookup f_equal = some ⟨oc_equal, od_equal, .func (PySem.W.fnOf "_law_equal" "_law_equal" (defArgs s_l_equal) (defBody s_l_equal) (defScope s_l_equal) .none kV_equal dc_equal pm_equal an_equal cd_equal ct_equal), sl_equal⟩)
    (c_equal : PySem.W.codeIn K cd_equal "_law_equal" = true)
    (k_equal : PySem.W.keepIn K (.ref f_equal) = true)
    (a_wronge : PySem.W.nsIn K mainGlobals "_law_wrong_entry" = some (some (.ref f_wronge)))
    (l_wronge : K.lookup f_wronge = some ⟨oc_wronge, od_wronge, .func (PySem.W.fnOf "_law_wrong_entry" "_law_wrong_entry" (defArgs s_l_wrong_entry) (defBody s_l_wrong_entry) (defScope s_l_wrong_entry) .none kV_wronge dc_wronge pm_wronge an_wronge cd_wronge ct_wronge), sl_wronge⟩)
    (c_wronge : PySem.W.codeIn K cd_wronge "_law_wrong_entry" = true)
    (k_wronge : PySem.W.keepIn K (.ref f_wronge) = true)
    (a_noword : PySem.W.nsIn K mainGlobals "_law_no_word" = some (some (.ref f_noword)))
    (l_noword : K.lookup f_noword = some ⟨oc_noword, od_noword, .func (PySem.W.fnOf "_law_no_word" "_law_no_word" (defArgs s_l_no_word) (defBody s_l_no_word) (defScope s_l_no_word) .none kV_noword dc_noword pm_noword an_noword cd_noword ct_noword), sl_noword⟩)
    (c_noword : PySem.W.codeIn K cd_noword "_law_no_word" = true)
    (k_noword : PySem.W.keepIn K (.ref f_noword) = true)
    (a_nonum : PySem.W.nsIn K mainGlobals "_law_no_number" = some (some (.ref f_nonum)))
    (l_nonum : K.lookup f_nonum = some ⟨oc_nonum, od_nonum, .func (PySem.W.fnOf "_law_no_number" "_law_no_number" (defArgs s_l_no_number) (defBody s_l_no_number) (defScope s_l_no_number) .none kV_nonum dc_nonum pm_nonum an_nonum cd_nonum ct_nonum), sl_nonum⟩)
    (c_nonum : PySem.W.codeIn K cd_nonum "_law_no_number" = true)
    (k_nonum : PySem.W.keepIn K (.ref f_nonum) = true)
    (a_same : PySem.W.nsIn K mainGlobals "_law_same" = some (some (.ref f_same)))
    (l_same : K.lookup f_same = some ⟨oc_same, od_same, .func (PySem.W.fnOf "_law_same" "_law_same" (defArgs s_l_same) (defBody s_l_same) (defScope s_l_same) .none kV_same dc_same pm_same an_same cd_same ct_same), sl_same⟩)
    (c_same : PySem.W.codeIn K cd_same "_law_same" = true)
    (k_same : PySem.W.keepIn K (.ref f_same) = true)
    (a_listref : PySem.W.nsIn K mainGlobals "_law_list_refused" = some (some (.ref f_listref)))
    (l_listref : K.lookup f_listref = some ⟨oc_listref, od_listref, .func (PySem.W.fnOf "_law_list_refused" "_law_list_refused" (defArgs s_l_list_refused) (defBody s_l_list_refused) (defScope s_l_list_refused) .none kV_listref dc_listref pm_listref an_listref cd_listref ct_listref), sl_listref⟩)
    (c_listref : PySem.W.codeIn K cd_listref "_law_list_refused" = true)
    (k_listref : PySem.W.keepIn K (.ref f_listref) = true)
    (a_reading : PySem.W.nsIn K mainGlobals "_law_reading" = some (some (.ref f_reading)))
    (l_reading : K.lookup f_reading = some ⟨oc_reading, od_reading, .func (PySem.W.fnOf "_law_reading" "_law_reading" (defArgs s_l_reading) (defBody s_l_reading) (defScope s_l_reading) .none kV_reading dc_reading pm_reading an_reading cd_reading ct_reading), sl_reading⟩)
    (c_reading : PySem.W.codeIn K cd_reading "_law_reading" = true)
    (k_reading : PySem.W.keepIn K (.ref f_reading) = true)
    (a_setting : PySem.W.nsIn K mainGlobals "_law_setting" = some (some (.ref f_setting)))
    (l_setting : K.lookup f_setting = some ⟨oc_setting, od_setting, .func (PySem.W.fnOf "_law_setting" "_law_setting" (defArgs s_l_setting) (defBody s_l_setting) (defScope s_l_setting) .none kV_setting dc_setting pm_setting an_setting cd_setting ct_setting), sl_setting⟩)
    (c_setting : PySem.W.codeIn K cd_setting "_law_setting" = true)
    (k_setting : PySem.W.keepIn K (.ref f_setting) = true)
    (a_byname : PySem.W.nsIn K mainGlobals "_law_by_name" = some (some (.ref f_byname)))
    (l_byname : K.lookup f_byname = some ⟨oc_byname, od_byname, .func (PySem.W.fnOf "_law_by_name" "_law_by_name" (defArgs s_l_by_name) (defBody s_l_by_name) (defScope s_l_by_name) .none kV_byname dc_byname pm_byname an_byname cd_byname ct_byname), sl_byname⟩)
    (c_byname : PySem.W.codeIn K cd_byname "_law_by_name" = true)
    (k_byname : PySem.W.keepIn K (.ref f_byname) = true)
    (a_law : PySem.W.nsIn K mainGlobals "law" = some (some (.ref f_law)))
    (l_law : K.lookup f_law = some ⟨oc_law, od_law, .func (PySem.W.fnOf "law" "law" (defArgs s_law) (defBody s_law) (defScope s_law) .none kV_law dc_law pm_law an_law cd_law ct_law), sl_law⟩)
    (c_law : PySem.W.codeIn K cd_law "law" = true)
    (k_law : PySem.W.keepIn K (.ref f_law) = true)
    (a_C : PySem.W.nsIn K mainGlobals "Counts" = some (some (.ref C)))
    (pg_C : PySem.W.plainGet K C Str.empty = true)
    (hd_C : PySem.W.hasDictIn K C = true)
    (po_C : PySem.W.plainOver K C = true)
    (sa_C : PySem.W.findIn K (.ref C) "__setattr__" = some (some (.builtin "object.__setattr__")))
    (mk_C : PySem.W.makesIn K C = true)
    (kc_C : PySem.W.keepIn K (.ref C) = true)
    (ns_C : PySem.W.noSeq K C = true)
    (n_C_held : PySem.W.findIn K (.ref C) "held" = some none)
    (sf_C : PySem.W.selfFirst K C = true)
    (cc_C : PySem.W.findIn K (.ref C) "__class__" = some (some (.builtin "object.__class__")))
    (ch_C : PySem.W.specialIn K (.builtin "object.__class__") "__get__" = some (some (.builtin "getset_descriptor.__get__")))
    (ct_C : PySem.W.takesIn K (.builtin "object.__class__") = some true)
    (cm_C : PySem.W.mroIn K C (.type "object") = some true)
    (ne_C : PySem.W.findIn K (.ref C) "__ne__" = some (some (.builtin "object.__ne__")))
    (a_init : PySem.W.findIn K (.ref C) "__init__" = some (some (.ref f_init)))
    (i_init : PySem.W.isFn K (.ref f_init) = true)
    (l_init : K.lookup f_init = some ⟨oc_init, od_init, .func (PySem.W.fnOf "__init__" "Counts.__init__" (defArgs s_Counts_init) (defBody s_Counts_init) (defScope s_Counts_init) .none kV_init dc_init pm_init an_init cd_init ct_init), sl_init⟩)
    (c_init : PySem.W.codeIn K cd_init "Counts.__init__" = true)
    (k_init : PySem.W.keepIn K (.ref f_init) = true)
    (a_mwords : PySem.W.findIn K (.ref C) "words" = some (some (.ref f_mwords)))
    (i_mwords : PySem.W.isFn K (.ref f_mwords) = true)
    (l_mwords : K.lookup f_mwords = some ⟨oc_mwords, od_mwords, .func (PySem.W.fnOf "words" "Counts.words" (defArgs s_Counts_words) (defBody s_Counts_words) (defScope s_Counts_words) .none kV_mwords dc_mwords pm_mwords an_mwords cd_mwords ct_mwords), sl_mwords⟩)
    (c_mwords : PySem.W.codeIn K cd_mwords "Counts.words" = true)
    (k_mwords : PySem.W.keepIn K (.ref f_mwords) = true)
    (a_mpairs : PySem.W.findIn K (.ref C) "pairs" = some (some (.ref f_mpairs)))
    (i_mpairs : PySem.W.isFn K (.ref f_mpairs) = true)
    (l_mpairs : K.lookup f_mpairs = some ⟨oc_mpairs, od_mpairs, .func (PySem.W.fnOf "pairs" "Counts.pairs" (defArgs s_Counts_pairs) (defBody s_Counts_pairs) (defScope s_Counts_pairs) .none kV_mpairs dc_mpairs pm_mpairs an_mpairs cd_mpairs ct_mpairs), sl_mpairs⟩)
    (c_mpairs : PySem.W.codeIn K cd_mpairs "Counts.pairs" = true)
    (k_mpairs : PySem.W.keepIn K (.ref f_mpairs) = true)
    (a_mget : PySem.W.findIn K (.ref C) "__getitem__" = some (some (.ref f_mget)))
    (i_mget : PySem.W.isFn K (.ref f_mget) = true)
    (l_mget : K.lookup f_mget = some ⟨oc_mget, od_mget, .func (PySem.W.fnOf "__getitem__" "Counts.__getitem__" (defArgs s_Counts_getitem) (defBody s_Counts_getitem) (defScope s_Counts_getitem) .none kV_mget dc_mget pm_mget an_mget cd_mget ct_mget), sl_mget⟩)
    (c_mget : PySem.W.codeIn K cd_mget "Counts.__getitem__" = true)
    (k_mget : PySem.W.keepIn K (.ref f_mget) = true)
    (a_mset : PySem.W.findIn K (.ref C) "__setitem__" = some (some (.ref f_mset)))
    (i_mset : PySem.W.isFn K (.ref f_mset) = true)
    (l_mset : K.lookup f_mset = some ⟨oc_mset, od_mset, .func (PySem.W.fnOf "__setitem__" "Counts.__setitem__" (defArgs s_Counts_setitem) (defBody s_Counts_setitem) (defScope s_Counts_setitem) .none kV_mset dc_mset pm_mset an_mset cd_mset ct_mset), sl_mset⟩)
    (c_mset : PySem.W.codeIn K cd_mset "Counts.__setitem__" = true)
    (k_mset : PySem.W.keepIn K (.ref f_mset) = true)
    (a_mhas : PySem.W.findIn K (.ref C) "__contains__" = some (some (.ref f_mhas)))
    (i_mhas : PySem.W.isFn K (.ref f_mhas) = true)
    (l_mhas : K.lookup f_mhas = some ⟨oc_mhas, od_mhas, .func (PySem.W.fnOf "__contains__" "Counts.__contains__" (defArgs s_Counts_contains) (defBody s_Counts_contains) (defScope s_Counts_contains) .none kV_mhas dc_mhas pm_mhas an_mhas cd_mhas ct_mhas), sl_mhas⟩)
    (c_mhas : PySem.W.codeIn K cd_mhas "Counts.__contains__" = true)
    (k_mhas : PySem.W.keepIn K (.ref f_mhas) = true)
    (a_meq : PySem.W.findIn K (.ref C) "__eq__" = some (some (.ref f_meq)))
    (i_meq : PySem.W.isFn K (.ref f_meq) = true)
    (l_meq : K.lookup f_meq = some ⟨oc_meq, od_meq, .func (PySem.W.fnOf "__eq__" "Counts.__eq__" (defArgs s_Counts_eq) (defBody s_Counts_eq) (defScope s_Counts_eq) .none kV_meq dc_meq pm_meq an_meq cd_meq ct_meq), sl_meq⟩)
    (c_meq : PySem.W.codeIn K cd_meq "Counts.__eq__" = true)
    (k_meq : PySem.W.keepIn K (.ref f_meq) = true)
    (a_BW : PySem.W.nsIn K mainGlobals "BadWord" = some (some (.ref BW)))
    (x_BW : ∃ nm q N bs bm sn sub ab col dd k0 k1 k2 k3 k5, K.lookup BW = some (excClassObj nm q BW N bs bm true sn sub ab col dd k0 k1 k2 k3 k5 "ValueError.__new__") ∧ PySem.HandSPX.refsVE bm = true)
    (sa_BW : PySem.W.findIn K (.ref BW) "__setattr__" = some (some (.builtin "object.__setattr__")))
    (ec_BW : PySem.W.subIn K (.ref BW) (.type "BaseException") = some true)
    (ty_BW : PySem.W.typeIn K (.ref BW) = some (.type "type"))
    (kc_BW : PySem.W.keepIn K (.ref BW) = true)
    (is_BW : PySem.W.isClsIn K BW = true)
    (ss_BW : PySem.W.subIn K (.ref BW) (.ref BW) = some true)
    (nf_BW : PySem.W.findIn K (.ref BW) "word" = some none)
    (a_xw : PySem.W.findIn K (.ref BW) "__init__" = some (some (.ref f_xw)))
    (t_xw : PySem.W.typeIn K (.ref f_xw) = some (.type "function"))
    (l_xw : K.lookup f_xw = some ⟨oc_xw, od_xw, .func (PySem.W.fnOf "__init__" "BadWord.__init__" (defArgs s_BadWord_init) (defBody s_BadWord_init) (defScope s_BadWord_init) .none kV_xw dc_xw pm_xw an_xw cd_xw ct_xw), sl_xw⟩)
    (c_xw : PySem.W.codeIn K cd_xw "BadWord.__init__" = true)
    (k_xw : PySem.W.keepIn K (.ref f_xw) = true)
    (a_BN : PySem.W.nsIn K mainGlobals "BadNumber" = some (some (.ref BN)))
    (x_BN : ∃ nm q N bs bm sn sub ab col dd k0 k1 k2 k3 k5, K.lookup BN = some (excClassObj nm q BN N bs bm true sn sub ab col dd k0 k1 k2 k3 k5 "ValueError.__new__") ∧ PySem.HandSPX.refsVE bm = true)
    (sa_BN : PySem.W.findIn K (.ref BN) "__setattr__" = some (some (.builtin "object.__setattr__")))
    (ec_BN : PySem.W.subIn K (.ref BN) (.type "BaseException") = some true)
    (ty_BN : PySem.W.typeIn K (.ref BN) = some (.type "type"))
    (kc_BN : PySem.W.keepIn K (.ref BN) = true)
    (is_BN : PySem.W.isClsIn K BN = true)
    (ss_BN : PySem.W.subIn K (.ref BN) (.ref BN) = some true)
    (nf_BN : PySem.W.findIn K (.ref BN) "number" = some none)
    (a_xn : PySem.W.findIn K (.ref BN) "__init__" = some (some (.ref f_xn)))
    (t_xn : PySem.W.typeIn K (.ref f_xn) = some (.type "function"))
    (l_xn : K.lookup f_xn = some ⟨oc_xn, od_xn, .func (PySem.W.fnOf "__init__" "BadNumber.__init__" (defArgs s_BadNumber_init) (defBody s_BadNumber_init) (defScope s_BadNumber_init) .none kV_xn dc_xn pm_xn an_xn cd_xn ct_xn), sl_xn⟩)
    (c_xn : PySem.W.codeIn K cd_xn "BadNumber.__init__" = true)
    (k_xn : PySem.W.keepIn K (.ref f_xn) = true)
    (a_BC : PySem.W.nsIn K mainGlobals "BadCounts" = some (some (.ref BC)))
    (x_BC : ∃ nm q N bs bm sn sub ab col dd k0 k1 k2 k3 k5, K.lookup BC = some (excClassObj nm q BC N bs bm true sn sub ab col dd k0 k1 k2 k3 k5 "ValueError.__new__") ∧ PySem.HandSPX.refsVE bm = true)
    (sa_BC : PySem.W.findIn K (.ref BC) "__setattr__" = some (some (.builtin "object.__setattr__")))
    (ec_BC : PySem.W.subIn K (.ref BC) (.type "BaseException") = some true)
    (ty_BC : PySem.W.typeIn K (.ref BC) = some (.type "type"))
    (kc_BC : PySem.W.keepIn K (.ref BC) = true)
    (is_BC : PySem.W.isClsIn K BC = true)
    (ss_BC : PySem.W.subIn K (.ref BC) (.ref BC) = some true)
    (nf_BC : PySem.W.findIn K (.ref BC) "at" = some none)
    (a_xc : PySem.W.findIn K (.ref BC) "__init__" = some (some (.ref f_xc)))
    (t_xc : PySem.W.typeIn K (.ref f_xc) = some (.type "function"))
    (l_xc : K.lookup f_xc = some ⟨oc_xc, od_xc, .func (PySem.W.fnOf "__init__" "BadCounts.__init__" (defArgs s_BadCounts_init) (defBody s_BadCounts_init) (defScope s_BadCounts_init) .none kV_xc dc_xc pm_xc an_xc cd_xc ct_xc), sl_xc⟩)
    (c_xc : PySem.W.codeIn K cd_xc "BadCounts.__init__" = true)
    (k_xc : PySem.W.keepIn K (.ref f_xc) = true)
    (a_mof : PySem.W.findCls K (.ref C) (.type "type") "of" = some (.get (.builtin "classmethod.__get__") (.ref q_mof) .none (.ref C)))
    (rc_mof : PySem.W.recIn K q_mof "classmethod" = some (.ref f_mof :: r_mof))
    (l_mof : K.lookup f_mof = some ⟨oc_mof, od_mof, .func (PySem.W.fnOf "of" "Counts.of" (defArgs s_Counts_of) (defBody s_Counts_of) (defScope s_Counts_of) .none kV_mof dc_mof pm_mof an_mof cd_mof ct_mof), sl_mof⟩)
    (c_mof : PySem.W.codeIn K cd_mof "Counts.of" = true)
    (fi_mof : PySem.W.fnIn K f_mof = true)
    (k_mof : PySem.W.keepIn K (.ref f_mof) = true)
    (rd_C : PySem.W.readsIn K C (.type "type") = true)
    (ga_C : PySem.W.specialIn K (.ref C) "__getattribute__" = some (some (.builtin "type.__getattribute__")))
    (a_LET : PySem.W.nsIn K mainGlobals "LETTERS" = some (some (.str LET tk_LET)))
    (fi_mget : PySem.W.fnIn K f_mget = true)
    (a_ce : PySem.W.nsIn K mainGlobals "CountsheldError" = some (some (.ref ce)))
    (hg_BW : PySem.W.findIn K (.ref BW) "__getattribute__" = some (some (.builtin "BaseException.__getattribute__")))
    (hk_BW : PySem.W.findIn K (.ref BW) "__getattr__" = some none)
    (hd_BW : PySem.W.hasDictIn K BW = true)
    (ca_BW : PySem.W.findIn K (.ref BW) "__class__" = some (some (.builtin "object.__class__")))
    (cm_BW : PySem.W.mroIn K BW (.type "object") = some true)
    (k1_BW : PySem.W.kitOne K (.ref BW) (.ref ce) = some true)
    (hg_BN : PySem.W.findIn K (.ref BN) "__getattribute__" = some (some (.builtin "BaseException.__getattribute__")))
    (hk_BN : PySem.W.findIn K (.ref BN) "__getattr__" = some none)
    (hd_BN : PySem.W.hasDictIn K BN = true)
    (ca_BN : PySem.W.findIn K (.ref BN) "__class__" = some (some (.builtin "object.__class__")))
    (cm_BN : PySem.W.mroIn K BN (.type "object") = some true)
    (k1_BN : PySem.W.kitOne K (.ref BN) (.ref ce) = some true)
    (hg_BC : PySem.W.findIn K (.ref BC) "__getattribute__" = some (some (.builtin "BaseException.__getattribute__")))
    (hk_BC : PySem.W.findIn K (.ref BC) "__getattr__" = some none)
    (hd_BC : PySem.W.hasDictIn K BC = true)
    (ca_BC : PySem.W.findIn K (.ref BC) "__class__" = some (some (.builtin "object.__class__")))
    (cm_BC : PySem.W.mroIn K BC (.type "object") = some true)
    (k1_BC : PySem.W.kitOne K (.ref BC) (.ref ce) = some true)
    (k12 : PySem.W.kitOne K (.ref BW) (.ref BN) = some false)
    (e21 : PySem.W.exmOne K (.ref BN) (.ref BW) = some false)
    (kstr_C : PySem.W.kitOne K (.ref C) (.type "str") = some false)
    (kbool_C : PySem.W.kitOne K (.ref C) (.type "bool") = some false)
    (klist_C : PySem.W.kitOne K (.ref C) (.type "list") = some false)
    (ktuple_C : PySem.W.kitOne K (.ref C) (.type "tuple") = some false)
    (z_len : PySem.W.nsIn K mainGlobals "len" = some none)
    (z_int : PySem.W.nsIn K mainGlobals "int" = some none)
    (z_abs : PySem.W.nsIn K mainGlobals "abs" = some none)
    (z_list : PySem.W.nsIn K mainGlobals "list" = some none)
    (z_range : PySem.W.nsIn K mainGlobals "range" = some none)
    (z_sorted : PySem.W.nsIn K mainGlobals "sorted" = some none)
    (z_str : PySem.W.nsIn K mainGlobals "str" = some none)
    (z_isinstance : PySem.W.nsIn K mainGlobals "isinstance" = some none)
    (z_sum : PySem.W.nsIn K mainGlobals "sum" = some none)
    (z_tuple : PySem.W.nsIn K mainGlobals "tuple" = some none)
    (z_dict : PySem.W.nsIn K mainGlobals "dict" = some none)
    (z_all : PySem.W.nsIn K mainGlobals "all" = some none)
    (z_bool : PySem.W.nsIn K mainGlobals "bool" = some none)
    (z_enumerate : PySem.W.nsIn K mainGlobals "enumerate" = some none)
    (z_min : PySem.W.nsIn K mainGlobals "min" = some none)
    (z_max : PySem.W.nsIn K mainGlobals "max" = some none)
    : ∃ fd : FuncData, (∀ (s : Shared) (v : Value), BindsTo s fd ⟨[v], []⟩ [("_law_script", v)]) ∧ ∀ base : Heap, K.In base → base.Ns mainGlobals mg → FnOk l.prog w K mg base CX0 7 fa fd ["_law_script"] (spLaw K) := by
  have e := hfa.symm.trans (PySem.W.mg_of X G a_law)
  cases e
  have g : Bi mg := ⟨PySem.W.mg_none_of X G z_len, PySem.W.mg_none_of X G z_int, PySem.W.mg_none_of X G z_abs, PySem.W.mg_none_of X G z_list, PySem.W.mg_none_of X G z_range, PySem.W.mg_none_of X G z_sorted, PySem.W.mg_none_of X G z_str, PySem.W.mg_none_of X G z_isinstance, PySem.W.mg_none_of X G z_sum, PySem.W.mg_none_of X G z_tuple, PySem.W.mg_none_of X G z_dict, PySem.W.mg_none_of X G z_all, PySem.W.mg_none_of X G z_bool, PySem.W.mg_none_of X G z_enumerate⟩
  have F_isint := fun_mk (st := s_is_integer) l_isint c_isint k_isint
  have b_isint := F_isint.binds (ps := ["thing"]) fun _ _ _ _ _ _ us hl => match us, hl with | [_], _ => rfl
  have F_isword := fun_mk (st := s_is_word) l_isword c_isword k_isword
  have b_isword := F_isword.binds (ps := ["thing"]) fun _ _ _ _ _ _ us hl => match us, hl with | [_], _ => rfl
  have F_issmall := fun_mk (st := s_is_small) l_issmall c_issmall k_issmall
  have b_issmall := F_issmall.binds (ps := ["thing"]) fun _ _ _ _ _ _ us hl => match us, hl with | [_], _ => rfl
  have F_ispair := fun_mk (st := s_is_pair) l_ispair c_ispair k_ispair
  have b_ispair := F_ispair.binds (ps := ["thing"]) fun _ _ _ _ _ _ us hl => match us, hl with | [_], _ => rfl
  have F_distinct := fun_mk (st := s_distinct) l_distinct c_distinct k_distinct
  have b_distinct := F_distinct.binds (ps := ["words"]) fun _ _ _ _ _ _ us hl => match us, hl with | [_], _ => rfl
  have F_source := fun_mk (st := s_l_source) l_source c_source k_source
  have b_source := F_source.binds (ps := ["_law_script"]) fun _ _ _ _ _ _ us hl => match us, hl with | [_], _ => rfl
  have F_mixed := fun_mk (st := s_l_mixed) l_mixed c_mixed k_mixed
  have b_mixed := F_mixed.binds (ps := ["_law_cell", "_law_count"]) fun _ _ _ _ _ _ us hl => match us, hl with | [_, _], _ => rfl
  have F_draw := fun_mk (st := s_l_draw) l_draw c_draw k_draw
  have b_draw := F_draw.binds (ps := ["_law_source_here", "_law_size"]) fun _ _ _ _ _ _ us hl => match us, hl with | [_, _], _ => rfl
  have F_word := fun_mk (st := s_l_word) l_word c_word k_word
  have b_word := F_word.binds (ps := ["_law_source_here"]) fun _ _ _ _ _ _ us hl => match us, hl with | [_], _ => rfl
  have F_number := fun_mk (st := s_l_number) l_number c_number k_number
  have b_number := F_number.binds (ps := ["_law_source_here"]) fun _ _ _ _ _ _ us hl => match us, hl with | [_], _ => rfl
  have F_pairs := fun_mk (st := s_l_pairs) l_pairs c_pairs k_pairs
  have b_pairs := F_pairs.binds (ps := ["_law_source_here", "_law_most"]) fun _ _ _ _ _ _ us hl => match us, hl with | [_, _], _ => rfl
  have F_model := fun_mk (st := s_l_model) l_model c_model k_model
  have b_model := F_model.binds (ps := ["_law_pairs_here"]) fun _ _ _ _ _ _ us hl => match us, hl with | [_], _ => rfl
  have F_told := fun_mk (st := s_l_told) l_told c_told k_told
  have b_told := F_told.binds (ps := ["_law_model_here"]) fun _ _ _ _ _ _ us hl => match us, hl with | [_], _ => rfl
  have F_lint := fun_mk (st := s_l_is_integer) l_lint c_lint k_lint
  have b_lint := F_lint.binds (ps := ["_law_thing"]) fun _ _ _ _ _ _ us hl => match us, hl with | [_], _ => rfl
  have F_equal := fun_mk (st := s_l_equal) l_equal c_equal k_equal
  have b_equal := F_equal.binds (ps := ["_law_counts", "_law_model_here"]) fun _ _ _ _ _ _ us hl => match us, hl with | [_, _], _ => rfl
  have F_wronge := fun_mk (st := s_l_wrong_entry) l_wronge c_wronge k_wronge
  have b_wronge := F_wronge.binds (ps := ["_law_choice"]) fun _ _ _ _ _ _ us hl => match us, hl with | [_], _ => rfl
  have F_noword := fun_mk (st := s_l_no_word) l_noword c_noword k_noword
  have b_noword := F_noword.binds (ps := ["_law_choice"]) fun _ _ _ _ _ _ us hl => match us, hl with | [_], _ => rfl
  have F_nonum := fun_mk (st := s_l_no_number) l_nonum c_nonum k_nonum
  have b_nonum := F_nonum.binds (ps := ["_law_choice"]) fun _ _ _ _ _ _ us hl => match us, hl with | [_], _ => rfl
  have F_same := fun_mk (st := s_l_same) l_same c_same k_same
  have b_same := F_same.binds (ps := ["_law_actual", "_law_wanted"]) fun _ _ _ _ _ _ us hl => match us, hl with | [_, _], _ => rfl
  have F_listref := fun_mk (st := s_l_list_refused) l_listref c_listref k_listref
  have b_listref := F_listref.binds (ps := ["_law_thing", "_law_at"]) fun _ _ _ _ _ _ us hl => match us, hl with | [_, _], _ => rfl
  have F_reading := fun_mk (st := s_l_reading) l_reading c_reading k_reading
  have b_reading := F_reading.binds (ps := ["_law_counts", "_law_word_here"]) fun _ _ _ _ _ _ us hl => match us, hl with | [_, _], _ => rfl
  have F_setting := fun_mk (st := s_l_setting) l_setting c_setting k_setting
  have b_setting := F_setting.binds (ps := ["_law_counts", "_law_word_here", "_law_number_here", "_law_known"]) fun _ _ _ _ _ _ us hl => match us, hl with | [_, _, _, _], _ => rfl
  have F_byname := fun_mk (st := s_l_by_name) l_byname c_byname k_byname
  have b_byname := F_byname.binds (ps := ["_law_wrong", "_law_good"]) fun _ _ _ _ _ _ us hl => match us, hl with | [_, _], _ => rfl
  have F_law := fun_mk (st := s_law) l_law c_law k_law
  have b_law := F_law.binds (ps := ["_law_script"]) fun _ _ _ _ _ _ us hl => match us, hl with | [_], _ => rfl
  have F_init := fun_mk (st := s_Counts_init) l_init c_init k_init
  have F_mwords := fun_mk (st := s_Counts_words) l_mwords c_mwords k_mwords
  have b_mwords := F_mwords.binds (ps := ["self"]) fun _ _ _ _ _ _ us hl => match us, hl with | [_], _ => rfl
  have F_mpairs := fun_mk (st := s_Counts_pairs) l_mpairs c_mpairs k_mpairs
  have b_mpairs := F_mpairs.binds (ps := ["self"]) fun _ _ _ _ _ _ us hl => match us, hl with | [_], _ => rfl
  have F_mget := fun_mk (st := s_Counts_getitem) l_mget c_mget k_mget
  have b_mget := F_mget.binds (ps := ["self", "word"]) fun _ _ _ _ _ _ us hl => match us, hl with | [_, _], _ => rfl
  have F_mset := fun_mk (st := s_Counts_setitem) l_mset c_mset k_mset
  have b_mset := F_mset.binds (ps := ["self", "word", "number"]) fun _ _ _ _ _ _ us hl => match us, hl with | [_, _, _], _ => rfl
  have F_mhas := fun_mk (st := s_Counts_contains) l_mhas c_mhas k_mhas
  have b_mhas := F_mhas.binds (ps := ["self", "word"]) fun _ _ _ _ _ _ us hl => match us, hl with | [_, _], _ => rfl
  have F_meq := fun_mk (st := s_Counts_eq) l_meq c_meq k_meq
  have b_meq := F_meq.binds (ps := ["self", "other"]) fun _ _ _ _ _ _ us hl => match us, hl with | [_, _], _ => rfl
  have F_xw := fun_mk (st := s_BadWord_init) l_xw c_xw k_xw
  have b_xw := F_xw.binds (ps := ["self", "word"]) fun _ _ _ _ _ _ us hl => match us, hl with | [_, _], _ => rfl
  have F_xn := fun_mk (st := s_BadNumber_init) l_xn c_xn k_xn
  have b_xn := F_xn.binds (ps := ["self", "number"]) fun _ _ _ _ _ _ us hl => match us, hl with | [_, _], _ => rfl
  have F_xc := fun_mk (st := s_BadCounts_init) l_xc c_xc k_xc
  have b_xc := F_xc.binds (ps := ["self", "at"]) fun _ _ _ _ _ _ us hl => match us, hl with | [_, _], _ => rfl
  have F_mof := fun_mk (st := s_Counts_of) l_mof c_mof k_mof
  have b_mof := F_mof.binds (ps := ["cls", "pairs"]) fun _ _ _ _ _ _ us hl => match us, hl with | [_, _], _ => rfl
  refine ⟨PySem.W.fnOf "law" "law" (defArgs s_law) (defBody s_law) (defScope s_law) .none kV_law dc_law pm_law an_law cd_law ct_law, fun s v => .of_eq rfl, fun base _ _ => ?_⟩
  have M := fun {x : Str} {v : Value} (a : PySem.W.nsIn K mainGlobals x = some (some v)) => PySem.W.mg_of X G a
  have gj : Bj mg := ⟨g, PySem.W.mg_none_of X G z_min, PySem.W.mg_none_of X G z_max⟩
  have FII : Def l.prog w K mg base CX0 1 "is_integer" ["thing"] (spIsInteger K) f_isint _ := ⟨ok_is_integer F_isint g, M a_isint, k_isint, b_isint⟩
  have FIW : Def l.prog w K mg base CX0 1 "is_word" ["thing"] (spIsWord K) f_isword _ := ⟨ok_is_word F_isword g (M a_LET), M a_isword, k_isword, b_isword⟩
  have FIS : Def l.prog w K mg base CX0 2 "is_small" ["thing"] (spIsSmall K) f_issmall _ := ⟨ok_is_small F_issmall g FII, M a_issmall, k_issmall, b_issmall⟩
  have FIP : Def l.prog w K mg base CX0 3 "is_pair" ["thing"] (spIsPair K) f_ispair _ := ⟨ok_is_pair F_ispair g FIW FIS, M a_ispair, k_ispair, b_ispair⟩
  have FDI : Def l.prog w K mg base CX0 1 "distinct" ["words"] (spDistinct K) f_distinct _ := ⟨ok_distinct F_distinct g, M a_distinct, k_distinct, b_distinct⟩
  have FSO : Def l.prog w K mg base CX0 1 "_law_source" ["_law_script"] (spSource K) f_source _ := ⟨ok_source F_source g, M a_source, k_source, b_source⟩
  have FDR : Def l.prog w K mg base CX0 2 "_law_draw" ["_law_source_here", "_law_size"] spDraw f_draw _ := ⟨ok_draw F_draw g F_mixed (M a_mixed) b_mixed, M a_draw, k_draw, b_draw⟩
  have FWD : Def l.prog w K mg base CX0 3 "_law_word" ["_law_source_here"] spWord f_word _ := ⟨ok_word F_word g FDR, M a_word, k_word, b_word⟩
  have FNU : Def l.prog w K mg base CX0 3 "_law_number" ["_law_source_here"] spNumber f_number _ := ⟨ok_number F_number g FDR, M a_number, k_number, b_number⟩
  have FPA : Def l.prog w K mg base CX0 4 "_law_pairs" ["_law_source_here", "_law_most"] spPairs f_pairs _ := ⟨ok_pairs F_pairs g FDR FWD FNU, M a_pairs, k_pairs, b_pairs⟩
  have FMO : Def l.prog w K mg base CX0 1 "_law_model" ["_law_pairs_here"] spModel f_model _ := ⟨ok_model F_model g, M a_model, k_model, b_model⟩
  have FTO : Def l.prog w K mg base CX0 1 "_law_told" ["_law_model_here"] spTold f_told _ := ⟨ok_told F_told g, M a_told, k_told, b_told⟩
  have FLI : Def l.prog w K mg base CX0 1 "_law_is_integer" ["_law_thing"] (spIsInteger K) f_lint _ := ⟨ok_lint F_lint g, M a_lint, k_lint, b_lint⟩
  have cl : Cls K C := ⟨pg_C, hd_C, po_C, sa_C⟩
  have ci : CI K C := ⟨cl, cc_C, ch_C, ct_C, cm_C⟩
  have OBW : OexC K BW := ⟨x_BW, sa_BW, ec_BW, ty_BW, kc_BW⟩
  have XBW : XDef l.prog w K mg base "BadWord" BW f_xw "word" ["self", "word"] _ := ⟨OBW, a_xw, t_xw, ok_xword F_xw OBW nf_BW, b_xw, M a_BW, exm_self ec_BW is_BW ty_BW ss_BW⟩
  have OBN : OexC K BN := ⟨x_BN, sa_BN, ec_BN, ty_BN, kc_BN⟩
  have XBN : XDef l.prog w K mg base "BadNumber" BN f_xn "number" ["self", "number"] _ := ⟨OBN, a_xn, t_xn, ok_xnumber F_xn OBN nf_BN, b_xn, M a_BN, exm_self ec_BN is_BN ty_BN ss_BN⟩
  have OBC : OexC K BC := ⟨x_BC, sa_BC, ec_BC, ty_BC, kc_BC⟩
  have XBC : XDef l.prog w K mg base "BadCounts" BC f_xc "at" ["self", "at"] _ := ⟨OBC, a_xc, t_xc, ok_xcounts F_xc OBC nf_BC, b_xc, M a_BC, exm_self ec_BC is_BC ty_BC ss_BC⟩
  have T : CT l.prog w K mg base C f_init := ⟨cl, n_C_held, M a_C, ⟨mk_C, a_init, i_init, kc_C⟩, ok_init g cl n_C_held l_init c_init⟩
  have MWO : MDef l.prog w K mg base CX0 2 C "words" ["self"] (spWords C) f_mwords _ := ⟨⟨a_mwords, i_mwords, k_mwords⟩, ok_words F_mwords g T FDI, b_mwords⟩
  have MPA : MDef l.prog w K mg base CX0 3 C "pairs" ["self"] (spPairsM C) f_mpairs _ := ⟨⟨a_mpairs, i_mpairs, k_mpairs⟩, ok_pairsM F_mpairs g T MWO, b_mpairs⟩
  have SGE : GDef l.prog w K mg base CX0 2 C "__getitem__" ["self", "word"] (spGet C) f_mget _ := ⟨⟨a_mget, i_mget⟩, fi_mget, ok_get F_mget g T FIW, b_mget⟩
  have MSE : SDef l.prog w K mg base CX0 3 C "__setitem__" ["self", "word", "number"] (spSet C) f_mset _ := ⟨⟨a_mset, i_mset⟩, ns_C, ok_set F_mset g T FIW FIS, b_mset⟩
  have _mhas := True.intro
  have EEQ : EDef l.prog w K mg base CX0 1 C ["self", "other"] (spEq C) f_meq _ := ⟨⟨a_meq, i_meq, ne_C, cm_C⟩, ok_eq F_meq g T ci, b_meq⟩
  have MOF : KDef l.prog w K mg base CX0 4 C (.type "type") "of" (spOf K C) q_mof f_mof := ⟨⟨rd_C, ga_C⟩, ⟨a_mof, ⟨_, rc_mof⟩, fi_mof⟩, fnR_of (ok_of F_mof g T FIP) b_mof⟩
  have FEQ : Def l.prog w K mg base CX0 4 "_law_equal" ["_law_counts", "_law_model_here"] (spEqual C) f_equal _ := ⟨ok_equal F_equal g T MPA FTO FLI, M a_equal, k_equal, b_equal⟩
  have EC_BW : ExcC K BW := ⟨hg_BW, hk_BW, ec_BW, hd_BW, ca_BW, ch_C, ct_C, cm_BW⟩
  have EC_BN : ExcC K BN := ⟨hg_BN, hk_BN, ec_BN, hd_BN, ca_BN, ch_C, ct_C, cm_BN⟩
  have EC_BC : ExcC K BC := ⟨hg_BC, hk_BC, ec_BC, hd_BC, ca_BC, ch_C, ct_C, cm_BC⟩
  have XF_BW : XfC K BW := ⟨hg_BW, hk_BW, ec_BW, hd_BW⟩
  have XF_BN : XfC K BN := ⟨hg_BN, hk_BN, ec_BN, hd_BN⟩
  have XF_BC : XfC K BC := ⟨hg_BC, hk_BC, ec_BC, hd_BC⟩
  have FIWU : Def l.prog w K mg base CX0 1 "is_word" ["thing"] (spIsWordU K) f_isword _ := ⟨FnOk.or FIW.ok (ok_is_wordN F_isword g (M a_LET)), FIW.m, FIW.kp, FIW.b⟩
  have FIPU : Def l.prog w K mg base CX0 3 "is_pair" ["thing"] (spIsPairU K) f_ispair _ := ⟨FnOk.or FIP.ok (ok_is_pairN F_ispair g FIWU FIS), FIP.m, FIP.kp, FIP.b⟩
  have MHA : SDef l.prog w K mg base CX0 2 C "__contains__" ["self", "word"] (spHasN K C) f_mhas _ := ⟨⟨a_mhas, i_mhas⟩, ns_C, ok_hasN F_mhas g T FIWU, b_mhas⟩
  have OFN := fnR_of (ok_ofN F_mof g T FIPU XBC) b_mof
  have OGN := ok_getN F_mget g T FIWU XBW
  have OSN := FnOk.or (ok_setX F_mset g T FIW FIS XBN) (ok_setN F_mset g T FIWU FIS XBW XBN)
  have IKa := ok_initK (P := l.prog) (w := w) (mg := mg) (base := base) (ks := ["a"]) g cl n_C_held FIW FIS l_init c_init (by decide) (by decide) kw_a (fun u ws hw => match ws, hw with | [_], _ => rfl)
  have IKab := ok_initK (P := l.prog) (w := w) (mg := mg) (base := base) (ks := ["a", "b"]) g cl n_C_held FIW FIS l_init c_init (by decide) (by decide) kw_ab (fun u ws hw => match ws, hw with | [_, _], _ => rfl)
  have IK1 := ok_initN (P := l.prog) (w := w) (mg := mg) (base := base) (ks := ["a", "b", "Main"]) g cl n_C_held FIWU FIS XBW XBN l_init c_init (by decide) (by decide) (fun u ws hw => match ws, hw with | [_, _, _], _ => rfl)
  have IK2 := ok_initN (P := l.prog) (w := w) (mg := mg) (base := base) (ks := ["a", "Main", "b"]) g cl n_C_held FIWU FIS XBW XBN l_init c_init (by decide) (by decide) (fun u ws hw => match ws, hw with | [_, _, _], _ => rfl)
  have OLI := ok_lintW (P := l.prog) (w := w) (mg := mg) (base := base) F_lint g
  have OEW := ok_eqW F_meq g T ci
  have KK : OK2 K BW BN ce := ⟨k1_BW, k1_BN, k12, e21⟩
  have FWE : Def l.prog w K mg base CX0 1 "_law_wrong_entry" ["_law_choice"] (spWrongE K) f_wronge _ := ⟨ok_wrong_entry F_wronge g, M a_wronge, k_wronge, b_wronge⟩
  have FNW : Def l.prog w K mg base CX0 5 "_law_no_word" ["_law_choice"] (spNoWord K C) f_noword _ := ⟨ok_no_word F_noword g T ci kstr_C IKa, M a_noword, k_noword, b_noword⟩
  have FNN : Def l.prog w K mg base CX0 1 "_law_no_number" ["_law_choice"] (spNoNum K C) f_nonum _ := ⟨ok_no_number F_nonum g, M a_nonum, k_nonum, b_nonum⟩
  have OSM := ok_same (P := l.prog) (w := w) (mg := mg) (base := base) F_same g ci kbool_C EEQ.c OEW b_meq
  have FLR : Def l.prog w K mg base CX0 5 "_law_list_refused" ["_law_thing", "_law_at"] (spListRef K) f_listref _ := ⟨ok_list_refused (B2 := BN) F_listref g T MOF.r MOF.c OFN XBC EC_BC XF_BC nf_BC (M a_ce) k1_BC OLI (M a_lint) k_lint b_lint, M a_listref, k_listref, b_listref⟩
  have FRE : Def l.prog w K mg base CX0 5 "_law_reading" ["_law_counts", "_law_word_here"] (spReading K C) f_reading _ := ⟨ok_reading F_reading g T SGE.c SGE.fi OGN SGE.b XBW EC_BW XF_BW nf_BW (M a_ce) (M a_BN) KK OSM (M a_same) k_same b_same, M a_reading, k_reading, b_reading⟩
  have FSE : Def l.prog w K mg base CX0 5 "_law_setting" ["_law_counts", "_law_word_here", "_law_number_here", "_law_known"] (spSetting K C) f_setting _ := ⟨ok_setting F_setting g T MSE.c MSE.ns OSN MSE.b XBW XBN EC_BW EC_BN XF_BW XF_BN nf_BW nf_BN (M a_ce) KK OSM (M a_same) k_same b_same, M a_setting, k_setting, b_setting⟩
  have FBN : Def l.prog w K mg base CX0 5 "_law_by_name" ["_law_wrong", "_law_good"] (spByName K C) f_byname _ := ⟨ok_by_name F_byname g T IK1 IK2 IKab XBW XBN XF_BW XF_BN nf_BW nf_BN (M a_ce) OSM (M a_same) k_same b_same, M a_byname, k_byname, b_byname⟩
  exact ok_law F_law g T ci klist_C ktuple_C IKa FSO FDR FNU FPA FMO MOF FWE FNW FNN FLR FRE FSE FBN FEQ MHA MSE SGE
end Cs
namespace Cs
open PySem PySem.Spec PyProof.Rows L2
abbrev R0 : PySem.W.OpenRow := PySem.W.OpenLaw.row PySem.Challenge.rw_countsheld_k02_counts_refused
def fd0 : FnA := ⟨fun K => (He.ga K "is_integer"), "is_integer", "is_integer", s_is_integer, [], false⟩
def fd1 : FnA := ⟨fun K => (He.ga K "is_word"), "is_word", "is_word", s_is_word, [], false⟩
def fd2 : FnA := ⟨fun K => (He.ga K "is_small"), "is_small", "is_small", s_is_small, [], false⟩
def fd3 : FnA := ⟨fun K => (He.ga K "is_pair"), "is_pair", "is_pair", s_is_pair, [], false⟩
def fd4 : FnA := ⟨fun K => (He.ga K "distinct"), "distinct", "distinct", s_distinct, [], false⟩
def fd5 : FnA := ⟨fun K => (He.ga K "_law_source"), "_law_source", "_law_source", s_l_source, [], false⟩
def fd6 : FnA := ⟨fun K => (He.ga K "_law_mixed"), "_law_mixed", "_law_mixed", s_l_mixed, [], false⟩
def fd7 : FnA := ⟨fun K => (He.ga K "_law_draw"), "_law_draw", "_law_draw", s_l_draw, [], false⟩
def fd8 : FnA := ⟨fun K => (He.ga K "_law_word"), "_law_word", "_law_word", s_l_word, [], false⟩
def fd9 : FnA := ⟨fun K => (He.ga K "_law_number"), "_law_number", "_law_number", s_l_number, [], false⟩
def fd10 : FnA := ⟨fun K => (He.ga K "_law_pairs"), "_law_pairs", "_law_pairs", s_l_pairs, [], false⟩
def fd11 : FnA := ⟨fun K => (He.ga K "_law_model"), "_law_model", "_law_model", s_l_model, [], false⟩
def fd12 : FnA := ⟨fun K => (He.ga K "_law_told"), "_law_told", "_law_told", s_l_told, [], false⟩
def fd13 : FnA := ⟨fun K => (He.ga K "_law_is_integer"), "_law_is_integer", "_law_is_integer", s_l_is_integer, [], false⟩
def fd14 : FnA := ⟨fun K => (He.ga K "_law_equal"), "_law_equal", "_law_equal", s_l_equal, [], false⟩
def fd15 : FnA := ⟨fun K => (He.ga K "_law_wrong_entry"), "_law_wrong_entry", "_law_wrong_entry", s_l_wrong_entry, [], false⟩
def fd16 : FnA := ⟨fun K => (He.ga K "_law_no_word"), "_law_no_word", "_law_no_word", s_l_no_word, [], false⟩
def fd17 : FnA := ⟨fun K => (He.ga K "_law_no_number"), "_law_no_number", "_law_no_number", s_l_no_number, [], false⟩
def fd18 : FnA := ⟨fun K => (He.ga K "_law_same"), "_law_same", "_law_same", s_l_same, [], false⟩
def fd19 : FnA := ⟨fun K => (He.ga K "_law_list_refused"), "_law_list_refused", "_law_list_refused", s_l_list_refused, [], false⟩
def fd20 : FnA := ⟨fun K => (He.ga K "_law_reading"), "_law_reading", "_law_reading", s_l_reading, [], false⟩
def fd21 : FnA := ⟨fun K => (He.ga K "_law_setting"), "_law_setting", "_law_setting", s_l_setting, [], false⟩
def fd22 : FnA := ⟨fun K => (He.ga K "_law_by_name"), "_law_by_name", "_law_by_name", s_l_by_name, [], false⟩
def fd23 : FnA := ⟨fun K => (He.ga K "law"), "law", "law", s_law, [], false⟩
def fd24 : FnA := ⟨fun K => (He.ma K (He.ga K "Counts") "__init__"), "__init__", "Counts.__init__", s_Counts_init, [], false⟩
def fd25 : FnA := ⟨fun K => (He.ma K (He.ga K "Counts") "words"), "words", "Counts.words", s_Counts_words, [], false⟩
def fd26 : FnA := ⟨fun K => (He.ma K (He.ga K "Counts") "pairs"), "pairs", "Counts.pairs", s_Counts_pairs, [], false⟩
def fd27 : FnA := ⟨fun K => (He.ma K (He.ga K "Counts") "__getitem__"), "__getitem__", "Counts.__getitem__", s_Counts_getitem, [], false⟩
def fd28 : FnA := ⟨fun K => (He.ma K (He.ga K "Counts") "__setitem__"), "__setitem__", "Counts.__setitem__", s_Counts_setitem, [], false⟩
def fd29 : FnA := ⟨fun K => (He.ma K (He.ga K "Counts") "__contains__"), "__contains__", "Counts.__contains__", s_Counts_contains, [], false⟩
def fd30 : FnA := ⟨fun K => (He.ma K (He.ga K "Counts") "__eq__"), "__eq__", "Counts.__eq__", s_Counts_eq, [], false⟩
def fd31 : FnA := ⟨fun K => (He.ma K (He.ga K "BadWord") "__init__"), "__init__", "BadWord.__init__", s_BadWord_init, [], false⟩
def fd32 : FnA := ⟨fun K => (He.ma K (He.ga K "BadNumber") "__init__"), "__init__", "BadNumber.__init__", s_BadNumber_init, [], false⟩
def fd33 : FnA := ⟨fun K => (He.ma K (He.ga K "BadCounts") "__init__"), "__init__", "BadCounts.__init__", s_BadCounts_init, [], false⟩
def fd34 : FnA := ⟨fun K => (cmF K (He.ga K "Counts") "of" "classmethod"), "of", "Counts.of", s_Counts_of, [], false⟩
def ck0 (K : FrgT) : Bool := exoB K (He.ga K "BadWord")
def ck1 (K : FrgT) : Bool := exoB K (He.ga K "BadNumber")
def ck2 (K : FrgT) : Bool := exoB K (He.ga K "BadCounts")
def ck3 (K : FrgT) : Bool := cmB K (He.ga K "Counts") "of"
def ck4 (K : FrgT) : Bool := decide (PySem.W.nsIn K mainGlobals "is_integer" = some (some (.ref (He.ga K "is_integer"))))
def ck5 (K : FrgT) : Bool := decide (PySem.W.keepIn K (.ref (He.ga K "is_integer")) = true)
def ck6 (K : FrgT) : Bool := decide (PySem.W.nsIn K mainGlobals "is_word" = some (some (.ref (He.ga K "is_word"))))
def ck7 (K : FrgT) : Bool := decide (PySem.W.keepIn K (.ref (He.ga K "is_word")) = true)
def ck8 (K : FrgT) : Bool := decide (PySem.W.nsIn K mainGlobals "is_small" = some (some (.ref (He.ga K "is_small"))))
def ck9 (K : FrgT) : Bool := decide (PySem.W.keepIn K (.ref (He.ga K "is_small")) = true)
def ck10 (K : FrgT) : Bool := decide (PySem.W.nsIn K mainGlobals "is_pair" = some (some (.ref (He.ga K "is_pair"))))
def ck11 (K : FrgT) : Bool := decide (PySem.W.keepIn K (.ref (He.ga K "is_pair")) = true)
def ck12 (K : FrgT) : Bool := decide (PySem.W.nsIn K mainGlobals "distinct" = some (some (.ref (He.ga K "distinct"))))
def ck13 (K : FrgT) : Bool := decide (PySem.W.keepIn K (.ref (He.ga K "distinct")) = true)
def ck14 (K : FrgT) : Bool := decide (PySem.W.nsIn K mainGlobals "_law_source" = some (some (.ref (He.ga K "_law_source"))))
def ck15 (K : FrgT) : Bool := decide (PySem.W.keepIn K (.ref (He.ga K "_law_source")) = true)
def ck16 (K : FrgT) : Bool := decide (PySem.W.nsIn K mainGlobals "_law_mixed" = some (some (.ref (He.ga K "_law_mixed"))))
def ck17 (K : FrgT) : Bool := decide (PySem.W.keepIn K (.ref (He.ga K "_law_mixed")) = true)
def ck18 (K : FrgT) : Bool := decide (PySem.W.nsIn K mainGlobals "_law_draw" = some (some (.ref (He.ga K "_law_draw"))))
def ck19 (K : FrgT) : Bool := decide (PySem.W.keepIn K (.ref (He.ga K "_law_draw")) = true)
def ck20 (K : FrgT) : Bool := decide (PySem.W.nsIn K mainGlobals "_law_word" = some (some (.ref (He.ga K "_law_word"))))
def ck21 (K : FrgT) : Bool := decide (PySem.W.keepIn K (.ref (He.ga K "_law_word")) = true)
def ck22 (K : FrgT) : Bool := decide (PySem.W.nsIn K mainGlobals "_law_number" = some (some (.ref (He.ga K "_law_number"))))
def ck23 (K : FrgT) : Bool := decide (PySem.W.keepIn K (.ref (He.ga K "_law_number")) = true)
def ck24 (K : FrgT) : Bool := decide (PySem.W.nsIn K mainGlobals "_law_pairs" = some (some (.ref (He.ga K "_law_pairs"))))
def ck25 (K : FrgT) : Bool := decide (PySem.W.keepIn K (.ref (He.ga K "_law_pairs")) = true)
def ck26 (K : FrgT) : Bool := decide (PySem.W.nsIn K mainGlobals "_law_model" = some (some (.ref (He.ga K "_law_model"))))
def ck27 (K : FrgT) : Bool := decide (PySem.W.keepIn K (.ref (He.ga K "_law_model")) = true)
def ck28 (K : FrgT) : Bool := decide (PySem.W.nsIn K mainGlobals "_law_told" = some (some (.ref (He.ga K "_law_told"))))
def ck29 (K : FrgT) : Bool := decide (PySem.W.keepIn K (.ref (He.ga K "_law_told")) = true)
def ck30 (K : FrgT) : Bool := decide (PySem.W.nsIn K mainGlobals "_law_is_integer" = some (some (.ref (He.ga K "_law_is_integer"))))
def ck31 (K : FrgT) : Bool := decide (PySem.W.keepIn K (.ref (He.ga K "_law_is_integer")) = true)
def ck32 (K : FrgT) : Bool := decide (PySem.W.nsIn K mainGlobals "_law_equal" = some (some (.ref (He.ga K "_law_equal"))))
def ck33 (K : FrgT) : Bool := decide (PySem.W.keepIn K (.ref (He.ga K "_law_equal")) = true)
def ck34 (K : FrgT) : Bool := decide (PySem.W.nsIn K mainGlobals "_law_wrong_entry" = some (some (.ref (He.ga K "_law_wrong_entry"))))
def ck35 (K : FrgT) : Bool := decide (PySem.W.keepIn K (.ref (He.ga K "_law_wrong_entry")) = true)
def ck36 (K : FrgT) : Bool := decide (PySem.W.nsIn K mainGlobals "_law_no_word" = some (some (.ref (He.ga K "_law_no_word"))))
def ck37 (K : FrgT) : Bool := decide (PySem.W.keepIn K (.ref (He.ga K "_law_no_word")) = true)
def ck38 (K : FrgT) : Bool := decide (PySem.W.nsIn K mainGlobals "_law_no_number" = some (some (.ref (He.ga K "_law_no_number"))))
def ck39 (K : FrgT) : Bool := decide (PySem.W.keepIn K (.ref (He.ga K "_law_no_number")) = true)
def ck40 (K : FrgT) : Bool := decide (PySem.W.nsIn K mainGlobals "_law_same" = some (some (.ref (He.ga K "_law_same"))))
def ck41 (K : FrgT) : Bool := decide (PySem.W.keepIn K (.ref (He.ga K "_law_same")) = true)
def ck42 (K : FrgT) : Bool := decide (PySem.W.nsIn K mainGlobals "_law_list_refused" = some (some (.ref (He.ga K "_law_list_refused"))))
def ck43 (K : FrgT) : Bool := decide (PySem.W.keepIn K (.ref (He.ga K "_law_list_refused")) = true)
def ck44 (K : FrgT) : Bool := decide (PySem.W.nsIn K mainGlobals "_law_reading" = some (some (.ref (He.ga K "_law_reading"))))
def ck45 (K : FrgT) : Bool := decide (PySem.W.keepIn K (.ref (He.ga K "_law_reading")) = true)
def ck46 (K : FrgT) : Bool := decide (PySem.W.nsIn K mainGlobals "_law_setting" = some (some (.ref (He.ga K "_law_setting"))))
def ck47 (K : FrgT) : Bool := decide (PySem.W.keepIn K (.ref (He.ga K "_law_setting")) = true)
def ck48 (K : FrgT) : Bool := decide (PySem.W.nsIn K mainGlobals "_law_by_name" = some (some (.ref (He.ga K "_law_by_name"))))
def ck49 (K : FrgT) : Bool := decide (PySem.W.keepIn K (.ref (He.ga K "_law_by_name")) = true)
def ck50 (K : FrgT) : Bool := decide (PySem.W.nsIn K mainGlobals "law" = some (some (.ref (He.ga K "law"))))
def ck51 (K : FrgT) : Bool := decide (PySem.W.keepIn K (.ref (He.ga K "law")) = true)
def ck52 (K : FrgT) : Bool := decide (PySem.W.nsIn K mainGlobals "Counts" = some (some (.ref (He.ga K "Counts"))))
def ck53 (K : FrgT) : Bool := decide (PySem.W.plainGet K (He.ga K "Counts") Str.empty = true)
def ck54 (K : FrgT) : Bool := decide (PySem.W.hasDictIn K (He.ga K "Counts") = true)
def ck55 (K : FrgT) : Bool := decide (PySem.W.plainOver K (He.ga K "Counts") = true)
def ck56 (K : FrgT) : Bool := decide (PySem.W.findIn K (.ref (He.ga K "Counts")) "__setattr__" = some (some (.builtin "object.__setattr__")))
def ck57 (K : FrgT) : Bool := decide (PySem.W.makesIn K (He.ga K "Counts") = true)
def ck58 (K : FrgT) : Bool := decide (PySem.W.keepIn K (.ref (He.ga K "Counts")) = true)
def ck59 (K : FrgT) : Bool := decide (PySem.W.noSeq K (He.ga K "Counts") = true)
def ck60 (K : FrgT) : Bool := decide (PySem.W.findIn K (.ref (He.ga K "Counts")) "held" = some none)
def ck61 (K : FrgT) : Bool := decide (PySem.W.selfFirst K (He.ga K "Counts") = true)
def ck62 (K : FrgT) : Bool := decide (PySem.W.findIn K (.ref (He.ga K "Counts")) "__class__" = some (some (.builtin "object.__class__")))
def ck63 (K : FrgT) : Bool := decide (PySem.W.specialIn K (.builtin "object.__class__") "__get__" = some (some (.builtin "getset_descriptor.__get__")))
def ck64 (K : FrgT) : Bool := decide (PySem.W.takesIn K (.builtin "object.__class__") = some true)
def ck65 (K : FrgT) : Bool := decide (PySem.W.mroIn K (He.ga K "Counts") (.type "object") = some true)
def ck66 (K : FrgT) : Bool := decide (PySem.W.findIn K (.ref (He.ga K "Counts")) "__ne__" = some (some (.builtin "object.__ne__")))
def ck67 (K : FrgT) : Bool := decide (PySem.W.findIn K (.ref (He.ga K "Counts")) "__init__" = some (some (.ref (He.ma K (He.ga K "Counts") "__init__"))))
def ck68 (K : FrgT) : Bool := decide (PySem.W.isFn K (.ref (He.ma K (He.ga K "Counts") "__init__")) = true)
def ck69 (K : FrgT) : Bool := decide (PySem.W.keepIn K (.ref (He.ma K (He.ga K "Counts") "__init__")) = true)
def ck70 (K : FrgT) : Bool := decide (PySem.W.findIn K (.ref (He.ga K "Counts")) "words" = some (some (.ref (He.ma K (He.ga K "Counts") "words"))))
def ck71 (K : FrgT) : Bool := decide (PySem.W.isFn K (.ref (He.ma K (He.ga K "Counts") "words")) = true)
def ck72 (K : FrgT) : Bool := decide (PySem.W.keepIn K (.ref (He.ma K (He.ga K "Counts") "words")) = true)
def ck73 (K : FrgT) : Bool := decide (PySem.W.findIn K (.ref (He.ga K "Counts")) "pairs" = some (some (.ref (He.ma K (He.ga K "Counts") "pairs"))))
def ck74 (K : FrgT) : Bool := decide (PySem.W.isFn K (.ref (He.ma K (He.ga K "Counts") "pairs")) = true)
def ck75 (K : FrgT) : Bool := decide (PySem.W.keepIn K (.ref (He.ma K (He.ga K "Counts") "pairs")) = true)
def ck76 (K : FrgT) : Bool := decide (PySem.W.findIn K (.ref (He.ga K "Counts")) "__getitem__" = some (some (.ref (He.ma K (He.ga K "Counts") "__getitem__"))))
def ck77 (K : FrgT) : Bool := decide (PySem.W.isFn K (.ref (He.ma K (He.ga K "Counts") "__getitem__")) = true)
def ck78 (K : FrgT) : Bool := decide (PySem.W.keepIn K (.ref (He.ma K (He.ga K "Counts") "__getitem__")) = true)
def ck79 (K : FrgT) : Bool := decide (PySem.W.findIn K (.ref (He.ga K "Counts")) "__setitem__" = some (some (.ref (He.ma K (He.ga K "Counts") "__setitem__"))))
def ck80 (K : FrgT) : Bool := decide (PySem.W.isFn K (.ref (He.ma K (He.ga K "Counts") "__setitem__")) = true)
def ck81 (K : FrgT) : Bool := decide (PySem.W.keepIn K (.ref (He.ma K (He.ga K "Counts") "__setitem__")) = true)
def ck82 (K : FrgT) : Bool := decide (PySem.W.findIn K (.ref (He.ga K "Counts")) "__contains__" = some (some (.ref (He.ma K (He.ga K "Counts") "__contains__"))))
def ck83 (K : FrgT) : Bool := decide (PySem.W.isFn K (.ref (He.ma K (He.ga K "Counts") "__contains__")) = true)
def ck84 (K : FrgT) : Bool := decide (PySem.W.keepIn K (.ref (He.ma K (He.ga K "Counts") "__contains__")) = true)
def ck85 (K : FrgT) : Bool := decide (PySem.W.findIn K (.ref (He.ga K "Counts")) "__eq__" = some (some (.ref (He.ma K (He.ga K "Counts") "__eq__"))))
def ck86 (K : FrgT) : Bool := decide (PySem.W.isFn K (.ref (He.ma K (He.ga K "Counts") "__eq__")) = true)
def ck87 (K : FrgT) : Bool := decide (PySem.W.keepIn K (.ref (He.ma K (He.ga K "Counts") "__eq__")) = true)
def ck88 (K : FrgT) : Bool := decide (PySem.W.nsIn K mainGlobals "BadWord" = some (some (.ref (He.ga K "BadWord"))))
def ck89 (K : FrgT) : Bool := decide (PySem.W.findIn K (.ref (He.ga K "BadWord")) "__setattr__" = some (some (.builtin "object.__setattr__")))
def ck90 (K : FrgT) : Bool := decide (PySem.W.subIn K (.ref (He.ga K "BadWord")) (.type "BaseException") = some true)
def ck91 (K : FrgT) : Bool := decide (PySem.W.typeIn K (.ref (He.ga K "BadWord")) = some (.type "type"))
def ck92 (K : FrgT) : Bool := decide (PySem.W.keepIn K (.ref (He.ga K "BadWord")) = true)
def ck93 (K : FrgT) : Bool := decide (PySem.W.isClsIn K (He.ga K "BadWord") = true)
def ck94 (K : FrgT) : Bool := decide (PySem.W.subIn K (.ref (He.ga K "BadWord")) (.ref (He.ga K "BadWord")) = some true)
def ck95 (K : FrgT) : Bool := decide (PySem.W.findIn K (.ref (He.ga K "BadWord")) "word" = some none)
def ck96 (K : FrgT) : Bool := decide (PySem.W.findIn K (.ref (He.ga K "BadWord")) "__init__" = some (some (.ref (He.ma K (He.ga K "BadWord") "__init__"))))
def ck97 (K : FrgT) : Bool := decide (PySem.W.typeIn K (.ref (He.ma K (He.ga K "BadWord") "__init__")) = some (.type "function"))
def ck98 (K : FrgT) : Bool := decide (PySem.W.keepIn K (.ref (He.ma K (He.ga K "BadWord") "__init__")) = true)
def ck99 (K : FrgT) : Bool := decide (PySem.W.nsIn K mainGlobals "BadNumber" = some (some (.ref (He.ga K "BadNumber"))))
def ck100 (K : FrgT) : Bool := decide (PySem.W.findIn K (.ref (He.ga K "BadNumber")) "__setattr__" = some (some (.builtin "object.__setattr__")))
def ck101 (K : FrgT) : Bool := decide (PySem.W.subIn K (.ref (He.ga K "BadNumber")) (.type "BaseException") = some true)
def ck102 (K : FrgT) : Bool := decide (PySem.W.typeIn K (.ref (He.ga K "BadNumber")) = some (.type "type"))
def ck103 (K : FrgT) : Bool := decide (PySem.W.keepIn K (.ref (He.ga K "BadNumber")) = true)
def ck104 (K : FrgT) : Bool := decide (PySem.W.isClsIn K (He.ga K "BadNumber") = true)
def ck105 (K : FrgT) : Bool := decide (PySem.W.subIn K (.ref (He.ga K "BadNumber")) (.ref (He.ga K "BadNumber")) = some true)
def ck106 (K : FrgT) : Bool := decide (PySem.W.findIn K (.ref (He.ga K "BadNumber")) "number" = some none)
def ck107 (K : FrgT) : Bool := decide (PySem.W.findIn K (.ref (He.ga K "BadNumber")) "__init__" = some (some (.ref (He.ma K (He.ga K "BadNumber") "__init__"))))
def ck108 (K : FrgT) : Bool := decide (PySem.W.typeIn K (.ref (He.ma K (He.ga K "BadNumber") "__init__")) = some (.type "function"))
def ck109 (K : FrgT) : Bool := decide (PySem.W.keepIn K (.ref (He.ma K (He.ga K "BadNumber") "__init__")) = true)
def ck110 (K : FrgT) : Bool := decide (PySem.W.nsIn K mainGlobals "BadCounts" = some (some (.ref (He.ga K "BadCounts"))))
def ck111 (K : FrgT) : Bool := decide (PySem.W.findIn K (.ref (He.ga K "BadCounts")) "__setattr__" = some (some (.builtin "object.__setattr__")))
def ck112 (K : FrgT) : Bool := decide (PySem.W.subIn K (.ref (He.ga K "BadCounts")) (.type "BaseException") = some true)
def ck113 (K : FrgT) : Bool := decide (PySem.W.typeIn K (.ref (He.ga K "BadCounts")) = some (.type "type"))
def ck114 (K : FrgT) : Bool := decide (PySem.W.keepIn K (.ref (He.ga K "BadCounts")) = true)
def ck115 (K : FrgT) : Bool := decide (PySem.W.isClsIn K (He.ga K "BadCounts") = true)
def ck116 (K : FrgT) : Bool := decide (PySem.W.subIn K (.ref (He.ga K "BadCounts")) (.ref (He.ga K "BadCounts")) = some true)
def ck117 (K : FrgT) : Bool := decide (PySem.W.findIn K (.ref (He.ga K "BadCounts")) "at" = some none)
def ck118 (K : FrgT) : Bool := decide (PySem.W.findIn K (.ref (He.ga K "BadCounts")) "__init__" = some (some (.ref (He.ma K (He.ga K "BadCounts") "__init__"))))
def ck119 (K : FrgT) : Bool := decide (PySem.W.typeIn K (.ref (He.ma K (He.ga K "BadCounts") "__init__")) = some (.type "function"))
def ck120 (K : FrgT) : Bool := decide (PySem.W.keepIn K (.ref (He.ma K (He.ga K "BadCounts") "__init__")) = true)
def ck121 (K : FrgT) : Bool := decide (PySem.W.recIn K (cmQ K (He.ga K "Counts") "of") "classmethod" = some (.ref (cmF K (He.ga K "Counts") "of" "classmethod") :: (cmR K (He.ga K "Counts") "of" "classmethod")))
def ck122 (K : FrgT) : Bool := decide (PySem.W.fnIn K (cmF K (He.ga K "Counts") "of" "classmethod") = true)
def ck123 (K : FrgT) : Bool := decide (PySem.W.keepIn K (.ref (cmF K (He.ga K "Counts") "of" "classmethod")) = true)
def ck124 (K : FrgT) : Bool := decide (PySem.W.readsIn K (He.ga K "Counts") (.type "type") = true)
def ck125 (K : FrgT) : Bool := decide (PySem.W.specialIn K (.ref (He.ga K "Counts")) "__getattribute__" = some (some (.builtin "type.__getattribute__")))
def ck126 (K : FrgT) : Bool := strB K "LETTERS" LET
def ck127 (K : FrgT) : Bool := decide (PySem.W.fnIn K (He.ma K (He.ga K "Counts") "__getitem__") = true)
def ck128 (K : FrgT) : Bool := decide (PySem.W.nsIn K mainGlobals "CountsheldError" = some (some (.ref (He.ga K "CountsheldError"))))
def ck129 (K : FrgT) : Bool := decide (PySem.W.findIn K (.ref (He.ga K "BadWord")) "__getattribute__" = some (some (.builtin "BaseException.__getattribute__")))
def ck130 (K : FrgT) : Bool := decide (PySem.W.findIn K (.ref (He.ga K "BadWord")) "__getattr__" = some none)
def ck131 (K : FrgT) : Bool := decide (PySem.W.hasDictIn K (He.ga K "BadWord") = true)
def ck132 (K : FrgT) : Bool := decide (PySem.W.findIn K (.ref (He.ga K "BadWord")) "__class__" = some (some (.builtin "object.__class__")))
def ck133 (K : FrgT) : Bool := decide (PySem.W.mroIn K (He.ga K "BadWord") (.type "object") = some true)
def ck134 (K : FrgT) : Bool := decide (PySem.W.kitOne K (.ref (He.ga K "BadWord")) (.ref (He.ga K "CountsheldError")) = some true)
def ck135 (K : FrgT) : Bool := decide (PySem.W.findIn K (.ref (He.ga K "BadNumber")) "__getattribute__" = some (some (.builtin "BaseException.__getattribute__")))
def ck136 (K : FrgT) : Bool := decide (PySem.W.findIn K (.ref (He.ga K "BadNumber")) "__getattr__" = some none)
def ck137 (K : FrgT) : Bool := decide (PySem.W.hasDictIn K (He.ga K "BadNumber") = true)
def ck138 (K : FrgT) : Bool := decide (PySem.W.findIn K (.ref (He.ga K "BadNumber")) "__class__" = some (some (.builtin "object.__class__")))
def ck139 (K : FrgT) : Bool := decide (PySem.W.mroIn K (He.ga K "BadNumber") (.type "object") = some true)
def ck140 (K : FrgT) : Bool := decide (PySem.W.kitOne K (.ref (He.ga K "BadNumber")) (.ref (He.ga K "CountsheldError")) = some true)
def ck141 (K : FrgT) : Bool := decide (PySem.W.findIn K (.ref (He.ga K "BadCounts")) "__getattribute__" = some (some (.builtin "BaseException.__getattribute__")))
def ck142 (K : FrgT) : Bool := decide (PySem.W.findIn K (.ref (He.ga K "BadCounts")) "__getattr__" = some none)
def ck143 (K : FrgT) : Bool := decide (PySem.W.hasDictIn K (He.ga K "BadCounts") = true)
def ck144 (K : FrgT) : Bool := decide (PySem.W.findIn K (.ref (He.ga K "BadCounts")) "__class__" = some (some (.builtin "object.__class__")))
def ck145 (K : FrgT) : Bool := decide (PySem.W.mroIn K (He.ga K "BadCounts") (.type "object") = some true)
def ck146 (K : FrgT) : Bool := decide (PySem.W.kitOne K (.ref (He.ga K "BadCounts")) (.ref (He.ga K "CountsheldError")) = some true)
def ck147 (K : FrgT) : Bool := decide (PySem.W.kitOne K (.ref (He.ga K "BadWord")) (.ref (He.ga K "BadNumber")) = some false)
def ck148 (K : FrgT) : Bool := decide (PySem.W.exmOne K (.ref (He.ga K "BadNumber")) (.ref (He.ga K "BadWord")) = some false)
def ck149 (K : FrgT) : Bool := decide (PySem.W.kitOne K (.ref (He.ga K "Counts")) (.type "str") = some false)
def ck150 (K : FrgT) : Bool := decide (PySem.W.kitOne K (.ref (He.ga K "Counts")) (.type "bool") = some false)
def ck151 (K : FrgT) : Bool := decide (PySem.W.kitOne K (.ref (He.ga K "Counts")) (.type "list") = some false)
def ck152 (K : FrgT) : Bool := decide (PySem.W.kitOne K (.ref (He.ga K "Counts")) (.type "tuple") = some false)
def ck153 (K : FrgT) : Bool := decide (PySem.W.nsIn K mainGlobals "len" = some none)
def ck154 (K : FrgT) : Bool := decide (PySem.W.nsIn K mainGlobals "int" = some none)
def ck155 (K : FrgT) : Bool := decide (PySem.W.nsIn K mainGlobals "abs" = some none)
def ck156 (K : FrgT) : Bool := decide (PySem.W.nsIn K mainGlobals "list" = some none)
def ck157 (K : FrgT) : Bool := decide (PySem.W.nsIn K mainGlobals "range" = some none)
def ck158 (K : FrgT) : Bool := decide (PySem.W.nsIn K mainGlobals "sorted" = some none)
def ck159 (K : FrgT) : Bool := decide (PySem.W.nsIn K mainGlobals "str" = some none)
def ck160 (K : FrgT) : Bool := decide (PySem.W.nsIn K mainGlobals "isinstance" = some none)
def ck161 (K : FrgT) : Bool := decide (PySem.W.nsIn K mainGlobals "sum" = some none)
def ck162 (K : FrgT) : Bool := decide (PySem.W.nsIn K mainGlobals "tuple" = some none)
def ck163 (K : FrgT) : Bool := decide (PySem.W.nsIn K mainGlobals "dict" = some none)
def ck164 (K : FrgT) : Bool := decide (PySem.W.nsIn K mainGlobals "all" = some none)
def ck165 (K : FrgT) : Bool := decide (PySem.W.nsIn K mainGlobals "bool" = some none)
def ck166 (K : FrgT) : Bool := decide (PySem.W.nsIn K mainGlobals "enumerate" = some none)
def ck167 (K : FrgT) : Bool := decide (PySem.W.nsIn K mainGlobals "min" = some none)
def ck168 (K : FrgT) : Bool := decide (PySem.W.nsIn K mainGlobals "max" = some none)
def cks_0 : List (FrgT → Bool) := [ck0, ck1, ck2, ck3, ck4, ck5, ck6, ck7, ck8, ck9, ck10, ck11, ck12, ck13, ck14, ck15, ck16, ck17, ck18, ck19, ck20, ck21, ck22, ck23, ck24, ck25, ck26, ck27, ck28, ck29]
def cks_1 : List (FrgT → Bool) := [ck30, ck31, ck32, ck33, ck34, ck35, ck36, ck37, ck38, ck39, ck40, ck41, ck42, ck43, ck44, ck45, ck46, ck47, ck48, ck49, ck50, ck51, ck52, ck53, ck54, ck55, ck56, ck57, ck58, ck59]
def cks_2 : List (FrgT → Bool) := [ck60, ck61, ck62, ck63, ck64, ck65, ck66, ck67, ck68, ck69, ck70, ck71, ck72, ck73, ck74, ck75, ck76, ck77, ck78, ck79, ck80, ck81, ck82, ck83, ck84, ck85, ck86, ck87, ck88, ck89]
def cks_3 : List (FrgT → Bool) := [ck90, ck91, ck92, ck93, ck94, ck95, ck96, ck97, ck98, ck99, ck100, ck101, ck102, ck103, ck104, ck105, ck106, ck107, ck108, ck109, ck110, ck111, ck112, ck113, ck114, ck115, ck116, ck117, ck118, ck119]
def cks_4 : List (FrgT → Bool) := [ck120, ck121, ck122, ck123, ck124, ck125, ck126, ck127, ck128, ck129, ck130, ck131, ck132, ck133, ck134, ck135, ck136, ck137, ck138, ck139, ck140, ck141, ck142, ck143, ck144, ck145, ck146, ck147, ck148, ck149]
def cks_5 : List (FrgT → Bool) := [ck150, ck151, ck152, ck153, ck154, ck155, ck156, ck157, ck158, ck159, ck160, ck161, ck162, ck163, ck164, ck165, ck166, ck167, ck168]
def cks : List (FrgT → Bool) := cks_0 ++ (cks_1 ++ (cks_2 ++ (cks_3 ++ (cks_4 ++ (cks_5)))))
def fns_0 : List FnA := [fd0, fd1, fd2, fd3, fd4, fd5, fd6, fd7, fd8, fd9, fd10, fd11, fd12, fd13, fd14, fd15, fd16, fd17, fd18, fd19, fd20, fd21, fd22, fd23, fd24, fd25, fd26, fd27, fd28, fd29]
def fns_1 : List FnA := [fd30, fd31, fd32, fd33, fd34]
def fns : List FnA := fns_0 ++ (fns_1)
def nms_0 : List Str := ["_wall", "__name__", "CountsheldError", "BadWord", "BadNumber", "BadCounts", "NoDivisor", "is_integer", "LETTERS", "is_word", "is_small", "distinct", "is_pair", "joint_words", "Counts", "_law_source", "_law_mixed", "_law_draw", "_law_word", "_law_number", "_law_pairs", "_law_model", "_law_told", "_law_is_integer", "_law_equal", "_law_wrong_entry", "_law_no_word", "_law_no_number", "_law_same", "_law_list_refused"]
def nms_1 : List Str := ["_law_reading", "_law_setting", "_law_by_name"]
def nms : List Str := nms_0 ++ (nms_1)
abbrev hkK : PySem.W.Hook := hookK 6 cks fns
def obT (s : PySem.W.SharedT) : AlK := obsKG 6 cks fns (HandSHeadRun.getT s)
theorem obT_eq (s : PySem.W.SharedT) : obT s = hkK.obs s.abs := obsKG_eq (HandSHeadRun.getT_eq s)
set_option maxHeartbeats 0 in
theorem runK (w : World) : HandSHeadRun.RunEq R0 (PySem.W.view R0.prog [37]) hkK obT 60000 nms w := by
  intro os
  kernel_rfl
theorem factsK {w : World} {K : FrgT} {h : Heap} {mg : Str → Option Value} {fa : Addr} (X : K.In h) (G : h.Ns mainGlobals mg) (hfa : mg "law" = some (.ref fa)) (c : SaysK cks fns K) : ∃ fd : FuncData, (∀ (s : Shared) (v : Value), BindsTo s fd ⟨[v], []⟩ [("_law_script", v)]) ∧ ∀ base : Heap, K.In base → base.Ns mainGlobals mg → FnOk (PySem.Challenge.rw_countsheld_k02_counts_refused).prog w K mg base CX0 7 fa fd ["_law_script"] (spLaw K) := by
  obtain ⟨oc_isint, od_isint, sl_isint, kV_isint, dc_isint, pm_isint, an_isint, cd_isint, ct_isint, l_isint, c_isint⟩ := c.fn 0 (d := fd0) rfl rfl
  obtain ⟨oc_isword, od_isword, sl_isword, kV_isword, dc_isword, pm_isword, an_isword, cd_isword, ct_isword, l_isword, c_isword⟩ := c.fn 1 (d := fd1) rfl rfl
  obtain ⟨oc_issmall, od_issmall, sl_issmall, kV_issmall, dc_issmall, pm_issmall, an_issmall, cd_issmall, ct_issmall, l_issmall, c_issmall⟩ := c.fn 2 (d := fd2) rfl rfl
  obtain ⟨oc_ispair, od_ispair, sl_ispair, kV_ispair, dc_ispair, pm_ispair, an_ispair, cd_ispair, ct_ispair, l_ispair, c_ispair⟩ := c.fn 3 (d := fd3) rfl rfl
  obtain ⟨oc_distinct, od_distinct, sl_distinct, kV_distinct, dc_distinct, pm_distinct, an_distinct, cd_distinct, ct_distinct, l_distinct, c_distinct⟩ := c.fn 4 (d := fd4) rfl rfl
  obtain ⟨oc_source, od_source, sl_source, kV_source, dc_source, pm_source, an_source, cd_source, ct_source, l_source, c_source⟩ := c.fn 5 (d := fd5) rfl rfl
  obtain ⟨oc_mixed, od_mixed, sl_mixed, kV_mixed, dc_mixed, pm_mixed, an_mixed, cd_mixed, ct_mixed, l_mixed, c_mixed⟩ := c.fn 6 (d := fd6) rfl rfl
  obtain ⟨oc_draw, od_draw, sl_draw, kV_draw, dc_draw, pm_draw, an_draw, cd_draw, ct_draw, l_draw, c_draw⟩ := c.fn 7 (d := fd7) rfl rfl
  obtain ⟨oc_word, od_word, sl_word, kV_word, dc_word, pm_word, an_word, cd_word, ct_word, l_word, c_word⟩ := c.fn 8 (d := fd8) rfl rfl
  obtain ⟨oc_number, od_number, sl_number, kV_number, dc_number, pm_number, an_number, cd_number, ct_number, l_number, c_number⟩ := c.fn 9 (d := fd9) rfl rfl
  obtain ⟨oc_pairs, od_pairs, sl_pairs, kV_pairs, dc_pairs, pm_pairs, an_pairs, cd_pairs, ct_pairs, l_pairs, c_pairs⟩ := c.fn 10 (d := fd10) rfl rfl
  obtain ⟨oc_model, od_model, sl_model, kV_model, dc_model, pm_model, an_model, cd_model, ct_model, l_model, c_model⟩ := c.fn 11 (d := fd11) rfl rfl
  obtain ⟨oc_told, od_told, sl_told, kV_told, dc_told, pm_told, an_told, cd_told, ct_told, l_told, c_told⟩ := c.fn 12 (d := fd12) rfl rfl
  obtain ⟨oc_lint, od_lint, sl_lint, kV_lint, dc_lint, pm_lint, an_lint, cd_lint, ct_lint, l_lint, c_lint⟩ := c.fn 13 (d := fd13) rfl rfl
  obtain ⟨oc_equal, od_equal, sl_equal, kV_equal, dc_equal, pm_equal, an_equal, cd_equal, ct_equal, l_equal, c_equal⟩ := c.fn 14 (d := fd14) rfl rfl
  obtain ⟨oc_wronge, od_wronge, sl_wronge, kV_wronge, dc_wronge, pm_wronge, an_wronge, cd_wronge, ct_wronge, l_wronge, c_wronge⟩ := c.fn 15 (d := fd15) rfl rfl
  obtain ⟨oc_noword, od_noword, sl_noword, kV_noword, dc_noword, pm_noword, an_noword, cd_noword, ct_noword, l_noword, c_noword⟩ := c.fn 16 (d := fd16) rfl rfl
  obtain ⟨oc_nonum, od_nonum, sl_nonum, kV_nonum, dc_nonum, pm_nonum, an_nonum, cd_nonum, ct_nonum, l_nonum, c_nonum⟩ := c.fn 17 (d := fd17) rfl rfl
  obtain ⟨oc_same, od_same, sl_same, kV_same, dc_same, pm_same, an_same, cd_same, ct_same, l_same, c_same⟩ := c.fn 18 (d := fd18) rfl rfl
  obtain ⟨oc_listref, od_listref, sl_listref, kV_listref, dc_listref, pm_listref, an_listref, cd_listref, ct_listref, l_listref, c_listref⟩ := c.fn 19 (d := fd19) rfl rfl
  obtain ⟨oc_reading, od_reading, sl_reading, kV_reading, dc_reading, pm_reading, an_reading, cd_reading, ct_reading, l_reading, c_reading⟩ := c.fn 20 (d := fd20) rfl rfl
  obtain ⟨oc_setting, od_setting, sl_setting, kV_setting, dc_setting, pm_setting, an_setting, cd_setting, ct_setting, l_setting, c_setting⟩ := c.fn 21 (d := fd21) rfl rfl
  obtain ⟨oc_byname, od_byname, sl_byname, kV_byname, dc_byname, pm_byname, an_byname, cd_byname, ct_byname, l_byname, c_byname⟩ := c.fn 22 (d := fd22) rfl rfl
  obtain ⟨oc_law, od_law, sl_law, kV_law, dc_law, pm_law, an_law, cd_law, ct_law, l_law, c_law⟩ := c.fn 23 (d := fd23) rfl rfl
  obtain ⟨oc_init, od_init, sl_init, kV_init, dc_init, pm_init, an_init, cd_init, ct_init, l_init, c_init⟩ := c.fn 24 (d := fd24) rfl rfl
  obtain ⟨oc_mwords, od_mwords, sl_mwords, kV_mwords, dc_mwords, pm_mwords, an_mwords, cd_mwords, ct_mwords, l_mwords, c_mwords⟩ := c.fn 25 (d := fd25) rfl rfl
  obtain ⟨oc_mpairs, od_mpairs, sl_mpairs, kV_mpairs, dc_mpairs, pm_mpairs, an_mpairs, cd_mpairs, ct_mpairs, l_mpairs, c_mpairs⟩ := c.fn 26 (d := fd26) rfl rfl
  obtain ⟨oc_mget, od_mget, sl_mget, kV_mget, dc_mget, pm_mget, an_mget, cd_mget, ct_mget, l_mget, c_mget⟩ := c.fn 27 (d := fd27) rfl rfl
  obtain ⟨oc_mset, od_mset, sl_mset, kV_mset, dc_mset, pm_mset, an_mset, cd_mset, ct_mset, l_mset, c_mset⟩ := c.fn 28 (d := fd28) rfl rfl
  obtain ⟨oc_mhas, od_mhas, sl_mhas, kV_mhas, dc_mhas, pm_mhas, an_mhas, cd_mhas, ct_mhas, l_mhas, c_mhas⟩ := c.fn 29 (d := fd29) rfl rfl
  obtain ⟨oc_meq, od_meq, sl_meq, kV_meq, dc_meq, pm_meq, an_meq, cd_meq, ct_meq, l_meq, c_meq⟩ := c.fn 30 (d := fd30) rfl rfl
  obtain ⟨oc_xw, od_xw, sl_xw, kV_xw, dc_xw, pm_xw, an_xw, cd_xw, ct_xw, l_xw, c_xw⟩ := c.fn 31 (d := fd31) rfl rfl
  obtain ⟨oc_xn, od_xn, sl_xn, kV_xn, dc_xn, pm_xn, an_xn, cd_xn, ct_xn, l_xn, c_xn⟩ := c.fn 32 (d := fd32) rfl rfl
  obtain ⟨oc_xc, od_xc, sl_xc, kV_xc, dc_xc, pm_xc, an_xc, cd_xc, ct_xc, l_xc, c_xc⟩ := c.fn 33 (d := fd33) rfl rfl
  obtain ⟨oc_mof, od_mof, sl_mof, kV_mof, dc_mof, pm_mof, an_mof, cd_mof, ct_mof, l_mof, c_mof⟩ := c.fn 34 (d := fd34) rfl rfl
  obtain ⟨tk_a_LET, h_a_LET⟩ := strB_ok (c.ck 126 (f := ck126) rfl)
  exact all_mk (l := PySem.Challenge.rw_countsheld_k02_counts_refused) X G hfa (of_decide_eq_true (c.ck 4 (f := ck4) rfl)) l_isint c_isint (of_decide_eq_true (c.ck 5 (f := ck5) rfl)) (of_decide_eq_true (c.ck 6 (f := ck6) rfl)) l_isword c_isword (of_decide_eq_true (c.ck 7 (f := ck7) rfl)) (of_decide_eq_true (c.ck 8 (f := ck8) rfl)) l_issmall c_issmall (of_decide_eq_true (c.ck 9 (f := ck9) rfl)) (of_decide_eq_true (c.ck 10 (f := ck10) rfl)) l_ispair c_ispair (of_decide_eq_true (c.ck 11 (f := ck11) rfl)) (of_decide_eq_true (c.ck 12 (f := ck12) rfl)) l_distinct c_distinct (of_decide_eq_true (c.ck 13 (f := ck13) rfl)) (of_decide_eq_true (c.ck 14 (f := ck14) rfl)) l_source c_source (of_decide_eq_true (c.ck 15 (f := ck15) rfl)) (of_decide_eq_true (c.ck 16 (f := ck16) rfl)) l_mixed c_mixed (of_decide_eq_true (c.ck 17 (f := ck17) rfl)) (of_decide_eq_true (c.ck 18 (f := ck18) rfl)) l_draw c_draw (of_decide_eq_true (c.ck 19 (f := ck19) rfl)) (of_decide_eq_true (c.ck 20 (f := ck20) rfl)) l_word c_word (of_decide_eq_true (c.ck 21 (f := ck21) rfl)) (of_decide_eq_true (c.ck 22 (f := ck22) rfl)) l_number c_number (of_decide_eq_true (c.ck 23 (f := ck23) rfl)) (of_decide_eq_true (c.ck 24 (f := ck24) rfl)) l_pairs c_pairs (of_decide_eq_true (c.ck 25 (f := ck25) rfl)) (of_decide_eq_true (c.ck 26 (f := ck26) rfl)) l_model c_model (of_decide_eq_true (c.ck 27 (f := ck27) rfl)) (of_decide_eq_true (c.ck 28 (f := ck28) rfl)) l_told c_told (of_decide_eq_true (c.ck 29 (f := ck29) rfl)) (of_decide_eq_true (c.ck 30 (f := ck30) rfl)) l_lint c_lint (of_decide_eq_true (c.ck 31 (f := ck31) rfl)) (of_decide_eq_true (c.ck 32 (f := ck32) rfl)) l_equal c_equal (of_decide_eq_true (c.ck 33 (f := ck33) rfl)) (of_decide_eq_true (c.ck 34 (f := ck34) rfl)) l_wronge c_wronge (of_decide_eq_true (c.ck 35 (f := ck35) rfl)) (of_decide_eq_true (c.ck 36 (f := ck36) rfl)) l_noword c_noword (of_decide_eq_true (c.ck 37 (f := ck37) rfl)) (of_decide_eq_true (c.ck 38 (f := ck38) rfl)) l_nonum c_nonum (of_decide_eq_true (c.ck 39 (f := ck39) rfl)) (of_decide_eq_true (c.ck 40 (f := ck40) rfl)) l_same c_same (of_decide_eq_true (c.ck 41 (f := ck41) rfl)) (of_decide_eq_true (c.ck 42 (f := ck42) rfl)) l_listref c_listref (of_decide_eq_true (c.ck 43 (f := ck43) rfl)) (of_decide_eq_true (c.ck 44 (f := ck44) rfl)) l_reading c_reading (of_decide_eq_true (c.ck 45 (f := ck45) rfl)) (of_decide_eq_true (c.ck 46 (f := ck46) rfl)) l_setting c_setting (of_decide_eq_true (c.ck 47 (f := ck47) rfl)) (of_decide_eq_true (c.ck 48 (f := ck48) rfl)) l_byname c_byname (of_decide_eq_true (c.ck 49 (f := ck49) rfl)) (of_decide_eq_true (c.ck 50 (f := ck50) rfl)) l_law c_law (of_decide_eq_true (c.ck 51 (f := ck51) rfl)) (of_decide_eq_true (c.ck 52 (f := ck52) rfl)) (of_decide_eq_true (c.ck 53 (f := ck53) rfl)) (of_decide_eq_true (c.ck 54 (f := ck54) rfl)) (of_decide_eq_true (c.ck 55 (f := ck55) rfl)) (of_decide_eq_true (c.ck 56 (f := ck56) rfl)) (of_decide_eq_true (c.ck 57 (f := ck57) rfl)) (of_decide_eq_true (c.ck 58 (f := ck58) rfl)) (of_decide_eq_true (c.ck 59 (f := ck59) rfl)) (of_decide_eq_true (c.ck 60 (f := ck60) rfl)) (of_decide_eq_true (c.ck 61 (f := ck61) rfl)) (of_decide_eq_true (c.ck 62 (f := ck62) rfl)) (of_decide_eq_true (c.ck 63 (f := ck63) rfl)) (of_decide_eq_true (c.ck 64 (f := ck64) rfl)) (of_decide_eq_true (c.ck 65 (f := ck65) rfl)) (of_decide_eq_true (c.ck 66 (f := ck66) rfl)) (of_decide_eq_true (c.ck 67 (f := ck67) rfl)) (of_decide_eq_true (c.ck 68 (f := ck68) rfl)) l_init c_init (of_decide_eq_true (c.ck 69 (f := ck69) rfl)) (of_decide_eq_true (c.ck 70 (f := ck70) rfl)) (of_decide_eq_true (c.ck 71 (f := ck71) rfl)) l_mwords c_mwords (of_decide_eq_true (c.ck 72 (f := ck72) rfl)) (of_decide_eq_true (c.ck 73 (f := ck73) rfl)) (of_decide_eq_true (c.ck 74 (f := ck74) rfl)) l_mpairs c_mpairs (of_decide_eq_true (c.ck 75 (f := ck75) rfl)) (of_decide_eq_true (c.ck 76 (f := ck76) rfl)) (of_decide_eq_true (c.ck 77 (f := ck77) rfl)) l_mget c_mget (of_decide_eq_true (c.ck 78 (f := ck78) rfl)) (of_decide_eq_true (c.ck 79 (f := ck79) rfl)) (of_decide_eq_true (c.ck 80 (f := ck80) rfl)) l_mset c_mset (of_decide_eq_true (c.ck 81 (f := ck81) rfl)) (of_decide_eq_true (c.ck 82 (f := ck82) rfl)) (of_decide_eq_true (c.ck 83 (f := ck83) rfl)) l_mhas c_mhas (of_decide_eq_true (c.ck 84 (f := ck84) rfl)) (of_decide_eq_true (c.ck 85 (f := ck85) rfl)) (of_decide_eq_true (c.ck 86 (f := ck86) rfl)) l_meq c_meq (of_decide_eq_true (c.ck 87 (f := ck87) rfl)) (of_decide_eq_true (c.ck 88 (f := ck88) rfl)) (exoB_ok (c.ck 0 (f := ck0) rfl)) (of_decide_eq_true (c.ck 89 (f := ck89) rfl)) (of_decide_eq_true (c.ck 90 (f := ck90) rfl)) (of_decide_eq_true (c.ck 91 (f := ck91) rfl)) (of_decide_eq_true (c.ck 92 (f := ck92) rfl)) (of_decide_eq_true (c.ck 93 (f := ck93) rfl)) (of_decide_eq_true (c.ck 94 (f := ck94) rfl)) (of_decide_eq_true (c.ck 95 (f := ck95) rfl)) (of_decide_eq_true (c.ck 96 (f := ck96) rfl)) (of_decide_eq_true (c.ck 97 (f := ck97) rfl)) l_xw c_xw (of_decide_eq_true (c.ck 98 (f := ck98) rfl)) (of_decide_eq_true (c.ck 99 (f := ck99) rfl)) (exoB_ok (c.ck 1 (f := ck1) rfl)) (of_decide_eq_true (c.ck 100 (f := ck100) rfl)) (of_decide_eq_true (c.ck 101 (f := ck101) rfl)) (of_decide_eq_true (c.ck 102 (f := ck102) rfl)) (of_decide_eq_true (c.ck 103 (f := ck103) rfl)) (of_decide_eq_true (c.ck 104 (f := ck104) rfl)) (of_decide_eq_true (c.ck 105 (f := ck105) rfl)) (of_decide_eq_true (c.ck 106 (f := ck106) rfl)) (of_decide_eq_true (c.ck 107 (f := ck107) rfl)) (of_decide_eq_true (c.ck 108 (f := ck108) rfl)) l_xn c_xn (of_decide_eq_true (c.ck 109 (f := ck109) rfl)) (of_decide_eq_true (c.ck 110 (f := ck110) rfl)) (exoB_ok (c.ck 2 (f := ck2) rfl)) (of_decide_eq_true (c.ck 111 (f := ck111) rfl)) (of_decide_eq_true (c.ck 112 (f := ck112) rfl)) (of_decide_eq_true (c.ck 113 (f := ck113) rfl)) (of_decide_eq_true (c.ck 114 (f := ck114) rfl)) (of_decide_eq_true (c.ck 115 (f := ck115) rfl)) (of_decide_eq_true (c.ck 116 (f := ck116) rfl)) (of_decide_eq_true (c.ck 117 (f := ck117) rfl)) (of_decide_eq_true (c.ck 118 (f := ck118) rfl)) (of_decide_eq_true (c.ck 119 (f := ck119) rfl)) l_xc c_xc (of_decide_eq_true (c.ck 120 (f := ck120) rfl)) (cmB_ok (c.ck 3 (f := ck3) rfl)) (of_decide_eq_true (c.ck 121 (f := ck121) rfl)) l_mof c_mof (of_decide_eq_true (c.ck 122 (f := ck122) rfl)) (of_decide_eq_true (c.ck 123 (f := ck123) rfl)) (of_decide_eq_true (c.ck 124 (f := ck124) rfl)) (of_decide_eq_true (c.ck 125 (f := ck125) rfl)) (h_a_LET) (of_decide_eq_true (c.ck 127 (f := ck127) rfl)) (of_decide_eq_true (c.ck 128 (f := ck128) rfl)) (of_decide_eq_true (c.ck 129 (f := ck129) rfl)) (of_decide_eq_true (c.ck 130 (f := ck130) rfl)) (of_decide_eq_true (c.ck 131 (f := ck131) rfl)) (of_decide_eq_true (c.ck 132 (f := ck132) rfl)) (of_decide_eq_true (c.ck 133 (f := ck133) rfl)) (of_decide_eq_true (c.ck 134 (f := ck134) rfl)) (of_decide_eq_true (c.ck 135 (f := ck135) rfl)) (of_decide_eq_true (c.ck 136 (f := ck136) rfl)) (of_decide_eq_true (c.ck 137 (f := ck137) rfl)) (of_decide_eq_true (c.ck 138 (f := ck138) rfl)) (of_decide_eq_true (c.ck 139 (f := ck139) rfl)) (of_decide_eq_true (c.ck 140 (f := ck140) rfl)) (of_decide_eq_true (c.ck 141 (f := ck141) rfl)) (of_decide_eq_true (c.ck 142 (f := ck142) rfl)) (of_decide_eq_true (c.ck 143 (f := ck143) rfl)) (of_decide_eq_true (c.ck 144 (f := ck144) rfl)) (of_decide_eq_true (c.ck 145 (f := ck145) rfl)) (of_decide_eq_true (c.ck 146 (f := ck146) rfl)) (of_decide_eq_true (c.ck 147 (f := ck147) rfl)) (of_decide_eq_true (c.ck 148 (f := ck148) rfl)) (of_decide_eq_true (c.ck 149 (f := ck149) rfl)) (of_decide_eq_true (c.ck 150 (f := ck150) rfl)) (of_decide_eq_true (c.ck 151 (f := ck151) rfl)) (of_decide_eq_true (c.ck 152 (f := ck152) rfl)) (of_decide_eq_true (c.ck 153 (f := ck153) rfl)) (of_decide_eq_true (c.ck 154 (f := ck154) rfl)) (of_decide_eq_true (c.ck 155 (f := ck155) rfl)) (of_decide_eq_true (c.ck 156 (f := ck156) rfl)) (of_decide_eq_true (c.ck 157 (f := ck157) rfl)) (of_decide_eq_true (c.ck 158 (f := ck158) rfl)) (of_decide_eq_true (c.ck 159 (f := ck159) rfl)) (of_decide_eq_true (c.ck 160 (f := ck160) rfl)) (of_decide_eq_true (c.ck 161 (f := ck161) rfl)) (of_decide_eq_true (c.ck 162 (f := ck162) rfl)) (of_decide_eq_true (c.ck 163 (f := ck163) rfl)) (of_decide_eq_true (c.ck 164 (f := ck164) rfl)) (of_decide_eq_true (c.ck 165 (f := ck165) rfl)) (of_decide_eq_true (c.ck 166 (f := ck166) rfl)) (of_decide_eq_true (c.ck 167 (f := ck167) rfl)) (of_decide_eq_true (c.ck 168 (f := ck168) rfl))
end Cs
open PySem PySem.W PySem.Calls PyProof.Rows
set_option maxRecDepth 100000 in
set_option maxHeartbeats 0 in
theorem PySem.Challenge.cw_countsheld_k02_counts_refused_holds : PySem.Challenge.rw_countsheld_k02_counts_refused.Holds := by
  w_on; o_law
  refine HandSHeadRun.head_any (r := Cs.R0) (q := view Cs.R0.prog [37]) (H := Cs.hkK) (ob := Cs.obT) (M := 60000) (loose := Cs.nms) (d := HandSHeadRun.topDef Cs.R0.prog 37) (kwd := []) Cs.obT_eq
    (by kernel_rfl) (fun s => by kernel_rfl) Cs.runK (by kernel_rfl) (by kernel_rfl) (by kernel_rfl) (by rfl) (by first | assumption | decide +kernel) (by decide +kernel) ⟨rfl, rfl, rfl, rfl, rfl, by decide +kernel⟩ ?hw ?hc
  case hw => w_witness2
  case hc =>
    refine L2.walk_ofE (l := PySem.Challenge.rw_countsheld_k02_counts_refused) (n := 63) (k := 7) (x := "_law_script") (CX := L2.CX0) rfl (by decide) (by kernel_rfl) ⟨rfl, by decide, by decide⟩ ?F (fun _ _ _ _ z => z)
    intro w mg fa h Y G hmg0
    obtain ⟨K, KX, c⟩ := Y
    have hmg : mg ("law" : PySem.Str) = some (.ref fa) := by
      have e : (HandSHeadRun.topDef Cs.R0.prog 37).name = ("law" : PySem.Str) := by kernel_rfl
      rw [← e]
      exact hmg0
    obtain ⟨fd, hb, hF⟩ := Cs.factsK (w := w) KX G hmg c
    exact ⟨K, fd, Cs.spLaw K, KX, hb, fun H a ns hl _ hS => ⟨a, ns, rfl, hS, hl, fun _ => rfl⟩, hF⟩
