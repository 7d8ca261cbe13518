import PyProof.Rows.All
import Wide.All
import OpenK.AllK
import Wide.FinOn
import HandS.ForMost
import HandS.Set
import HandS.SetBool
import PyProof.Rows.SortShellAny
import KE.KOpsOwn
import HandS.Star
import HandS.ClsMeth
import HandS.Property
import HandS.CallRecv
import HandS.Codes
import HandS.Wide
import HandS.IsInst
import HandS.RaiseMore
import HandS.Walk
import HandS.ListItems
import HandS.DictComp
import HandS.ExcInit
import HandS.TryOnly
import HandS.WordsExc
import HandS.ExcOwn
import HandS.ExcIs
import HandS.ExcField
import PyProof.ExcBaseAll.ZeroDivisionError
import PyProof.ExcBaseAll.LookupError
import PyProof.ExcBaseAll.RuntimeError
import HandS.FStr
import PyProof.ListStr
import KE.KParD
import KE.GoesEnum
import KE.KStateDown
import KE.KSuper
import HandS.Base
import HandS.Call
import HandS.Defaults
import HandS.Words
import HandS.Head0
import HandS.Head1
import HandS.Head2
import HandS.HeadEnd
import HandS.HeadHook1
import HandS.HeadHook2
import PySem.Challenge.RW_countsheld_k08_counts_divided
set_option Elab.async false
set_option linter.all false
set_option maxRecDepth 100000
set_option maxHeartbeats 4000000
namespace Cs
open PySem L2
def top (i : Nat) : Stmt := PySem.Challenge.pw_countsheld_k08_counts_divided.main.body.getD i (.Pass ⟨0, 0, 0, 0⟩)
abbrev s_BadWord_init : Stmt := inClass (top 3) 0
theorem sc_BadWord_init : FnScope ["self", "word"] ["self", "word"] (defScope s_BadWord_init) :=
  ⟨rfl, rfl, rfl, by decide +kernel, rfl, by decide +kernel, by decide +kernel⟩
abbrev s_BadNumber_init : Stmt := inClass (top 4) 0
theorem sc_BadNumber_init : FnScope ["self", "number"] ["self", "number"] (defScope s_BadNumber_init) :=
  ⟨rfl, rfl, rfl, by decide +kernel, rfl, by decide +kernel, by decide +kernel⟩
abbrev s_BadCounts_init : Stmt := inClass (top 5) 0
theorem sc_BadCounts_init : FnScope ["self", "at"] ["self", "at"] (defScope s_BadCounts_init) :=
  ⟨rfl, rfl, rfl, by decide +kernel, rfl, by decide +kernel, by decide +kernel⟩
abbrev s_NoDivisor_init : Stmt := inClass (top 6) 0
theorem sc_NoDivisor_init : FnScope ["self", "word"] ["self", "word"] (defScope s_NoDivisor_init) :=
  ⟨rfl, rfl, rfl, by decide +kernel, rfl, by decide +kernel, by decide +kernel⟩
abbrev s_is_integer : Stmt := top 8
theorem sc_is_integer : FnScope ["thing"] ["thing"] (defScope s_is_integer) :=
  ⟨rfl, rfl, rfl, by decide +kernel, rfl, by decide +kernel, by decide +kernel⟩
abbrev s_is_word : Stmt := top 11
theorem sc_is_word : FnScope ["thing", "sign"] ["thing"] (defScope s_is_word) :=
  ⟨rfl, rfl, rfl, by decide +kernel, rfl, by decide +kernel, by decide +kernel⟩
abbrev s_is_small : Stmt := top 12
theorem sc_is_small : FnScope ["thing"] ["thing"] (defScope s_is_small) :=
  ⟨rfl, rfl, rfl, by decide +kernel, rfl, by decide +kernel, by decide +kernel⟩
abbrev s_distinct : Stmt := top 13
theorem sc_distinct : FnScope ["words", "word"] ["words"] (defScope s_distinct) :=
  ⟨rfl, rfl, rfl, by decide +kernel, rfl, by decide +kernel, by decide +kernel⟩
abbrev s_is_pair : Stmt := top 15
theorem sc_is_pair : FnScope ["thing"] ["thing"] (defScope s_is_pair) :=
  ⟨rfl, rfl, rfl, by decide +kernel, rfl, by decide +kernel, by decide +kernel⟩
abbrev s_joint_words : Stmt := top 16
theorem sc_joint_words : FnScope ["one", "other"] ["one", "other"] (defScope s_joint_words) :=
  ⟨rfl, rfl, rfl, by decide +kernel, rfl, by decide +kernel, by decide +kernel⟩
abbrev s_Counts_init : Stmt := inClass (top 17) 0
theorem sc_Counts_init : FnScope ["self", "pairs", "numbers", "word", "held", "number"] ["self", "pairs", "numbers"] (defScope s_Counts_init) :=
  ⟨rfl, rfl, rfl, by decide +kernel, rfl, by decide +kernel, by decide +kernel⟩
abbrev s_Counts_of : Stmt := inClass (top 17) 1
theorem sc_Counts_of : FnScope ["cls", "pairs", "at", "pair"] ["cls", "pairs"] (defScope s_Counts_of) :=
  ⟨rfl, rfl, rfl, by decide +kernel, rfl, by decide +kernel, by decide +kernel⟩
abbrev s_Counts_words : Stmt := inClass (top 17) 3
theorem sc_Counts_words : FnScope ["self"] ["self"] (defScope s_Counts_words) :=
  ⟨rfl, rfl, rfl, by decide +kernel, rfl, by decide +kernel, by decide +kernel⟩
abbrev s_Counts_pairs : Stmt := inClass (top 17) 4
theorem sc_Counts_pairs : FnScope ["self", "word"] ["self"] (defScope s_Counts_pairs) :=
  ⟨rfl, rfl, rfl, by decide +kernel, rfl, by decide +kernel, by decide +kernel⟩
abbrev s_Counts_only : Stmt := inClass (top 17) 5
theorem sc_Counts_only : FnScope ["self", "words", "pairs", "pair"] ["self", "words"] (defScope s_Counts_only) :=
  ⟨rfl, rfl, rfl, by decide +kernel, rfl, by decide +kernel, by decide +kernel⟩
abbrev s_Counts_getitem : Stmt := inClass (top 17) 9
theorem sc_Counts_getitem : FnScope ["self", "word"] ["self", "word"] (defScope s_Counts_getitem) :=
  ⟨rfl, rfl, rfl, by decide +kernel, rfl, by decide +kernel, by decide +kernel⟩
abbrev s_Counts_setitem : Stmt := inClass (top 17) 10
theorem sc_Counts_setitem : FnScope ["self", "word", "number"] ["self", "word", "number"] (defScope s_Counts_setitem) :=
  ⟨rfl, rfl, rfl, by decide +kernel, rfl, by decide +kernel, by decide +kernel⟩
abbrev s_Counts_iter : Stmt := inClass (top 17) 11
theorem sc_Counts_iter : FnScope ["self"] ["self"] (defScope s_Counts_iter) :=
  ⟨rfl, rfl, rfl, by decide +kernel, rfl, by decide +kernel, by decide +kernel⟩
abbrev s_Counts_contains : Stmt := inClass (top 17) 12
theorem sc_Counts_contains : FnScope ["self", "word"] ["self", "word"] (defScope s_Counts_contains) :=
  ⟨rfl, rfl, rfl, by decide +kernel, rfl, by decide +kernel, by decide +kernel⟩
abbrev s_Counts_len : Stmt := inClass (top 17) 13
theorem sc_Counts_len : FnScope ["self"] ["self"] (defScope s_Counts_len) :=
  ⟨rfl, rfl, rfl, by decide +kernel, rfl, by decide +kernel, by decide +kernel⟩
abbrev s_Counts_bool : Stmt := inClass (top 17) 14
theorem sc_Counts_bool : FnScope ["self"] ["self"] (defScope s_Counts_bool) :=
  ⟨rfl, rfl, rfl, by decide +kernel, rfl, by decide +kernel, by decide +kernel⟩
abbrev s_Counts_eq : Stmt := inClass (top 17) 15
theorem sc_Counts_eq : FnScope ["self", "other"] ["self", "other"] (defScope s_Counts_eq) :=
  ⟨rfl, rfl, rfl, by decide +kernel, rfl, by decide +kernel, by decide +kernel⟩
abbrev s_Counts_le : Stmt := inClass (top 17) 16
theorem sc_Counts_le : FnScope ["self", "other", "word"] ["self", "other"] (defScope s_Counts_le) :=
  ⟨rfl, rfl, rfl, by decide +kernel, rfl, by decide +kernel, by decide +kernel⟩
abbrev s_Counts_lt : Stmt := inClass (top 17) 17
theorem sc_Counts_lt : FnScope ["self", "other"] ["self", "other"] (defScope s_Counts_lt) :=
  ⟨rfl, rfl, rfl, by decide +kernel, rfl, by decide +kernel, by decide +kernel⟩
abbrev s_Counts_add : Stmt := inClass (top 17) 18
theorem sc_Counts_add : FnScope ["self", "other", "pairs"] ["self", "other"] (defScope s_Counts_add) :=
  ⟨rfl, rfl, rfl, by decide +kernel, rfl, by decide +kernel, by decide +kernel⟩
abbrev s_Counts_neg : Stmt := inClass (top 17) 19
theorem sc_Counts_neg : FnScope ["self", "pairs", "word"] ["self"] (defScope s_Counts_neg) :=
  ⟨rfl, rfl, rfl, by decide +kernel, rfl, by decide +kernel, by decide +kernel⟩
abbrev s_Counts_abs : Stmt := inClass (top 17) 20
theorem sc_Counts_abs : FnScope ["self", "pairs", "word"] ["self"] (defScope s_Counts_abs) :=
  ⟨rfl, rfl, rfl, by decide +kernel, rfl, by decide +kernel, by decide +kernel⟩
abbrev s_Counts_sub : Stmt := inClass (top 17) 21
theorem sc_Counts_sub : FnScope ["self", "other", "pairs", "word"] ["self", "other"] (defScope s_Counts_sub) :=
  ⟨rfl, rfl, rfl, by decide +kernel, rfl, by decide +kernel, by decide +kernel⟩
abbrev s_Counts_and : Stmt := inClass (top 17) 22
theorem sc_Counts_and : FnScope ["self", "other", "pairs", "word"] ["self", "other"] (defScope s_Counts_and) :=
  ⟨rfl, rfl, rfl, by decide +kernel, rfl, by decide +kernel, by decide +kernel⟩
abbrev s_Counts_or : Stmt := inClass (top 17) 23
theorem sc_Counts_or : FnScope ["self", "other", "pairs", "word"] ["self", "other"] (defScope s_Counts_or) :=
  ⟨rfl, rfl, rfl, by decide +kernel, rfl, by decide +kernel, by decide +kernel⟩
abbrev s_Counts_xor : Stmt := inClass (top 17) 24
theorem sc_Counts_xor : FnScope ["self", "other"] ["self", "other"] (defScope s_Counts_xor) :=
  ⟨rfl, rfl, rfl, by decide +kernel, rfl, by decide +kernel, by decide +kernel⟩
abbrev s_Counts_mul : Stmt := inClass (top 17) 25
theorem sc_Counts_mul : FnScope ["self", "times", "pairs", "word"] ["self", "times"] (defScope s_Counts_mul) :=
  ⟨rfl, rfl, rfl, by decide +kernel, rfl, by decide +kernel, by decide +kernel⟩
abbrev s_Counts_rmul : Stmt := inClass (top 17) 26
theorem sc_Counts_rmul : FnScope ["self", "times"] ["self", "times"] (defScope s_Counts_rmul) :=
  ⟨rfl, rfl, rfl, by decide +kernel, rfl, by decide +kernel, by decide +kernel⟩
abbrev s_Counts_floordiv : Stmt := inClass (top 17) 27
theorem sc_Counts_floordiv : FnScope ["self", "other", "word"] ["self", "other"] (defScope s_Counts_floordiv) :=
  ⟨rfl, rfl, rfl, by decide +kernel, rfl, by decide +kernel, by decide +kernel⟩
abbrev s_Counts_mod : Stmt := inClass (top 17) 28
theorem sc_Counts_mod : FnScope ["self", "other", "times"] ["self", "other"] (defScope s_Counts_mod) :=
  ⟨rfl, rfl, rfl, by decide +kernel, rfl, by decide +kernel, by decide +kernel⟩
abbrev s_Counts_iadd : Stmt := inClass (top 17) 29
theorem sc_Counts_iadd : FnScope ["self", "other", "result"] ["self", "other"] (defScope s_Counts_iadd) :=
  ⟨rfl, rfl, rfl, by decide +kernel, rfl, by decide +kernel, by decide +kernel⟩
abbrev s_Counts_isub : Stmt := inClass (top 17) 30
theorem sc_Counts_isub : FnScope ["self", "other", "result"] ["self", "other"] (defScope s_Counts_isub) :=
  ⟨rfl, rfl, rfl, by decide +kernel, rfl, by decide +kernel, by decide +kernel⟩
abbrev s_Counts_iand : Stmt := inClass (top 17) 31
theorem sc_Counts_iand : FnScope ["self", "other", "result"] ["self", "other"] (defScope s_Counts_iand) :=
  ⟨rfl, rfl, rfl, by decide +kernel, rfl, by decide +kernel, by decide +kernel⟩
abbrev s_Counts_ior : Stmt := inClass (top 17) 32
theorem sc_Counts_ior : FnScope ["self", "other", "result"] ["self", "other"] (defScope s_Counts_ior) :=
  ⟨rfl, rfl, rfl, by decide +kernel, rfl, by decide +kernel, by decide +kernel⟩
abbrev s_Counts_imul : Stmt := inClass (top 17) 33
theorem sc_Counts_imul : FnScope ["self", "times", "result"] ["self", "times"] (defScope s_Counts_imul) :=
  ⟨rfl, rfl, rfl, by decide +kernel, rfl, by decide +kernel, by decide +kernel⟩
abbrev s_Counts_repr : Stmt := inClass (top 17) 34
theorem sc_Counts_repr : FnScope ["self", "parts", "inside", "word"] ["self"] (defScope s_Counts_repr) :=
  ⟨rfl, rfl, rfl, by decide +kernel, rfl, by decide +kernel, by decide +kernel⟩
abbrev s_l_source : Stmt := top 19
theorem sc_l_source : FnScope ["_law_script"] ["_law_script"] (defScope s_l_source) :=
  ⟨rfl, rfl, rfl, by decide +kernel, rfl, by decide +kernel, by decide +kernel⟩
abbrev s_l_mixed : Stmt := top 20
theorem sc_l_mixed : FnScope ["_law_cell", "_law_count", "_law_first"] ["_law_cell", "_law_count"] (defScope s_l_mixed) :=
  ⟨rfl, rfl, rfl, by decide +kernel, rfl, by decide +kernel, by decide +kernel⟩
abbrev s_l_draw : Stmt := top 21
theorem sc_l_draw : FnScope ["_law_source_here", "_law_size", "_law_at", "_law_cell", "_law_value"] ["_law_source_here", "_law_size"] (defScope s_l_draw) :=
  ⟨rfl, rfl, rfl, by decide +kernel, rfl, by decide +kernel, by decide +kernel⟩
abbrev s_l_word : Stmt := top 22
theorem sc_l_word : FnScope ["_law_source_here", "_law_words", "_law_word_here", "_law_k"] ["_law_source_here"] (defScope s_l_word) :=
  ⟨rfl, rfl, rfl, by decide +kernel, rfl, by decide +kernel, by decide +kernel⟩
abbrev s_l_number : Stmt := top 23
theorem sc_l_number : FnScope ["_law_source_here", "_law_mode", "_law_number_here", "_law_k"] ["_law_source_here"] (defScope s_l_number) :=
  ⟨rfl, rfl, rfl, by decide +kernel, rfl, by decide +kernel, by decide +kernel⟩
abbrev s_l_pairs : Stmt := top 24
theorem sc_l_pairs : FnScope ["_law_source_here", "_law_most", "_law_pairs_here", "_law_k", "_law_word_here"] ["_law_source_here", "_law_most"] (defScope s_l_pairs) :=
  ⟨rfl, rfl, rfl, by decide +kernel, rfl, by decide +kernel, by decide +kernel⟩
abbrev s_l_model : Stmt := top 25
theorem sc_l_model : FnScope ["_law_pairs_here", "_law_model_here", "_law_word_here", "_law_number_here"] ["_law_pairs_here"] (defScope s_l_model) :=
  ⟨rfl, rfl, rfl, by decide +kernel, rfl, by decide +kernel, by decide +kernel⟩
abbrev s_l_told : Stmt := top 26
theorem sc_l_told : FnScope ["_law_model_here", "_law_words", "_law_word_here"] ["_law_model_here"] (defScope s_l_told) :=
  ⟨rfl, rfl, rfl, by decide +kernel, rfl, by decide +kernel, by decide +kernel⟩
abbrev s_l_is_integer : Stmt := top 27
theorem sc_l_is_integer : FnScope ["_law_thing"] ["_law_thing"] (defScope s_l_is_integer) :=
  ⟨rfl, rfl, rfl, by decide +kernel, rfl, by decide +kernel, by decide +kernel⟩
abbrev s_l_equal : Stmt := top 28
theorem sc_l_equal : FnScope ["_law_counts", "_law_model_here", "_law_told_here", "_law_pair"] ["_law_counts", "_law_model_here"] (defScope s_l_equal) :=
  ⟨rfl, rfl, rfl, by decide +kernel, rfl, by decide +kernel, by decide +kernel⟩
abbrev s_l_divisor : Stmt := top 29
theorem sc_l_divisor : FnScope ["_law_source_here", "_law_pairs_here", "_law_divisor_here", "_law_below", "_law_k", "_law_word_here", "_law_number_here"] ["_law_source_here", "_law_pairs_here"] (defScope s_l_divisor) :=
  ⟨rfl, rfl, rfl, by decide +kernel, rfl, by decide +kernel, by decide +kernel⟩
abbrev s_l_due : Stmt := top 30
theorem sc_l_due : FnScope ["_law_divisor_here", "_law_told_here", "_law_word_here", "_law_number_here"] ["_law_divisor_here"] (defScope s_l_due) :=
  ⟨rfl, rfl, rfl, by decide +kernel, rfl, by decide +kernel, by decide +kernel⟩
abbrev s_l_refused : Stmt := top 31
theorem sc_l_refused : FnScope ["_law_counts", "_law_divisor_here", "_law_word_here", "_law_found", "e"] ["_law_counts", "_law_divisor_here", "_law_word_here"] (defScope s_l_refused) :=
  ⟨rfl, rfl, rfl, by decide +kernel, rfl, by decide +kernel, by decide +kernel⟩
abbrev s_l_fits : Stmt := top 32
theorem sc_l_fits : FnScope ["_law_times", "_law_model_here", "_law_divisor_here", "_law_word_here"] ["_law_times", "_law_model_here", "_law_divisor_here"] (defScope s_l_fits) :=
  ⟨rfl, rfl, rfl, by decide +kernel, rfl, by decide +kernel, by decide +kernel⟩
abbrev s_law : Stmt := top 33
theorem sc_law : FnScope ["_law_script", "_law_source_here", "_law_pairs_here", "_law_model_here", "_law_divisor_here", "_law_counts", "_law_by", "_law_due_here", "_law_times", "_law_rest", "_law_word_here"] ["_law_script"] (defScope s_law) :=
  ⟨rfl, rfl, rfl, by decide +kernel, rfl, by decide +kernel, by decide +kernel⟩
end Cs

set_option Elab.async false
set_option linter.all false
set_option maxRecDepth 100000
set_option maxHeartbeats 4000000
/-! Sets of texts as a set comprehension makes them: a list of members without repeats, up to order; and sorted(..) of such a set. -/
namespace Cs
open PySem PySem.Spec PyProof.Rows L2

def tkey (e : Int × Value) : Str := match e.2 with | .str z _ => z | _ => Str.empty
def TGood (w : World) (e : Int × Value) : Prop := ∃ z tk, e.2 = Value.str z tk ∧ e.1 = hashStr w z
/-- a set object whose members are the texts zs (in some order) -/
def TSet (w : World) (h : Heap) (a : Addr) (zs : List Str) : Prop :=
  ∃ o es ep t, h.get? a = some o ∧ o.ExactSet ∧ o.data = .set es ep t ∧ (∀ e ∈ es.toList, TGood w e)
    ∧ (es.toList.map tkey).Perm zs ∧ zs.Nodup ∧ es.size < scanBound ∧ t.fits es.size = true
    ∧ Ris t.place.toList ∧ (w.params.followText "set-order" = true ∨ t.led = true)

section
variable {P : Program} {w : World} {h h' : Heap} {a : Addr} {zs : List Str}
theorem TSet.there (R : TSet w h a zs) (k : ∀ o, h.get? a = some o → h'.get? a = some o) : TSet w h' a zs := by
  obtain ⟨o, es, ep, t, q, r⟩ := R
  exact ⟨o, es, ep, t, k o q, r⟩
theorem TGood.elems {l : List (Int × Value)} (g : ∀ e ∈ l, TGood w e) : ElemsOf (PySem.strKind P w) l := fun e m => by
  obtain ⟨z, tk, e1, e2⟩ := g e m
  refine ⟨⟨z, ?_, e2⟩, ?_⟩
  · rw [e1]
    show Value.isStrOf z (.str z tk) = true
    simp [Value.isStrOf]
  · rw [e1]
    rfl
theorem TGood.is_iff {e : Int × Value} (g : TGood w e) (z : Str) : (PySem.strKind P w).is z e.2 = true ↔ tkey e = z := by
  obtain ⟨y, tk, e1, _⟩ := g
  unfold tkey
  rw [e1]
  show Value.isStrOf z (.str y tk) = true ↔ y = z
  simp [Value.isStrOf]
theorem TGood.mem_iff {l : List (Int × Value)} (g : ∀ e ∈ l, TGood w e) (z : Str) : z ∈ l.map tkey ↔ ∃ e ∈ l, (PySem.strKind P w).is z e.2 = true := by
  constructor
  · intro m
    obtain ⟨e, he, q⟩ := List.mem_map.mp m
    exact ⟨e, he, (TGood.is_iff (g e he) z).mpr q⟩
  · rintro ⟨e, he, q⟩
    exact List.mem_map.mpr ⟨e, he, (TGood.is_iff (g e he) z).mp q⟩
end

section
variable {P : Program} {w : World} {A : Around} {E : Value → Shared → Prop} {s : Shared} {a : Addr} {zs : List Str}
/-- the end of an addition: the table is stored, laid anew where it is too full -/
theorem tset_tail {g : Bool → Sem Unit} (hg : ∀ (b : Bool) (s1 : Shared) (Q1 : Unit → Shared → Prop), Q1 () s1 → wpAny (model P w) A (g b) Q1 E s1)
    {o : Obj} {es es1 : Array (Int × Value)} {ep : Nat} {t t1 : SetTable} (ho : s.heap.get? a = some o) (hex : o.ExactSet) (hd : o.data = .set es ep t)
    (gd : ∀ e ∈ es1.toList, TGood w e) (pz : (es1.toList.map tkey).Perm zs) (nz : zs.Nodup) (hb : es1.size < scanBound) (hf : t1.fits es1.size = true)
    (hr : Ris t1.place.toList) (hl : w.params.followText "set-order" = true ∨ t1.led = true) {dm : Bool} {R : Option Bool → Shared → Prop}
    (hR : ∀ h', Heap.SameBut a s.heap h' → TSet w h' a zs → R (some true) { s with heap := h' }) :
    wpAny (model P w) A (do
        storeSet a es1 t1
        if (!dm && t1.tooFull) = true then do
            g (relayAll t1 es1 (SetTable.grown es1.size)).2.2
            storeSet a (relayAll t1 es1 (SetTable.grown es1.size)).1 (relayAll t1 es1 (SetTable.grown es1.size)).2.1
            pure (some true)
          else pure (some true)) R E s := by
  refine wpAny_bind (wpAny_storeSet_of ho hd ?_ (fits_of_scanBound hb))
  have ho1 := store_at (es' := es1) (t' := t1) ho hd
  have same := Heap.SameBut.update s.heap a (Obj.putSet es1 t1)
  split
  · have p2 := relayAll_perm t1 es1 (SetTable.grown es1.size)
    have f2 := relayAll_fits t1 es1 (SetTable.grown es1.size)
    have r2 := relayAll_ris t1 es1 (SetTable.grown es1.size)
    have l2 := relayAll_led t1 es1 (SetTable.grown es1.size)
    generalize relayAll t1 es1 (SetTable.grown es1.size) = Z at p2 f2 r2 l2 ⊢
    obtain ⟨es2, t2, gv⟩ := Z
    dsimp only at p2 f2 r2 l2 ⊢
    have sz : es2.size = es1.size := by rw [← Array.length_toList, p2.length_eq, Array.length_toList]
    have hb2 : es2.size < scanBound := sz ▸ hb
    refine wpAny_bind (hg _ _ _ (wpAny_bind (wpAny_storeSet_of ho1 rfl ?_ (fits_of_scanBound hb2))))
    have ho2 := store_at (es' := es2) (t' := t2) ho1 rfl
    exact wpAny_pure (hR _ (same.trans (Heap.SameBut.update _ a _)) ⟨_, es2, _, t2, ho2, hex, rfl, fun e m => gd e (p2.mem_iff.mp m), (p2.map tkey).trans pz, nz, hb2, f2, r2, hl.imp id fun q => by rw [l2]; exact q⟩)
  · exact wpAny_pure (hR _ same ⟨_, es1, _, t1, ho1, hex, rfl, gd, pz, nz, hb, hf, hr, hl⟩)

/-- one text more -/
def addT (zs : List Str) (z : Str) : List Str := if z ∈ zs then zs else zs ++ [z]

theorem tset_hashed {z : Str} {tk : Tok} {Q : Bool → Shared → Prop} (R : TSet w s.heap a zs) (room : zs.length + 1 < scanBound)
    (hQ : ∀ b h', Heap.SameBut a s.heap h' → TSet w h' a (addT zs z) → Q b { s with heap := h' }) :
    wpAny (model P w) A (setAddHashed a (.str z tk) ((PySem.strKind P w).hash z)) Q E s := by
  obtain ⟨o, es, ep, t, ho, hex, hd, gd, pz, nz, hb, hf, hr, hl⟩ := R
  have hkey : (PySem.strKind P w).is z (.str z tk) = true := by
    show Value.isStrOf z (.str z tk) = true
    simp [Value.isStrOf]
  have hsc : (Value.str z tk).scannable = true := rfl
  have hel : ElemsOf (PySem.strKind P w) es.toList := TGood.elems gd
  have hn : es.size = zs.length := by rw [← Array.length_toList, ← pz.length_eq, List.length_map]
  unfold setAddHashed setAddHashedIn
  refine wpAny_holding (wpAny_bind (wpAny_setState_of ho hd hf ?_))
  dsimp only
  rw [byScan_of hsc hb hel]
  simp only [↓reduceIte]
  unfold setAddByScan
  refine wpAny_bind (wpAny_bind (wpAny_rule (wpAny_bind (wpAny_setScan_of hkey ho hd hf hel ?_))))
  cases hfi : List.findIdx? (fun e => (PySem.strKind P w).is z e.2) es.toList with
  | some j =>
    dsimp only
    obtain ⟨hj, pj, _⟩ := List.findIdx?_eq_some_iff_getElem.mp hfi
    have hin : z ∈ zs := pz.mem_iff.mp ((TGood.mem_iff (P := P) gd z).mpr ⟨_, List.getElem_mem hj, pj⟩)
    have q := hQ false s.heap (Heap.SameBut.refl a s.heap)
    rw [show addT zs z = zs from if_pos hin] at q
    exact wpAny_pure (wpAny_pure (q ⟨o, es, ep, t, ho, hex, hd, gd, pz, nz, hb, hf, hr, hl⟩))
  | none =>
    dsimp only
    have hout : z ∉ zs := fun m => by
      obtain ⟨e, he, q⟩ := (TGood.mem_iff (P := P) (w := w) gd z).mp (pz.mem_iff.mpr m)
      have c := List.findIdx?_eq_none_iff.mp hfi e he
      rw [q] at c
      cases c
    have hgw : ∀ (b : Bool) {s1 : Shared} {Q1 : Unit → Shared → Prop}, Q1 () s1 → wpAny (model P w) A (match b with | true => rule "set.scan.the-table-gave-way" | false => pure ()) Q1 E s1 :=
      fun b s1 Q1 q => by cases b <;> first | exact wpAny_pure q | exact wpAny_rule q
    have p1 := layNew_perm t es ((PySem.strKind P w).hash z) (.str z tk)
    have f1 := layNew_fits t es ((PySem.strKind P w).hash z) (.str z tk)
    have r1 := layNew_ris t es ((PySem.strKind P w).hash z) (.str z tk) hr
    have l1 := layNew_led t es ((PySem.strKind P w).hash z) (.str z tk)
    generalize layNew t es ((PySem.strKind P w).hash z) (.str z tk) = Z at p1 f1 r1 l1 ⊢
    obtain ⟨es1, t1, dm, gv⟩ := Z
    dsimp only at p1 f1 r1 l1 ⊢
    rw [Array.toList_push] at p1
    have gd1 : ∀ e ∈ es1.toList, TGood w e := fun e m => by
      rcases List.mem_append.mp (p1.mem_iff.mp m) with q | q
      · exact gd e q
      · rw [List.mem_singleton.mp q]
        exact ⟨z, tk, rfl, rfl⟩
    have ez : addT zs z = zs ++ [z] := if_neg hout
    have pz1 : (es1.toList.map tkey).Perm (addT zs z) := by
      rw [ez]
      refine (p1.map tkey).trans ?_
      rw [List.map_append]
      exact pz.append_right _
    have nz1 : (addT zs z).Nodup := by
      rw [ez]
      exact nd_snoc nz hout
    have sz1 : es1.size = zs.length + 1 := by
      rw [← Array.length_toList, p1.length_eq, List.length_append, Array.length_toList, hn]
      rfl
    have hb1 : es1.size < scanBound := by rw [sz1]; exact room
    have hl1 : w.params.followText "set-order" = true ∨ t1.led = true := hl.imp id fun q => by rw [l1]; exact q
    have fin : ∀ h', Heap.SameBut a s.heap h' → TSet w h' a (addT zs z) → Q true { s with heap := h' } := hQ true
    refine wpAny_bind (hgw _ ?_)
    split
    · refine wpAny_bind ?_
      rw [hashByValue_scannable 8 hsc]
      refine wpAny_pure ?_
      refine tset_tail ?_ ho hex hd gd1 pz1 nz1 hb1 ?_ ?_ ?_ ?_
      · intro b s1 Q1 q
        cases b <;> first | exact wpAny_pure q | exact wpAny_rule q
      · first | (split <;> first | exact f1 | exact SetTable.fits_plain_off f1) | exact f1
      · first | (split <;> exact r1) | exact r1
      · first | (split <;> exact hl1) | exact hl1
      · intro h' sb r
        dsimp only
        exact wpAny_pure (fin h' sb r)
    · refine wpAny_bind (wpAny_pure ?_)
      simp only [↓reduceIte]
      refine tset_tail ?_ ho hex hd gd1 pz1 nz1 hb1 f1 r1 hl1 ?_
      · intro b s1 Q1 q
        cases b <;> first | exact wpAny_pure q | exact wpAny_rule q
      · intro h' sb r
        dsimp only
        exact wpAny_pure (fin h' sb r)

theorem TSet.typeIs {zs : List Str} (R : TSet w s.heap a zs) : s.TypeIs (.ref a) "set" := by
  obtain ⟨o, es, ep, t, ho, hex, _⟩ := R
  exact ⟨o, ho, hex.1⟩
/-- s.add(z) -/
theorem tset_add {z : Str} {tk : Tok} {Q : Value → Shared → Prop} (R : TSet w s.heap a zs) (room : zs.length + 1 < scanBound)
    (hQ : ∀ h', Heap.SameBut a s.heap h' → TSet w h' a (addT zs z) → Q .none { s with heap := h', toks := s.toks + 1 }) :
    wpAny (model P w) A (call (.builtin "set.add") [.ref a, .str z tk]) Q E s := by
  have hkey : (PySem.strKind P w).is z (.str z tk) = true := by
    show Value.isStrOf z (.str z tk) = true
    simp [Value.isStrOf]
  refine wpAny_call_entry F.slot_set_add R.typeIs F.entry_set_add ?_ (F.args_set_add_2 _ _)
  unfold Builtin.«set.add» Builtin.Frozenset.oneOther
  simp only [List.isEmpty_nil, bind_assoc]
  unfold Builtin.Frozenset.addrOf setAdd
  refine wpAny_bind (wpAny_pure ?_)
  try dsimp only
  refine wpAny_bind (wpAny_pure ?_)
  try dsimp only
  refine wpAny_bind (wpAny_holding (wpAny_bind ((PySem.strKind P w).pyHash hkey ?_)))
  refine tset_hashed (s := { s with toks := s.toks + 1 }) R room fun b h' sb r => ?_
  show wpAny _ _ (ret Value.none) _ _ _
  exact wpAny_pure ⟨_, rfl, hQ h' sb r⟩
theorem tset_fresh {h : Heap} (w : World) : TSet w (h.push { cls := .type "set", dict := none, data := .set #[] 0 (.fresh 0 0 (!w.params.followText "set-order")) }) h.objs.size [] := by
  refine ⟨_, #[], 0, _, Heap.get?_push_size _ rfl, ⟨rfl, rfl, rfl⟩, rfl, (fun e m => by simp at m), .nil, .nil, by decide, rfl, .nil, ?_⟩
  show _ ∨ (!w.params.followText "set-order") = true
  cases w.params.followText "set-order"
  · exact Or.inr rfl
  · exact Or.inl rfl

/-! ### sorted -/
theorem strs_of : ∀ (l : List Value), (∀ v ∈ l, ∃ z tk, v = Value.str z tk) → StrsAre l (l.map fun v => tkey (0, v))
  | [], _ => .nil
  | v :: l, h => by
    obtain ⟨z, tk, rfl⟩ := h v List.mem_cons_self
    exact .cons z tk (strs_of l fun u m => h u (List.mem_cons_of_mem _ m))
theorem tset_sorted {Q : Value → Shared → Prop} (R : TSet w s.heap a zs) (hh : A.handled = none)
    (hQ : ∀ s' p (out : Array Value) (c : Nat) (ys : List Str), (∀ b o, s.heap.get? b = some o → s'.heap.get? b = some o) → s'.gens = s.gens → s'.os = s.os → s.heap.objs.size ≤ p →
      s'.heap.get? p = some (seqObj "list" out c) → StrsAre out.toList ys → ys.Perm zs → sortedS ys = true → Q (.ref p) s') :
    wpAny (model P w) A (call (.builtin "sorted") [.ref a]) Q E s := by
  obtain ⟨o, es, ep, t, ho, hex, hd, gd, pz, nz, hb, hf, hr, hl⟩ := R
  refine Calls.call_function_entry kind_sorted plain_sorted entry_sorted (args_sorted1 _) ?_
  unfold Builtin.«sorted»
  refine wpAny_bind (m := checkCount "sorted" 1 1 _) (wpAny_pure ?_)
  refine wpAny_bind (collect_set (A := A.in1) hh ⟨o, ho, hex.1, hd⟩ hf hb hr hl fun s1 vs k1 hz g1 o1 pm => ?_)
  have hvl : vs.length = es.size := by rw [pm.length_eq, List.length_map, Array.length_toList]
  have hS : StrsAre vs (vs.map fun v => tkey (0, v)) := strs_of vs fun v hv => by
    obtain ⟨e, he, q⟩ := List.mem_map.mp (pm.mem_iff.mp hv)
    obtain ⟨z, tk, e1, _⟩ := gd e he
    exact ⟨z, tk, by rw [← q]; exact e1⟩
  have pk : (vs.map fun v => tkey (0, v)).Perm zs := by
    have q := pm.map fun v => tkey (0, v)
    rw [List.map_map] at q
    exact q.trans pz
  have hln : vs.length ≤ sizeLine := by
    rw [hvl]
    exact fits_of_scanBound hb
  refine wpAny_bind (wpAny_newList ?_ hln)
  have hoL : (s1.heap.push (seqObj "list" vs.toArray 0)).get? s1.heap.objs.size = some (seqObj "list" vs.toArray 0) := Heap.get?_push_size _ rfl
  refine wpAny_bind (wpAny_holding (wpAny_call_entry slot_list_sort ⟨_, hoL, rfl⟩ entry_list_sort (list_sort_treeKAny strKind_oneLt hoL hS.keysOf (fun v1 v2 rest e => keyKind_strs (by rw [← e]; exact hS)) hln fun st' hp hs => ⟨_, rfl, ?_⟩) (args_list_sort _)))
  obtain ⟨ys, a1, a2, a3⟩ := sorted_out_str hS hp hs
  generalize (arrOf st').map (·.2) = out at a1 ⊢
  obtain ⟨c, hc⟩ := sortedHeap_at (vs := vs) (out := out) hoL
  refine wpAny_pure ⟨_, rfl, hQ _ s1.heap.objs.size out c ys (fun b u e => ?_) g1 o1 hz hc a1 (a2.trans pk) a3⟩
  have q := k1 b u e
  have hlt := Heap.lt_size q
  show (sortedHeap (s1.heap.push (seqObj "list" vs.toArray 0)) s1.heap.objs.size vs out).get? b = some u
  rw [sortedHeap_old (Nat.ne_of_lt hlt) (by rw [size_push']; exact Nat.lt_succ_of_lt hlt)]
  exact Heap.get?_push_of_some _ q
end

/-! ### over the abstract heap -/
def TSetO (w : World) (a : Addr) (zs : List Str) : HO := .ext fun h => TSet w h a zs
theorem tsetO_new {w : World} {P : Program} {H : Hp} {h : Heap} {a : Addr} {zs : List Str} (R : TSet w h a zs) : ObjOk P w H h a (TSetO w a zs) := by
  have ⟨o, _, _, _, ho, _⟩ := R
  exact ⟨R, ⟨o, ho⟩, fun h1 h2 p k => TSet.there p k⟩
section
variable {X : Cx} {pins : List (Addr × Obj)} {σ : L2.St} {H : Hp} {s : Shared} {zs : List Str}
theorem tsetO_get {a : Addr} (I : Inv X pins σ H s) (ha : H a = some (TSetO X.w a zs)) : TSet X.w s.heap a zs := (I.hok a _ ha).1
theorem tsetO_add {E : Value → Shared → Prop} {D : Addr} {z : Str} {tk : Tok} {Q : Value → Shared → Prop} (I : Inv X pins σ H s) (hD : H D = some (TSetO X.w D zs)) (room : zs.length + 1 < scanBound)
    (h : ∀ s', Inv X pins σ (upd H D (TSetO X.w D (addT zs z))) s' → Q .none s') : wpAny (model X.prog X.w) X.A (call (.builtin "set.add") [.ref D, .str z tk]) Q E s := by
  refine tset_add (tsetO_get I hD) room fun h' sb new => h _ ?_
  have he : ∃ u, h'.get? D = some u := by
    have ⟨o, _, _, _, ho, _⟩ := new
    exact ⟨o, ho⟩
  exact I.write (e := D) (t' := s.toks + 1) (by rw [hD]; trivial) (.inl rfl) (fun b u hb hu => (sb.2 b hb).trans hu) he (tsetO_new new)
/-- sorted(s), s a set of texts -/
def rSortT (w : World) : List V → Hp → VK → Prop := fun vs H Q => ∃ (a : Addr) (zs : List Str), vs = [V.ref a] ∧ H a = some (TSetO w a zs) ∧ zs.length ≤ 100000 ∧
  ∀ (ys : List Str) (p : Addr), ys.Perm zs → sortedS ys = true → H p = none → Q (.ref p) (upd H p (.lst (ys.map V.str)))
theorem cr_sortT (hc : X.calm = true) : CallR X (.builtin "sorted") (rSortT X.w) := by
  intro pins s σ H vs us Q I r h
  obtain ⟨a, zs, rfl, ha, hz, q⟩ := h
  rw [Vals.ref1 r]
  refine tset_sorted (tsetO_get I ha) (I.ok.hd hc) fun s' p out c ys k g o hp hg hS hperm hsrt => ?_
  have hlen : (ys.map V.str).length ≤ sizeLine := by
    rw [List.length_map, hperm.length_eq]
    exact Nat.le_trans hz (by decide)
  have hn : H p = none := I.hok.fresh hp
  have J : Inv X pins σ (upd H p (.lst (ys.map V.str))) { s with heap := s'.heap, gens := s'.gens, drawn := s'.drawn, toks := s'.toks } :=
    I.call (ch := []) (Un.laid k hp hn) (I.hok.laid k hp ⟨hlen, out.toList, c, vals_of_strs hS, hg⟩) (by rw [g]; exact I.bare) (fun _ m => nomatch m)
  have e : s' = { s with heap := s'.heap, gens := s'.gens, drawn := s'.drawn, toks := s'.toks } := by
    cases s'
    cases s
    cases o
    rfl
  rw [e]
  exact ⟨.ref p, _, J, rfl, q ys p hperm hsrt hn⟩
end
end Cs

set_option Elab.async false
set_option linter.all false
set_option maxRecDepth 100000
set_option maxHeartbeats 4000000
/-! {elt for target in iter if ..} where elt is a text. -/
namespace Cs
open PySem PySem.Spec PyProof.Rows L2

/-- one turn of such a comprehension: the text that comes is put into the set at D -/
def tScT (w : World) (wi : TI) (g : TG) (tt : TT) (te : TE) (vs : List Nat) : TE := fun σ H Q => wi σ H fun J H1 => ∀ D, H1 D = none →
  ∃ W : Nat → Nat → Hp → Prop, (∃ m, W 0 m (upd H1 D (TSetO w D []))) ∧ ∀ i m H, W i m H →
  (J.stop i H ∧ Q (.ref D) H) ∨ (J.go i H ∧ ∃ Nx : Hp → Prop, (∀ H', Nx H' → ∃ m', m' < m ∧ W (i + 1) m' H') ∧
    ∀ x H', J.yld i H x H' → g x (wipe σ vs) H' fun σ2 H2 => wipe σ2 vs = wipe σ vs ∧ tt σ2 H2 fun b H3 =>
    if b = true then te σ2 H3 fun y H4 => ∃ (z : Str) (zs : List Str), y = .str z ∧ H4 D = some (TSetO w D zs) ∧ zs.length + 1 < scanBound ∧ Nx (upd H4 D (TSetO w D (addT zs z))) else Nx H3)
section
variable {X : Cx}
theorem scT_core {pins : List (Addr × Obj)} {s : Shared} {σ : L2.St} {H : Hp} {Q : VK} {elt tg iter : Expr} {ifs : List Expr} {scope : Scope} {own : List (PySem.Str × Nat)} {pos pos' : Pos}
    {wi : TI} {g : TG} {tt : TT} {te : TE} {use : Option (Value → Sem Unit)} {Qf : Value → Shared → Prop}
    (hc : X.calm = true) (hN : X.N.Nodup) (I : Inv X pins σ H s) (hi : PI X tg iter wi) (ok : BlkOk X.N X.env.scope scope own)
    (hg : ∀ (s : Shared) (H : Hp) (C : Addr) (cl : List (PySem.Str × Addr)) (fp : List Addr), PG (X.blk s H scope (compEnvC scope cl C X.env) fp) tg g)
    (ht : ∀ (s : Shared) (H : Hp) (C : Addr) (cl : List (PySem.Str × Addr)) (fp : List Addr), PTs (X.blk s H scope (compEnvC scope cl C X.env) fp) ifs tt)
    (he : ∀ (s : Shared) (H : Hp) (C : Addr) (cl : List (PySem.Str × Addr)) (fp : List Addr), PE (X.blk s H scope (compEnvC scope cl C X.env) fp) elt te)
    (hs : ∀ x, foldedSetIterable iter X.env x = pure x) (h : tScT X.w wi g tt te (own.map (·.2)) σ H Q)
    (hRR : ∀ D C s' m H', Inv X pins σ H' s' → Q (.ref D) H' → s'.heap.Ns C m → FpOk X pins H' C → compPost (model X.prog X.w) X.A X.xe use Qf (.ref D) C (.ok .next) s') :
    wpAny (model X.prog X.w) X.A (comprehension (.SetComp elt [⟨tg, iter, ifs, 0⟩] scope pos) scope X.env pos' (newSet (.type "set")) false (eval iter X.env) use) Qf X.xe s := by
  have cells : ∀ y ∈ scope.names, y.2 = .free → ∃ c, X.env.cells.lookup y.1 = some c := fun y hy e => (ok.free y hy e).elim (fun k => I.ok.has _ (.inl k)) fun k => I.ok.has _ (.inr k)
  refine wpAny_comprehension_free (use := use) rfl hs (closure_ok cells) ok.kind (fun y hy e => by rw [ok.uniq y hy, e]) (thn (hi.run pins s σ H _ I h) fun xv sA hx => thn hx fun itv sB hB => ?_)
  obtain ⟨it, fp, tn, J, HB, e, IB, T, stB, fB, q⟩ := hB
  subst e
  refine PpSet.newSet_ok (newEnv_comp ?_)
  generalize hD : sB.heap.objs.size = D
  obtain ⟨W, ⟨m0, w0⟩, turn⟩ := q D (IB.hok.fresh (Nat.le_of_eq hD))
  generalize hsC : ({ sB with heap := sB.heap.push { cls := .type "set", dict := none, data := .set #[] 0 (.fresh 0 0 (!X.w.params.followText "set-order")) } } : Shared) = sC
  have hpC : sC.heap = sB.heap.push { cls := .type "set", dict := none, data := .set #[] 0 (.fresh 0 0 (!X.w.params.followText "set-order")) } := by rw [← hsC]
  generalize hHC : upd HB D (TSetO X.w D []) = HC at w0
  have IC : Inv X pins σ HC sC := by
    rw [← hsC, ← hHC]
    refine IB.laid (t' := sB.toks) (fun b o e => Heap.get?_push_of_some _ e) (Nat.le_of_eq hD) ?_
    rw [← hD]
    exact tsetO_new (tset_fresh X.w)
  have below : ∀ b ∈ fp, b < sB.heap.objs.size := fun b hb => (T.obj _ _ stB b hb).elim fun o z => Heap.lt_size z.1
  have fC : ∀ b ∈ fp, FpOk X pins HC b ∧ b < sC.heap.objs.size := fun b hb => by
    have lt := below b hb
    refine ⟨⟨?_, (fB b hb).2⟩, by rw [hpC, Heap.size_push]; exact Nat.lt_succ_of_lt lt⟩
    rw [← hHC, upd_ne (by rw [← hD]; exact Nat.ne_of_lt lt)]
    exact (fB b hb).1
  have stC : tn 0 sC.heap := T.keep _ _ _ stB fun b _ o e => by rw [hpC]; exact Heap.get?_push_of_some _ e
  have IK := block_start IC ok hN fC
  show codeAny _ _ (.compStart (.SetComp elt [⟨tg, iter, ifs, 0⟩] scope pos) 0 (.ref it) (.ref D) (compEnvC scope (cellsFrom (sC.heap.objs.size + 1) scope.names (cloFrom X.env.cells scope.names [])) sC.heap.objs.size X.env))
    (compPost (model X.prog X.w) X.A X.xe use Qf (.ref D) sC.heap.objs.size) { sC with heap := pushCells (sC.heap.push { cls := .type "dict", data := .dict #[] }) scope.names }
  generalize cellsFrom (sC.heap.objs.size + 1) scope.names (cloFrom X.env.cells scope.names []) = cl at IK ⊢
  have pg := hg sC HC sC.heap.objs.size cl fp
  have pt := ht sC HC sC.heap.objs.size cl fp
  have pe := he sC HC sC.heap.objs.size cl fp
  have nC : ∀ b ∈ fp, HC b = none := fun b hb => (fC b hb).1.1
  generalize hce : compEnvC scope cl sC.heap.objs.size X.env = ce at IK pg pt pe ⊢
  have locals : ce.locals = sC.heap.objs.size := by subst hce; rfl
  generalize hsK : ({ sC with heap := pushCells (sC.heap.push { cls := .type "dict", data := .dict #[] }) scope.names } : Shared) = sK at IK ⊢
  have stK : tn 0 sK.heap := T.keep _ _ _ stC fun b _ o e => by rw [← hsK]; exact pushCells_keeps _ _ _ _ (Heap.get?_push_of_some _ e)
  have stand : ∀ {σ' : L2.St} {H' : Hp} {s' : Shared}, Inv (X.blk sC HC scope ce fp) [] σ' H' s' → (∀ b ∈ fp, H' b = none) → ∀ b ∈ fp, FpOk (X.blk sC HC scope ce fp) [] H' b := fun {σ' H' s'} I' hn b hb =>
    ⟨hn b hb, (I'.ok.exf b hb).1, I'.ok.exfs b hb, .inl hb, fun x c e => (I'.ok.exf b hb).2 x c e, fun p hp => absurd (show p ∈ ([] : List (Addr × Obj)) ++ [] from hp) (by simp)⟩
  have loop : codeAny (model X.prog X.w) X.A (.compLoop (.SetComp elt [⟨tg, iter, ifs, 0⟩] scope pos) 0 (.ref it) (.ref D) ce) (compPost (model X.prog X.w) X.A X.xe use Qf (.ref D) sC.heap.objs.size) sK := by
    refine PpSet.compLoopS_any (fun n s' => ∃ i H', Inv (X.blk sC HC scope ce fp) [] (wipe σ (own.map (·.2))) H' s' ∧ tn i s'.heap ∧ (∀ b ∈ fp, H' b = none) ∧ W i n H') ?_ m0 ⟨0, HC, IK, stK, nC, w0⟩
    rintro n sL ⟨i, HL, IL, stL, nL, wL⟩
    rcases turn i n HL wL with ⟨stop, qq⟩ | ⟨go, Nx, hNx, step⟩
    · refine thnF (T.done (X.blk sC HC scope ce fp) rfl rfl rfl hc i [] sL _ HL (fun _ _ => False) IL (stand IL nL) stL stop) fun r sM ⟨hr, IM⟩ => ?_
      subst hr
      have IX : Inv X pins σ HL sM := IC.call' (ch := fp) IM.os IM.base IM.hok IM.bare fun b hb => ⟨(fC b hb).1.2.2.2.1, (fC b hb).1.2.1, (fC b hb).1.2.2.2.2.1, (fC b hb).1.2.2.2.2.2⟩
      have nl : HL sC.heap.objs.size = none := by
        have z : HL ce.locals = none := IM.free
        rw [locals] at z
        exact z
      obtain ⟨m, hn, _⟩ := IM.loc
      have hn : sM.heap.Ns ce.locals m := hn
      rw [locals] at hn
      exact hRR D sC.heap.objs.size sM m HL IX qq hn (IC.fpOk (Nat.le_refl _) nl)
    · refine thnF (T.item (X.blk sC HC scope ce fp) rfl rfl rfl hc i [] sL _ HL (fun _ _ => False) IL (stand IL nL) stL go) fun r sM ⟨u, hr, hM⟩ => ?_
      subst hr
      refine thnF hM fun _ sN ⟨x, HN, IN, rN, yN, stN, nN⟩ => ?_
      have INp := IN.pinned (stand IN nN) (T.obj _ _ stN)
      refine thnF (pg.run _ sN _ HN x u _ INp rN (step x HN yN)) fun _ sO ⟨σO, HO_, IO_, hwO, qO⟩ => ?_
      refine thnF (pt.run _ sO σO HO_ _ IO_ qO) fun b sP ⟨HP, IP, qP⟩ => ?_
      have fin : ∀ {s' : Shared} {H' : Hp}, Inv (X.blk sC HC scope ce fp) ([] ++ pinsAt fp sN.heap) σO H' s' → Nx H' →
          ∃ m, m < n ∧ ∃ i H', Inv (X.blk sC HC scope ce fp) [] (wipe σ (own.map (·.2))) H' s' ∧ tn i s'.heap ∧ (∀ b ∈ fp, H' b = none) ∧ W i m H' := fun {s' H'} I' nx => by
        obtain ⟨m', hm, w'⟩ := hNx H' nx
        have kept : ∀ b ∈ fp, ∀ o, sN.heap.get? b = some o → s'.heap.get? b = some o ∧ H' b = none := fun b hb o e =>
          let z := I'.pin (b, o) (List.mem_append_right _ (List.mem_append_right _ (mem_pinsAt hb e)))
          ⟨z.1, z.2.1⟩
        refine ⟨m', hm, i + 1, H', (I'.unpinned (pins := [])).weak (by rw [← hwO, wipe_length]) (fun j v e => ?_), T.keep _ _ _ stN fun b hb o e => (kept b hb o e).1, fun b hb => ?_, w'⟩
        · rw [← hwO] at e
          exact (wipe_some e).1
        · exact (T.obj _ _ stN b hb).elim fun o z => (kept b hb o z.1).2
      cases b with
      | false =>
        simp only [Bool.false_eq_true, if_false] at qP ⊢
        exact fin IP qP
      | true =>
        simp only [if_true] at qP ⊢
        refine thnF (pe.run _ sP σO HP _ IP qP) fun v sQ ⟨yv, HQ, IQ, rQ, z, zs, ey, hDQ, hzQ, nx⟩ => ?_
        subst ey
        obtain ⟨tk, rfl⟩ : ∃ tk, v = Value.str z tk := rQ
        exact tsetO_add (X := X.blk sC HC scope ce fp) IQ hDQ hzQ fun sR IR => fin IR nx
  exact PpSet.codeAny_compStart_set loop (T.self X.A 0 _ _ _ stK loop)
theorem pe_scT {elt tg iter : Expr} {ifs : List Expr} {scope : Scope} {own : List (PySem.Str × Nat)} {pos : Pos} {wi : TI} {g : TG} {tt : TT} {te : TE} (hc : X.calm = true) (hN : X.N.Nodup) (hi : PI X tg iter wi)
    (ok : BlkOk X.N X.env.scope scope own)
    (hg : ∀ (s : Shared) (H : Hp) (C : Addr) (cl : List (PySem.Str × Addr)) (fp : List Addr), PG (X.blk s H scope (compEnvC scope cl C X.env) fp) tg g)
    (ht : ∀ (s : Shared) (H : Hp) (C : Addr) (cl : List (PySem.Str × Addr)) (fp : List Addr), PTs (X.blk s H scope (compEnvC scope cl C X.env) fp) ifs tt)
    (he : ∀ (s : Shared) (H : Hp) (C : Addr) (cl : List (PySem.Str × Addr)) (fp : List Addr), PE (X.blk s H scope (compEnvC scope cl C X.env) fp) elt te)
    (hs : ∀ x, foldedSetIterable iter X.env x = pure x := by intro _; rfl) : PE X (.SetComp elt [⟨tg, iter, ifs, 0⟩] scope pos) (tScT X.w wi g tt te (own.map (·.2))) := by
  refine ⟨fun pins s σ H Q I h => ?_⟩
  rw [PpSet.eval_SetComp]
  refine scT_core hc hN I hi ok hg ht he hs h fun D C s' m H' I' q hn f => ⟨m, hn, fun h'' sb => ?_⟩
  obtain ⟨f0, f1, f2, f3, f4, f5⟩ := f
  exact ⟨.ref D, H', I'.turned (t' := s'.toks) (fun b o hb e => (sb.2 b hb).trans e) f0 f1 f3 f4 f5, rfl, q⟩
end
/-- the texts of a list, each once, by first place -/
def once (zs : List Str) : List Str := zs.foldl addT []
theorem once_snoc (zs : List Str) (z : Str) : once (zs ++ [z]) = addT (once zs) z := by
  unfold once
  rw [List.foldl_append]
  rfl
theorem once_len (zs : List Str) : (once zs).length ≤ zs.length := by
  have h : ∀ (l acc : List Str), (l.foldl addT acc).length ≤ acc.length + l.length := by
    intro l
    induction l with
    | nil => intro acc; exact Nat.le_refl _
    | cons z l ih =>
      intro acc
      have e := ih (addT acc z)
      have f : (addT acc z).length ≤ acc.length + 1 := by
        unfold addT
        split
        · omega
        · simp
      show (l.foldl addT (addT acc z)).length ≤ _
      rw [List.length_cons]
      omega
  have := h zs []
  simpa [once] using this
theorem once_mem (zs : List Str) (y : Str) : y ∈ once zs ↔ y ∈ zs := by
  have h : ∀ (l acc : List Str), y ∈ l.foldl addT acc ↔ y ∈ acc ∨ y ∈ l := by
    intro l
    induction l with
    | nil => intro acc; simp
    | cons z l ih =>
      intro acc
      show y ∈ l.foldl addT (addT acc z) ↔ _
      rw [ih]
      unfold addT
      split
      · rename_i m
        simp only [List.mem_cons]
        constructor
        · rintro (a | a)
          · exact .inl a
          · exact .inr (.inr a)
        · rintro (a | a | a)
          · exact .inl a
          · exact .inl (a ▸ m)
          · exact .inr a
      · simp only [List.mem_append, List.mem_cons, List.not_mem_nil, or_false, or_assoc]
  simpa [once] using h zs []
theorem once_nodup (zs : List Str) : (once zs).Nodup := by
  have h : ∀ (l acc : List Str), acc.Nodup → (l.foldl addT acc).Nodup := by
    intro l
    induction l with
    | nil => intro acc h; exact h
    | cons z l ih =>
      intro acc h
      refine ih _ ?_
      unfold addT
      split
      · exact h
      · rename_i m
        exact nd_snoc h m
  exact h zs [] .nil
end Cs

set_option Elab.async false
set_option linter.all false
set_option maxRecDepth 100000
set_option maxHeartbeats 4000000
/-! Plain laws: texts in order, tables of words and integers, what is told of a table. -/
namespace Cs
open PySem L2 PyProof.Rows
/-! ### the order of texts -/
def SLt (a b : Str) : Prop := a.cps.toList < b.cps.toList
theorem slt_irrefl (a : Str) : ¬ SLt a a := List.lt_irrefl _
theorem slt_trans {a b c : Str} (h : SLt a b) (k : SLt b c) : SLt a c := List.lt_trans h k
theorem str_ext {a b : Str} (h : a.cps.toList = b.cps.toList) : a = b := by
  cases a
  cases b
  congr
  exact Array.toList_inj.mp h
theorem slt_total {a b : Str} (h : ¬ SLt b a) (n : a ≠ b) : SLt a b := by
  have h1 : a.cps.toList ≤ b.cps.toList := List.not_lt.mp h
  apply Classical.byContradiction
  intro q
  exact n (str_ext (List.le_antisymm h1 (List.not_lt.mp q)))
theorem slt_of_le_lt {a b c : Str} (h : ¬ SLt b a) (k : SLt b c) : SLt a c := List.lt_of_le_of_lt (List.not_lt.mp h) k
/-- ascending, none twice -/
def Asc (zs : List Str) : Prop := zs.Pairwise SLt
theorem rising_pw : ∀ (r : List Str) (p : Str), risingS p r = true → (p :: r).Pairwise (fun a b => ¬ SLt b a)
  | [], p, _ => List.pairwise_singleton _ _
  | x :: r, p, h => by
    have h : (!PySem.Spec.ltCps x.cps.toList p.cps.toList && risingS x r) = true := h
    rw [Bool.and_eq_true, ltCps_eq] at h
    have ih := rising_pw r x h.2
    have h1 : ¬ SLt x p := by
      have := h.1
      intro q
      rw [decide_eq_true (show x.cps.toList < p.cps.toList from q)] at this
      cases this
    refine List.pairwise_cons.mpr ⟨fun y hy => ?_, ih⟩
    rcases List.mem_cons.mp hy with e | e
    · rw [e]
      exact h1
    · have h2 := (List.pairwise_cons.mp ih).1 y e
      exact fun q => h1 (slt_of_le_lt h2 q)
theorem sorted_pw : ∀ {zs : List Str}, sortedS zs = true → zs.Pairwise (fun a b => ¬ SLt b a)
  | [], _ => .nil
  | x :: r, h => rising_pw r x h
theorem asc_of_sorted {zs : List Str} (h : sortedS zs = true) (n : zs.Nodup) : Asc zs := by
  have a := sorted_pw h
  have b : zs.Pairwise (fun a b => ¬ SLt b a ∧ a ≠ b) := a.and n
  exact b.imp fun h => slt_total h.1 h.2
theorem Asc.nodup {zs : List Str} (h : Asc zs) : zs.Nodup := h.imp fun {a b} (q : SLt a b) (e : a = b) => slt_irrefl a (by rw [← e] at q; exact q)
/-- ascending lists with the same members are one -/
theorem asc_eq : ∀ {xs ys : List Str}, Asc xs → Asc ys → (∀ z, z ∈ xs ↔ z ∈ ys) → xs = ys
  | [], [], _, _, _ => rfl
  | [], y :: ys, _, _, h => absurd ((h y).mpr List.mem_cons_self) (by simp)
  | x :: xs, [], _, _, h => absurd ((h x).mp List.mem_cons_self) (by simp)
  | x :: xs, y :: ys, a, b, h => by
    obtain ⟨a1, a2⟩ := List.pairwise_cons.mp a
    obtain ⟨b1, b2⟩ := List.pairwise_cons.mp b
    have e : x = y := by
      rcases List.mem_cons.mp ((h x).mp List.mem_cons_self) with e | e
      · exact e
      · rcases List.mem_cons.mp ((h y).mpr List.mem_cons_self) with f | f
        · exact f.symm
        · exact absurd (slt_trans (a1 y f) (b1 x e)) (slt_irrefl x)
    subst e
    rw [asc_eq a2 b2 fun z => ?_]
    constructor
    · intro m
      rcases List.mem_cons.mp ((h z).mp (List.mem_cons_of_mem _ m)) with e | e
      · exact absurd (e ▸ a1 z m) (slt_irrefl _)
      · exact e
    · intro m
      rcases List.mem_cons.mp ((h z).mpr (List.mem_cons_of_mem _ m)) with e | e
      · exact absurd (e ▸ b1 z m) (slt_irrefl _)
      · exact e
/-! ### tables -/
abbrev Tab := List (Str × Int)
def keys (t : Tab) : List Str := t.map (·.1)
def look (t : Tab) (z : Str) : Option Int := (t.find? fun q => decide (q.1 = z)).map (·.2)
def val (t : Tab) (z : Str) : Int := (look t z).getD 0
def put (t : Tab) (z : Str) (n : Int) : Tab := if (t.any fun q => decide (q.1 = z)) = true then t.map (fun q => if q.1 = z then (q.1, n) else q) else t ++ [(z, n)]
def drop (t : Tab) (z : Str) : Tab := t.filter fun q => decide (q.1 ≠ z)
theorem look_none : ∀ {t : Tab} {z : Str}, z ∉ keys t → look t z = none
  | [], _, _ => rfl
  | q :: t, z, h => by
    have h1 : q.1 ≠ z := fun e => h (by rw [← e]; exact List.mem_cons_self)
    have h2 : z ∉ keys t := fun m => h (List.mem_cons_of_mem _ m)
    have ih := look_none h2
    unfold look at ih ⊢
    rw [List.find?_cons, decide_eq_false h1]
    exact ih
theorem look_some : ∀ {t : Tab} {z : Str}, z ∈ keys t → ∃ n, look t z = some n ∧ (z, n) ∈ t
  | [], _, h => by simp [keys] at h
  | q :: t, z, h => by
    by_cases e : q.1 = z
    · refine ⟨q.2, ?_, ?_⟩
      · unfold look
        rw [List.find?_cons, decide_eq_true e]
        rfl
      · rw [← e]
        exact List.mem_cons_self
    · have h2 : z ∈ keys t := (List.mem_cons.mp h).resolve_left fun q => e q.symm
      obtain ⟨n, a, b⟩ := look_some h2
      refine ⟨n, ?_, List.mem_cons_of_mem _ b⟩
      unfold look at a ⊢
      rw [List.find?_cons, decide_eq_false e]
      exact a
theorem look_mem {t : Tab} (nd : (keys t).Nodup) {z : Str} {n : Int} (h : (z, n) ∈ t) : look t z = some n := by
  induction t with
  | nil => cases h
  | cons q t ih =>
    obtain ⟨n1, n2⟩ := List.nodup_cons.mp (show (q.1 :: keys t).Nodup from nd)
    rcases List.mem_cons.mp h with e | e
    · subst e
      unfold look
      rw [List.find?_cons, decide_eq_true rfl]
      rfl
    · have h1 : q.1 ≠ z := fun f => n1 (f ▸ List.mem_map.mpr ⟨_, e, rfl⟩)
      have := ih n2 e
      unfold look at this ⊢
      rw [List.find?_cons, decide_eq_false h1]
      exact this
theorem any_keys (t : Tab) (z : Str) : (t.any fun q => decide (q.1 = z)) = decide (z ∈ keys t) := by
  rw [Bool.eq_iff_iff, List.any_eq_true, decide_eq_true_eq]
  constructor
  · rintro ⟨q, m, e⟩
    exact List.mem_map.mpr ⟨q, m, of_decide_eq_true e⟩
  · intro m
    obtain ⟨q, m, e⟩ := List.mem_map.mp m
    exact ⟨q, m, decide_eq_true e⟩
theorem keys_put (t : Tab) (z : Str) (n : Int) : keys (put t z n) = if z ∈ keys t then keys t else keys t ++ [z] := by
  unfold put
  rw [any_keys]
  by_cases h : z ∈ keys t
  · rw [if_pos (decide_eq_true h), if_pos h]
    unfold keys
    rw [List.map_map]
    apply List.map_congr_left
    intro q _
    simp only [Function.comp]
    split <;> rfl
  · rw [if_neg (by simpa using h), if_neg h]
    unfold keys
    rw [List.map_append]
    rfl
theorem mem_keys_put {t : Tab} {z y : Str} {n : Int} : y ∈ keys (put t z n) ↔ y ∈ keys t ∨ y = z := by
  rw [keys_put]
  split
  · rename_i h
    exact ⟨.inl, fun q => q.elim id fun e => e ▸ h⟩
  · rw [List.mem_append, List.mem_singleton]
theorem nd_put {t : Tab} {z : Str} {n : Int} (h : (keys t).Nodup) : (keys (put t z n)).Nodup := by
  rw [keys_put]
  split
  · exact h
  · rename_i m
    exact nd_snoc h m
theorem mem_put {t : Tab} {z y : Str} {n m : Int} (h : (y, m) ∈ put t z n) : (y = z ∧ m = n) ∨ (y ≠ z ∧ (y, m) ∈ t) := by
  unfold put at h
  rw [any_keys] at h
  by_cases k : z ∈ keys t
  · rw [if_pos (decide_eq_true k)] at h
    obtain ⟨q, hq, e⟩ := List.mem_map.mp h
    by_cases c : q.1 = z
    · rw [if_pos c] at e
      left
      exact ⟨by rw [← c]; exact (congrArg Prod.fst e).symm, (congrArg Prod.snd e).symm⟩
    · rw [if_neg c] at e
      right
      subst e
      exact ⟨c, hq⟩
  · rw [if_neg (by simpa using k)] at h
    rcases List.mem_append.mp h with a | a
    · right
      exact ⟨fun e => k (e ▸ List.mem_map.mpr ⟨_, a, rfl⟩), a⟩
    · left
      have := List.mem_singleton.mp a
      exact ⟨congrArg Prod.fst this, congrArg Prod.snd this⟩
theorem look_put {t : Tab} {z y : Str} {n : Int} (h : (keys t).Nodup) : look (put t z n) y = if y = z then some n else look t y := by
  by_cases k : y ∈ keys (put t z n)
  · obtain ⟨m, a, b⟩ := look_some k
    rw [a]
    rcases mem_put b with ⟨e, f⟩ | ⟨e, f⟩
    · rw [if_pos e, f]
    · rw [if_neg e, look_mem h f]
  · rw [look_none k]
    have k2 : ¬ (y ∈ keys t ∨ y = z) := fun q => k (mem_keys_put.mpr q)
    rw [if_neg fun e => k2 (.inr e), look_none fun e => k2 (.inl e)]
theorem val_put {t : Tab} {z y : Str} {n : Int} (h : (keys t).Nodup) : val (put t z n) y = if y = z then n else val t y := by
  unfold val
  rw [look_put h]
  split <;> rfl
theorem keys_drop (t : Tab) (z : Str) : keys (drop t z) = (keys t).filter fun y => decide (y ≠ z) := by
  unfold keys drop
  rw [List.filter_map]
  rfl
theorem nd_drop {t : Tab} {z : Str} (h : (keys t).Nodup) : (keys (drop t z)).Nodup := by
  rw [keys_drop]
  exact h.filter _
theorem look_drop {t : Tab} {z y : Str} (h : (keys t).Nodup) : look (drop t z) y = if y = z then none else look t y := by
  by_cases k : y ∈ keys (drop t z)
  · obtain ⟨m, a, b⟩ := look_some k
    have c := List.mem_filter.mp b
    have d : y ≠ z := of_decide_eq_true c.2
    rw [a, if_neg d, look_mem h c.1]
  · rw [look_none k]
    by_cases e : y = z
    · rw [if_pos e]
    · rw [if_neg e, look_none]
      intro m
      apply k
      rw [keys_drop]
      exact List.mem_filter.mpr ⟨m, decide_eq_true e⟩
theorem val_drop {t : Tab} {z y : Str} (h : (keys t).Nodup) : val (drop t z) y = if y = z then 0 else val t y := by
  unfold val
  rw [look_drop h]
  split <;> rfl
theorem len_put (t : Tab) (z : Str) (n : Int) : (put t z n).length ≤ t.length + 1 := by
  unfold put
  split
  · rw [List.length_map]
    omega
  · rw [List.length_append]
    exact Nat.le_refl _
/-! ### what is told of a table: the words ascending whose integer is not 0 -/
/-- ws holds the table's words, ascending -/
def toldBy (t : Tab) (ws : List Str) : Tab := (ws.filter fun z => decide (val t z ≠ 0)).map fun z => (z, val t z)
/-- l is what is told of a table with these values -/
structure Told (f : Str → Int) (l : Tab) : Prop where
  asc : Asc (keys l)
  mem : ∀ z n, (z, n) ∈ l ↔ n = f z ∧ n ≠ 0
theorem Told.keys_iff {f : Str → Int} {l : Tab} (h : Told f l) (z : Str) : z ∈ keys l ↔ f z ≠ 0 := by
  constructor
  · intro m
    obtain ⟨⟨y, n⟩, hm, e⟩ := List.mem_map.mp m
    have e : y = z := e
    subst e
    obtain ⟨a, b⟩ := (h.mem _ _).mp hm
    rw [← a]
    exact b
  · intro q
    exact List.mem_map.mpr ⟨(z, f z), (h.mem _ _).mpr ⟨rfl, q⟩, rfl⟩
theorem Told.form {f : Str → Int} {l : Tab} (h : Told f l) : l = (keys l).map fun z => (z, f z) := by
  unfold keys
  rw [List.map_map]
  conv => lhs; rw [← List.map_id l]
  apply List.map_congr_left
  intro q m
  have := ((h.mem q.1 q.2).mp m).1
  show q = (q.1, f q.1)
  rw [← this]
theorem told_eq {f g : Str → Int} {l m : Tab} (a : Told f l) (b : Told g m) (h : ∀ z, f z = g z) : l = m := by
  have e : f = g := funext h
  subst e
  have k : keys l = keys m := asc_eq a.asc b.asc fun z => by rw [a.keys_iff, b.keys_iff]
  rw [a.form, b.form, k]
theorem told_of {t : Tab} {ws : List Str} (nd : (keys t).Nodup) (ha : Asc ws) (hm : ∀ z, z ∈ ws ↔ z ∈ keys t) : Told (val t) (toldBy t ws) := by
  have ek : keys (toldBy t ws) = ws.filter fun z => decide (val t z ≠ 0) := by
    unfold keys toldBy
    rw [List.map_map]
    exact List.map_id _
  refine ⟨?_, fun z n => ?_⟩
  · rw [ek]
    exact List.Pairwise.filter _ ha
  · unfold toldBy
    rw [List.mem_map]
    constructor
    · rintro ⟨y, m, e⟩
      have e1 : y = z := congrArg Prod.fst e
      have e2 : val t y = n := congrArg Prod.snd e
      subst e1
      subst e2
      exact ⟨rfl, of_decide_eq_true (List.mem_filter.mp m).2⟩
    · rintro ⟨rfl, q⟩
      refine ⟨z, List.mem_filter.mpr ⟨?_, decide_eq_true q⟩, rfl⟩
      rw [hm]
      apply Classical.byContradiction
      intro k
      exact q (by unfold val; rw [look_none k]; rfl)
/-! ### a table as a dict's pairs -/
def tv (t : Tab) : List (Key × V) := t.map fun q => (Sum.inr q.1, V.int q.2)
theorem tv_len (t : Tab) : (tv t).length = t.length := List.length_map _
theorem tv_val (t : Tab) (z : Str) : valV (tv t) (Sum.inr z) = (look t z).map V.int := by
  unfold valV tv look
  induction t with
  | nil => rfl
  | cons q t ih =>
    rw [List.map_cons, List.find?_cons, List.find?_cons]
    by_cases e : q.1 = z
    · rw [decide_eq_true e, decide_eq_true (show (Sum.inr q.1 : Key) = Sum.inr z by rw [e])]
      rfl
    · rw [decide_eq_false e, decide_eq_false (show ¬ (Sum.inr q.1 : Key) = Sum.inr z from fun f => e (Sum.inr.inj f))]
      exact ih
theorem tv_any (t : Tab) (z : Str) : ((tv t).any fun kv => decide (kv.1 = Sum.inr z)) = t.any fun q => decide (q.1 = z) := by
  unfold tv
  rw [List.any_map]
  congr 1
  funext q
  exact key_rr q.1 z
theorem tv_put (t : Tab) (z : Str) (n : Int) : putK (tv t) (Sum.inr z) (V.int n) = tv (put t z n) := by
  unfold putK put
  rw [tv_any]
  split
  · unfold tv
    rw [List.map_map, List.map_map]
    apply List.map_congr_left
    intro q _
    simp only [Function.comp]
    by_cases e : q.1 = z
    · rw [if_pos e, if_pos (show (Sum.inr q.1 : Key) = Sum.inr z by rw [e])]
    · rw [if_neg e, if_neg (show ¬ (Sum.inr q.1 : Key) = Sum.inr z from fun f => e (Sum.inr.inj f))]
  · unfold tv
    rw [List.map_append]
    rfl
theorem tv_drop (t : Tab) (z : Str) : dropK (tv t) (Sum.inr z) = tv (drop t z) := by
  unfold dropK drop tv
  rw [List.filter_map]
  congr 1
  apply List.filter_congr
  intro q _
  simp only [Function.comp]
  by_cases e : q.1 = z
  · simp [e]
  · have : ¬ (Sum.inr q.1 : Key) = Sum.inr z := fun f => e (Sum.inr.inj f)
    simp [e, this]
/-- pairs added up word by word -/
def addUp (ps : List (Str × Int)) : Tab := ps.foldl (fun t q => put t q.1 (val t q.1 + q.2)) []
/-- the integers of a word in pairs -/
def sumOf (ps : List (Str × Int)) (z : Str) : Int := ((ps.filter fun q => decide (q.1 = z)).map (·.2)).sum
theorem addUp_snoc (ps : List (Str × Int)) (q : Str × Int) : addUp (ps ++ [q]) = put (addUp ps) q.1 (val (addUp ps) q.1 + q.2) := by
  unfold addUp
  rw [List.foldl_append]
  rfl
theorem snoc_rec {α : Type} {C : List α → Prop} (h0 : C []) (h1 : ∀ l a, C l → C (l ++ [a])) : ∀ l, C l := by
  intro l
  have : ∀ n (l : List α), l.length = n → C l := by
    intro n
    induction n with
    | zero => intro l hl; rw [List.length_eq_zero_iff.mp hl]; exact h0
    | succ n ih =>
      intro l hl
      have hne : l ≠ [] := by intro e; rw [e] at hl; cases hl
      rw [← List.dropLast_concat_getLast hne]
      exact h1 _ _ (ih _ (by rw [List.length_dropLast, hl]; rfl))
  exact this _ l rfl
theorem addUp_nd : ∀ ps, (keys (addUp ps)).Nodup := snoc_rec List.nodup_nil fun l a h => by
  rw [addUp_snoc]
  exact nd_put h
theorem addUp_val (z : Str) : ∀ ps, val (addUp ps) z = sumOf ps z := snoc_rec rfl fun l a h => by
  rw [addUp_snoc, val_put (addUp_nd l)]
  unfold sumOf at h ⊢
  rw [List.filter_append, List.map_append, List.sum_append]
  by_cases e : a.1 = z
  · rw [if_pos e.symm]
    subst e
    rw [h]
    simp
  · rw [if_neg fun q => e q.symm, h]
    simp [e]
theorem addUp_len : ∀ ps, (addUp ps).length ≤ ps.length := snoc_rec (Nat.le_refl _) fun l a h => by
  rw [addUp_snoc, List.length_append]
  exact Nat.le_trans (len_put _ _ _) (Nat.succ_le_succ h)
/-- without zeros -/
def noZero (t : Tab) : Tab := t.filter fun q => decide (q.2 ≠ 0)
theorem noZero_nd {t : Tab} (h : (keys t).Nodup) : (keys (noZero t)).Nodup := by
  unfold keys noZero
  exact List.Nodup.sublist ((List.filter_sublist).map _) h
theorem noZero_mem {t : Tab} {q : Str × Int} : q ∈ noZero t ↔ q ∈ t ∧ q.2 ≠ 0 := by
  unfold noZero
  rw [List.mem_filter, decide_eq_true_eq]
theorem noZero_val {t : Tab} (h : (keys t).Nodup) (z : Str) : val (noZero t) z = val t z := by
  unfold val
  by_cases k : z ∈ keys (noZero t)
  · obtain ⟨n, a, b⟩ := look_some k
    rw [a, look_mem h (noZero_mem.mp b).1]
  · rw [look_none k]
    by_cases m : z ∈ keys t
    · obtain ⟨n, a, b⟩ := look_some m
      rw [a]
      by_cases e : n = 0
      · rw [e]
        rfl
      · exact absurd (List.mem_map.mpr ⟨(z, n), noZero_mem.mpr ⟨b, e⟩, rfl⟩) k
    · rw [look_none m]
/-- a table as Counts hold it -/
structure Held (t : Tab) : Prop where
  nd : (keys t).Nodup
  nz : ∀ q ∈ t, q.2 ≠ 0
theorem Held.of {t : Tab} (h : (keys t).Nodup) : Held (noZero t) := ⟨noZero_nd h, fun q m => (noZero_mem.mp m).2⟩
theorem Held.keys_iff {t : Tab} (h : Held t) (z : Str) : z ∈ keys t ↔ val t z ≠ 0 := by
  unfold val
  constructor
  · intro m
    obtain ⟨n, a, b⟩ := look_some m
    rw [a]
    exact h.nz _ b
  · intro q
    apply Classical.byContradiction
    intro m
    rw [look_none m] at q
    exact q rfl
/-- the pairs of held counts, by their words ascending -/
theorem Held.told {t : Tab} (h : Held t) {ws : List Str} (ha : Asc ws) (hm : ∀ z, z ∈ ws ↔ z ∈ keys t) : Told (val t) (ws.map fun z => (z, val t z)) := by
  have := told_of h.nd ha hm
  unfold toldBy at this
  rw [List.filter_eq_self.mpr] at this
  · exact this
  · intro z m
    exact decide_eq_true ((h.keys_iff z).mp ((hm z).mp m))
end Cs

set_option Elab.async false
set_option linter.all false
set_option maxRecDepth 100000
set_option maxHeartbeats 4000000
/-! What an own class's special methods do: len(o), o[i], o[i] = v; classes called with a starred list. -/
namespace Cs
open PySem PySem.Spec PyProof.Rows L2
/-- a special method of the class at C -/
structure Spc (K : PySem.W.Frag) (C : Addr) (m : Str) (f : Addr) : Prop where
  at_ : PySem.W.findIn K (.ref C) m = some (some (.ref f))
  fn : PySem.W.isFn K (.ref f) = true
section
variable {X : Cx} {CX : CXT} {k i : Nat} {f C g : Addr} {fd : FuncData} {ps : List Str} {sp : Sp} {dvs : List V} {ds : List Value} {E : XK} {x m : Str} {e o : Expr} {es : List Expr} {te ta : TE} {t : TA} {p sp_ pos apos : Pos}
/-- a def run one level down -/
theorem run_fn1 {pins : List (Addr × Obj)} {σ : L2.St} {H : Hp} {s : Shared} {Q : VK} {us : List Value} {vs : List V} (F : FnOk X.prog X.w X.K X.mg X.base CX k f fd ps sp) (hr : Room (k + 1) X.A) (hb : Binds X.K fd ps []) (hx : Passes CX X E)
    (I : Inv X pins σ H s) (r : Vals vs us) (h : sp vs H Q E) : wpAny (model X.prog X.w) X.A.in1 (call (.ref f) us) (EP X pins σ Q) X.xe s := by
  have hl : us.length = ps.length := by rw [← r.length]; exact F.len _ _ _ _ h
  have hb' := hb s us I.kIn (by rw [List.append_nil]; exact hl)
  rw [List.append_nil] at hb'
  refine wpAny_call (codeAny_mono (F.run X.A.in1 X.stack s H ⟨us, []⟩ us vs Q E hr.in1 I.env0.in1 hb' r h) fun r s' hq => ?_)
  cases r with
  | error e => exact hx pins σ H s e s' I hq
  | ok fl =>
    cases fl with
    | ret u => exact I.after hq
    | next => exact False.elim hq
    | brk => exact False.elim hq
    | cont => exact False.elim hq
theorem ins_inst {pins : List (Addr × Obj)} {σ : L2.St} {H : Hp} {s : Shared} {a dx : Addr} {fs : List (Str × V)} (I : Inv X pins σ H s) (h : H a = some (.ins C dx fs)) : ∃ ox od, PySem.W.InstAt s.heap a ox C od ∧ ox.data = .plain := by
  obtain ⟨mA, O, _⟩ := ins_get I.hok h
  obtain ⟨od, J, _⟩ := O.look
  exact ⟨_, _, J, rfl⟩
/-- len(o) by an own __len__ -/
def rLenO (C : Addr) (sp : Sp) (E : XK) : List V → Hp → VK → Prop := fun xs H Q => ∃ a dx fs, xs = [.ref a] ∧ H a = some (.ins C dx fs) ∧ sp [.ref a] H (fun v H2 => ∃ n : Int, v = .int n ∧ (0 ≤ n ∧ n < 2 ^ 63) ∧ Q (.int n) H2) E
theorem call_lenO (c : Spc X.K C "__len__" f) (F : FnOk X.prog X.w X.K X.mg X.base CX k f fd ps sp) (hr : Room (k + 1) X.A) (hb : Binds X.K fd ps []) (hx : Passes CX X E) : CallR X (.builtin "len") (rLenO C sp E) := by
  intro pins s σ H xs us Q I r h
  obtain ⟨a, dx, fs, rfl, ha, q⟩ := h
  rw [Vals.ref1 r]
  obtain ⟨ox, od, J, _⟩ := ins_inst I ha
  obtain ⟨m, Fr⟩ := I.fr
  refine PySem.W.len_K Fr I.ok.mod.kin J c.at_ c.fn (wpAny_mono (run_fn1 (us := [.ref a]) (vs := [.ref a]) F hr hb hx I (.cons rfl .nil) q) (fun v s' z => ?_) fun _ _ z => z)
  obtain ⟨v0, H2, I2, rv, n, e, hn, q2⟩ := z
  subst e
  obtain ⟨tk, rfl⟩ := rv
  exact ⟨hn, .int n, H2, I2.tok _, ⟨_, rfl⟩, q2⟩
/-- o[i] = v by an own __setitem__ -/
def rSetO (C : Addr) (sp : Sp) (E : XK) : V → V → V → Hp → (Hp → Prop) → Prop := fun o i v H Q => ∃ a dx fs, o = .ref a ∧ H a = some (.ins C dx fs) ∧ sp [.ref a, i, v] H (fun _ H2 => Q H2) E
theorem set_own (c : Spc X.K C "__setitem__" f) (hq : PySem.W.noSeq X.K C = true) (F : FnOk X.prog X.w X.K X.mg X.base CX k f fd ps sp) (hr : Room k X.A) (hb : Binds X.K fd ps []) (hx : Passes CX X E) : PSet X (rSetO C sp E) := by
  intro pins s σ H o i v ov iv u Q I ro ri rv h
  obtain ⟨a, dx, fs, rfl, ha, q⟩ := h
  cases ro
  obtain ⟨ox, od, J, _⟩ := ins_inst I ha
  obtain ⟨m, Fr⟩ := I.fr
  refine PySem.W.ksp_setItem Fr I.ok.mod.kin J hq c.at_ c.fn ?_
  refine wpAny_mono (run_fn (us := [.ref a, iv, u]) (vs := [.ref a, i, v]) (dvs := []) F hr hb .nil hx I (.cons rfl (.cons ri (.cons rv .nil))) q) (fun v s' z => ?_) fun _ _ z => z
  obtain ⟨v0, H2, I2, _, q2⟩ := z
  exact ⟨H2, I2, q2⟩
/-- C(*y), C a class of the module -/
def tMkS (K : PySem.W.Frag) (C : Addr) (sp : Sp) (E : XK) (te : TE) : TE := fun σ H Q => te σ H fun y H1 => ∃ a xs, y = V.ref a ∧ (SqT K H1 a xs ∨ SqL K H1 a xs) ∧ ∀ x dx, H1 x = none → H1 dx = none → dx ≠ x →
  sp (V.ref x :: xs) (upd (upd H1 dx (.own x)) x (.ins C dx [])) (fun v H2 => v = .non ∧ Q (.ref x) H2) E
theorem pe_mkS (M : Mk X.K C f) (F : FnR X.prog X.w X.K X.mg X.base CX k f sp) (hr : Room (k + 1) X.A) (hg : Gl X x) (hm : X.mg x = some (.ref C)) (hx : Passes CX X E) (he : PE X e te) (hd : (x == ("__debug__" : Str)) = false := by decide)
    (hst : starEach [.Starred e sp_] X.env = [(true, eval e X.env)] := by rfl) : PE X (.Call (.Name x p) [.Starred e sp_] [] pos) (tMkS X.K C sp E te) := by
  refine ⟨fun pins s σ H Q I h => ?_⟩
  refine wpAny_Call_Name_kw (ld_glob I hg hm ?_ hd)
  refine PySem.W.callWith_S (h₀ := X.base) I.ok.mod.kin M.kp (thn (he.run pins s σ H _ I h) fun v s1 ⟨y, H1, I1, ry, a, xs, ey, hxs, q⟩ => ?_) hst
  subst ey
  obtain rfl : v = Value.ref a := ry
  exact StX.star_any I1 hxs fun us s2 I2 rv => ⟨I2.kIn, StX.run_makeR M F hr hx I2 rv q⟩
/-- c(*y), c a local name that holds the class -/
theorem pe_mkSL (M : Mk X.K C f) (F : FnR X.prog X.w X.K X.mg X.base CX k f sp) (hr : Room (k + 1) X.A) (hN : X.N[i]? = some x) (hv : Vis X.env.scope x) (hx : Passes CX X E) (he : PE X e te) (hdb : (x == ("__debug__" : Str)) = false := by decide)
    (hcd : (x == ("__classdict__" : Str)) = false := by decide) (hst : starEach [.Starred e sp_] X.env = [(true, eval e X.env)] := by rfl) :
    PE X (.Call (.Name x p) [.Starred e sp_] [] pos) (fun σ H Q => σ[i]? = some (some (.ref C)) ∧ tMkS X.K C sp E te σ H Q) := by
  refine ⟨fun pins s σ H Q I h => ?_⟩
  obtain ⟨hs, h⟩ := h
  refine wpAny_Call_Name_kw (thn ((pe_var (pos := p) hN hv hdb hcd).run pins s σ H (fun v H1 => v = .ref C ∧ H1 = H) I ⟨.ref C, hs, rfl, rfl⟩) fun u s0 ⟨v, H0, I0, r0, q0⟩ => ?_)
  obtain ⟨rfl, rfl⟩ := q0
  cases r0
  refine PySem.W.callWith_S (h₀ := X.base) I.ok.mod.kin M.kp (thn (he.run pins s0 σ _ _ I0 h) fun v s1 ⟨y, H1, I1, ry, a, xs, ey, hxs, q⟩ => ?_) hst
  subst ey
  obtain rfl : v = Value.ref a := ry
  exact StX.star_any I1 hxs fun us s2 I2 rv => ⟨I2.kIn, StX.run_makeR M F hr hx I2 rv q⟩
/-- C(), by a positional promise -/
theorem pe_mkR0 (M : Mk X.K C f) (F : FnR X.prog X.w X.K X.mg X.base CX k f sp) (hr : Room (k + 1) X.A) (hg : Gl X x) (hm : X.mg x = some (.ref C)) (hx : Passes CX X E) (hdb : (x == ("__debug__" : Str)) = false := by decide) :
    PE X (.Call (.Name x p) [] [] pos) (StX.tMakeR C sp E tNil) := by
  refine ⟨fun pins s σ H Q I h => ?_⟩
  refine wpAny_Call_Name_kw (ld_glob I hg hm ?_ hdb)
  exact PySem.W.callWith_K0 I.kIn M.kp (StX.run_makeR (us := []) M F hr hx I .nil h)
/-- o.m() by a positional promise -/
theorem pe_methR0 {pl : Sem Bool} (he : PE X o ta) (c : Cls X.K C) (hm : Meth X.K C m f) (F : FnR X.prog X.w X.K X.mg X.base CX k f sp) (hr : Room k X.A) (hx : Passes CX X E)
    (ht : eval (.Call (.Attribute o m apos) [] [] pos) X.env = (do
      let ov ← eval o X.env
      standAt apos.atName
      let (f, first) ← holding [ov] (getMethod ov m pl)
      callWith pos f first (backTo pos (starEach [] X.env)) (backToKw pos (keywordEach [] X.env))) := by rfl) :
    PE X (.Call (.Attribute o m apos) [] [] pos) (tMethR C m sp E ta tNil) := by
  refine ⟨fun pins s σ H Q I h => ?_⟩
  refine PySem.W.methodCall_KW (pl := pl) (thn (he.run pins s σ H _ I h) fun u s1 ⟨x, H1, I1, rx, a, dx, fs, ex, ea, l, q⟩ => ?_) ht
  subst ex
  obtain rfl : u = Value.ref a := rx
  refine getmeth_ok I1 ea c hm l ?_
  exact PySem.W.callWith_K0 (first := [.ref a]) I1.kIn hm.kp (wpAny_call (run_fnR (us := [.ref a]) (vs := [.ref a]) F hr hx I1 (.cons rfl .nil) q))
end
end Cs

set_option Elab.async false
set_option linter.all false
set_option maxRecDepth 100000
set_option maxHeartbeats 4000000
/-! Operators of an own class: + - * & | ^ and the like, unary minus, abs, comparisons, op=, o[i]. -/
namespace Cs
open PySem PySem.Spec PyProof.Rows L2
/-- no value of the layer is NotImplemented -/
theorem back_of {X : Cx} {pins : List (Addr × Obj)} {σ : L2.St} {Q : VK} {u : Value} {s : Shared} (h : EP X pins σ Q u s) : PySem.W.CmpBack (EP X pins σ Q) u s := by
  obtain ⟨v, H', I, r, q⟩ := id h
  cases u <;> first | exact h | (cases v <;> first | (obtain ⟨_, z⟩ := r; cases z; done) | (exact absurd r (by intro z; cases z)))
section
variable {X : Cx} {CX : CXT} {k i : Nat} {f C g : Addr} {fd : FuncData} {ps : List Str} {sp : Sp} {E : XK} {a b : Expr} {ta tb : TE} {pos : Pos} {op : Operator}
/-- the class comes first in its own order -/
structure OpC (K : PySem.W.Frag) (C : Addr) (m : Str) (f : Addr) : Prop where
  sf : PySem.W.selfFirst K C = true
  at_ : PySem.W.findIn K (.ref C) m = some (some (.ref f))
  fn : PySem.W.isFn K (.ref f) = true
/-- x op y, both of the class -/
def rBinO (C : Addr) (sp : Sp) (E : XK) : R2 := fun x y H Q => ∃ p q dp dq fp fq, x = .ref p ∧ y = .ref q ∧ H p = some (.ins C dp fp) ∧ H q = some (.ins C dq fq) ∧ sp [.ref p, .ref q] H Q E
theorem op_own (c : OpC X.K C (PySem.dunder op.info.2) f) (F : FnOk X.prog X.w X.K X.mg X.base CX k f fd ps sp) (hr : Room k X.A) (hb : Binds X.K fd ps []) (hx : Passes CX X E) : OpR X (binaryOp op) (rBinO C sp E) := by
  intro pins s σ H x y v u Q I rx ry h
  obtain ⟨p, q, dp, dq, fp, fq, rfl, rfl, hp, hq, k⟩ := h
  cases rx
  cases ry
  obtain ⟨ox, od, J, _⟩ := ins_inst I hp
  obtain ⟨oy, oe, J2, _⟩ := ins_inst I hq
  obtain ⟨m, Fr⟩ := I.fr
  refine PySem.W.binop_K Fr I.ok.mod.kin J J2.type c.sf c.at_ c.fn ?_
  exact wpAny_mono (run_fn (us := [.ref p, .ref q]) (vs := [.ref p, .ref q]) (dvs := []) F hr hb .nil hx I (.cons rfl (.cons rfl .nil)) k) (fun v s' z => back_of z) fun _ _ z => z
/-- x op n, x of the class, n an int -/
def rBinI (C : Addr) (sp : Sp) (E : XK) : R2 := fun x y H Q => ∃ p dp fp n, x = .ref p ∧ y = .int n ∧ H p = some (.ins C dp fp) ∧ sp [.ref p, .int n] H Q E
structure OpT (K : PySem.W.Frag) (C : Addr) (nm : String) (f g : Addr) : Prop where
  sf : PySem.W.selfFirst K C = true
  at_ : PySem.W.findIn K (.ref C) (PySem.dunder nm) = some (some (.ref f))
  fn : PySem.W.isFn K (.ref f) = true
  rat : PySem.W.findIn K (.ref C) (dunderR nm) = some (some (.ref g))
  rfn : PySem.W.isFn K (.ref g) = true
  sub : PySem.W.subIn K (.type "int") (.ref C) = some false
  sub2 : PySem.W.subIn K (.ref C) (.type "int") = some false
theorem op_ownI {fo ro : Option Value} (c : OpT X.K C op.info.2 f g) (h1 : PySem.W.findIn X.K (.type "int") (PySem.dunder op.info.2) = some fo) (h2 : PySem.W.findIn X.K (.type "int") (dunderR op.info.2) = some ro)
    (F : FnOk X.prog X.w X.K X.mg X.base CX k f fd ps sp) (hr : Room k X.A) (hb : Binds X.K fd ps []) (hx : Passes CX X E) : OpR X (binaryOp op) (rBinI C sp E) := by
  intro pins s σ H x y v u Q I rx ry h
  obtain ⟨p, dp, fp, n, rfl, rfl, hp, k⟩ := h
  cases rx
  obtain ⟨t, rfl⟩ := ry
  obtain ⟨ox, od, J, _⟩ := ins_inst I hp
  obtain ⟨m, Fr⟩ := I.fr
  refine PySem.W.ksp_binT (T := "int") (b := .int n t) Fr I.ok.mod.kin J rfl c.sf c.at_ c.fn c.rat (.inr ⟨g, rfl⟩) h1 h2 c.sub ?_
  exact wpAny_mono (run_fn (us := [.ref p, .int n t]) (vs := [.ref p, .int n]) (dvs := []) F hr hb .nil hx I (.cons rfl (.cons ⟨t, rfl⟩ .nil)) k) (fun v s' z => back_of z) fun _ _ z => z
/-- int.__mul__ of an object that is no int -/
theorem mul_other {prog : Program} {w : World} {A : Around} {E : Value → Shared → Prop} {s : Shared} {x : Addr} {o : Obj} {n : Int} {t : Tok} {Q : Option Value → Shared → Prop} (ho : s.heap.get? x = some o) (hd : o.data = .plain) (h : Q none s) :
    wpAny (model prog w) A (tryMethod (.int n t) (PySem.dunder "mul") (.ref x)) Q E s := by
  unfold tryMethod
  refine wpAny_bind (PySem.wpAny_callSpecial?_slot (typeIs_int s n t) PySem.F.slot_int_mul (wpAny_call_entry PySem.F.slot_int_mul (typeIs_int s n t) PySem.F.entry_int_mul ?_ (PySem.F.args_int_mul_2 _ _)))
  unfold Builtin.«int.__mul__»
  obtain ⟨hp, gg, d, tk, os⟩ := s
  obtain ⟨cls, dict, data, slots⟩ := o
  subst hd
  have ho1 := ho
  wp_walk using wpAny_load ho1
  exact ⟨_, rfl, wpAny_pure h⟩
/-- n * x, x of the class: by its own __rmul__ -/
theorem mul_right {prog : Program} {w : World} {A : Around} {E : Value → Shared → Prop} {s : Shared} {K : PySem.W.Frag} {x : Addr} {ox : Obj} {od : Option Obj} {n : Int} {t : Tok} {Q : Value → Shared → Prop} {ro : Option Value} (X : K.In s.heap) (I : PySem.W.InstAt s.heap x ox C od) (hd : ox.data = .plain)
    (hx : s.heap.get? x = some ox) (c : OpT K C "mul" f g) (h1 : PySem.W.findIn K (.type "int") (PySem.dunder "mul") = some (some (.builtin "int.__mul__"))) (h2 : PySem.W.findIn K (.type "int") (dunderR "mul") = some ro)
    (h : wpAny (model prog w) A (call (.ref g) [.ref x, .int n t]) (PySem.W.CmpBack Q) E s) : wpAny (model prog w) A (binaryOp .Mult (.int n t) (.ref x)) Q E s := by
  obtain ⟨cd, rest, hcd, hm⟩ := PySem.W.ksp_first c.sf
  have one := PySem.W.ksp_try X I c.rat c.rfn h
  have oth := fun Q' (q : Q' none s) => mul_other (prog := prog) (w := w) (A := A) (E := E) (n := n) (t := t) (Q := Q') hx hd q
  have L1 : PySem.W.Looks (model prog w) s.heap (typeOf (.int n t)) (.type "int") := PySem.W.Looks.of_pure rfl
  have L2 : PySem.W.Looks (model prog w) s.heap (typeOf (.ref x)) (.ref C) := I.type
  have L3 : PySem.W.Looks (model prog w) s.heap (fillsNumberSlot (.type "int") "mul") true := by
    have := PySem.W.ksp_fillsT (M := model prog w) X h1 h2
    exact this
  have L4 : PySem.W.Looks (model prog w) s.heap (fillsNumberSlot (.ref C) "mul") true := PySem.W.fills_K X hcd hm c.at_
  have L5 : PySem.W.Looks (model prog w) s.heap (isSubtype (.ref C) (.type "int")) false := PySem.W.looks_subIn X c.sub2
  have L6 : PySem.W.Looks (model prog w) s.heap (numberSlotInPython (.type "int") "mul") false := PySem.W.Looks.of_pure rfl
  have hne : (Value.type "int" == Value.ref C) = false := Bool.eq_false_iff.mpr fun q => by cases beq_iff_eq.mp q
  have hi : Operator.Mult.info.2 = "mul" := rfl
  simp only [binaryOp]
  refine wpAny_holding (wpAny_bind ?_)
  rw [hi]
  unfold binaryOp1
  refine wpAny_bind (L1.here (wpAny_bind (L2.here (wpAny_bind (L3.here ?_)))))
  simp only [hne, Bool.false_eq_true, if_false]
  refine wpAny_bind (L4.here ?_)
  simp only [Bool.and_self, if_true, Bool.true_and, Bool.not_false]
  refine wpAny_bind (L5.here ?_)
  simp only [Bool.false_eq_true, if_false, Bool.not_false, if_true]
  refine wpAny_bind (L6.here ?_)
  simp only [Bool.false_eq_true, if_false]
  refine wpAny_bind (oth _ ?_)
  dsimp only
  refine wpAny_bind (wpAny_mono one (fun r s' z => ?_) fun _ _ e => e)
  obtain ⟨v, rfl, hq⟩ := z
  exact wpAny_bind (wpAny_rule (wpAny_pure (wpAny_pure hq)))
end
end Cs

set_option Elab.async false
set_option linter.all false
set_option maxRecDepth 100000
set_option maxHeartbeats 4000000
namespace Cs
open PySem PySem.Spec PyProof.Rows L2
section
variable {X : Cx} {CX : CXT} {k i : Nat} {f C g : Addr} {fd : FuncData} {ps : List Str} {sp : Sp} {E : XK} {a b : Expr} {ta tb : TE} {pos : Pos} {op : Operator}
theorem ins_obj {pins : List (Addr × Obj)} {σ : L2.St} {H : Hp} {s : Shared} {p dx : Addr} {fs : List (Str × V)} (I : Inv X pins σ H s) (h : H p = some (.ins C dx fs)) : ∃ ox od, PySem.W.InstAt s.heap p ox C od ∧ ox.data = .plain ∧ s.heap.get? p = some ox := by
  obtain ⟨mA, O, _⟩ := ins_get I.hok h
  obtain ⟨od, J, _⟩ := O.look
  exact ⟨_, _, J, rfl, J.at_⟩
/-- n * x -/
def rMulR (C : Addr) (sp : Sp) (E : XK) : R2 := fun x y H Q => ∃ p dp fp n, x = .int n ∧ y = .ref p ∧ H p = some (.ins C dp fp) ∧ sp [.ref p, .int n] H Q E
theorem op_mulR {ro : Option Value} (c : OpT X.K C "mul" f g) (h1 : PySem.W.findIn X.K (.type "int") (PySem.dunder "mul") = some (some (.builtin "int.__mul__"))) (h2 : PySem.W.findIn X.K (.type "int") (dunderR "mul") = some ro)
    (F : FnOk X.prog X.w X.K X.mg X.base CX k g fd ps sp) (hr : Room k X.A) (hb : Binds X.K fd ps []) (hx : Passes CX X E) : OpR X (binaryOp .Mult) (rMulR C sp E) := by
  intro pins s σ H x y v u Q I rx ry h
  obtain ⟨p, dp, fp, n, rfl, rfl, hp, k⟩ := h
  cases ry
  obtain ⟨t, rfl⟩ := rx
  obtain ⟨ox, od, J, hd, hg⟩ := ins_obj I hp
  refine mul_right I.kIn J hd hg c h1 h2 ?_
  exact wpAny_mono (run_fn (us := [.ref p, .int n t]) (vs := [.ref p, .int n]) (dvs := []) F hr hb .nil hx I (.cons rfl (.cons ⟨t, rfl⟩ .nil)) k) (fun v s' z => back_of z) fun _ _ z => z
/-- -x -/
def rNegO (C : Addr) (sp : Sp) (E : XK) : V → Hp → VK → Prop := fun x H Q => ∃ p dp fp, x = .ref p ∧ H p = some (.ins C dp fp) ∧ sp [.ref p] H Q E
theorem un_negO (c : Spc X.K C "__neg__" f) (F : FnOk X.prog X.w X.K X.mg X.base CX k f fd ps sp) (hr : Room k X.A) (hb : Binds X.K fd ps []) (hx : Passes CX X E) : UnR X (unaryOp .USub) (rNegO C sp E) := by
  intro pins s σ H x v Q I rx h
  obtain ⟨p, dp, fp, rfl, hp, k⟩ := h
  cases rx
  obtain ⟨ox, od, J, _⟩ := ins_inst I hp
  obtain ⟨m, Fr⟩ := I.fr
  exact PySem.W.ksp_neg Fr I.ok.mod.kin J c.at_ c.fn (run_fn (us := [.ref p]) (vs := [.ref p]) (dvs := []) F hr hb .nil hx I (.cons rfl .nil) k)
/-- abs(x) -/
def rAbsO (C : Addr) (sp : Sp) (E : XK) : List V → Hp → VK → Prop := fun xs H Q => ∃ p dp fp, xs = [.ref p] ∧ H p = some (.ins C dp fp) ∧ sp [.ref p] H Q E
theorem call_absO (c : Spc X.K C "__abs__" f) (F : FnOk X.prog X.w X.K X.mg X.base CX k f fd ps sp) (hr : Room (k + 1) X.A) (hb : Binds X.K fd ps []) (hx : Passes CX X E) : CallR X (.builtin "abs") (rAbsO C sp E) := by
  intro pins s σ H xs us Q I r h
  obtain ⟨p, dp, fp, rfl, hp, q⟩ := h
  rw [Vals.ref1 r]
  obtain ⟨ox, od, J, _⟩ := ins_inst I hp
  refine Calls.call_function_entry kind_abs plain_abs entry_abs (args_abs _) ?_
  unfold Builtin.«abs»
  refine wpAny_bind (m := oneArg "abs" _) (wpAny_pure ?_)
  refine wpAny_bind (m := callSpecial? (.ref p) (Str.ofString "__abs__")) (PySem.W.special_fn I.kIn J c.at_ (beq_iff_eq.mp c.fn) (wpAny_mono (run_fn1 (us := [.ref p]) (vs := [.ref p]) F hr hb hx I (.cons rfl .nil) q) (fun v s' z => ?_) fun _ _ z => z))
  exact wpAny_pure ⟨_, rfl, z⟩
/-- x op= y -/
theorem ip_own (c : OpC X.K C (dunderI op.info.2) f) (F : FnOk X.prog X.w X.K X.mg X.base CX k f fd ps sp) (hr : Room k X.A) (hb : Binds X.K fd ps []) (hx : Passes CX X E) : PIp X op (fun x y H Q => ∃ p dp fp, x = .ref p ∧ H p = some (.ins C dp fp) ∧ sp [.ref p, y] H Q E) := by
  intro pins s σ H x y v u Q I rx ry h
  obtain ⟨p, dp, fp, rfl, hp, k⟩ := h
  cases rx
  obtain ⟨ox, od, J, _⟩ := ins_inst I hp
  obtain ⟨m, Fr⟩ := I.fr
  refine PySem.W.ksp_inplace Fr I.ok.mod.kin J c.sf c.at_ c.fn ?_
  exact wpAny_mono (run_fn (us := [.ref p, u]) (vs := [.ref p, y]) (dvs := []) F hr hb .nil hx I (.cons rfl (.cons ry .nil)) k) (fun v s' z => back_of z) fun _ _ z => z
/-- x[y] by an own __getitem__ -/
def rIxO (C : Addr) (sp : Sp) (E : XK) : R2 := fun x y H Q => ∃ p dp fp, x = .ref p ∧ H p = some (.ins C dp fp) ∧ sp [.ref p, y] H Q E
theorem pe_ixO (c : Spc X.K C "__getitem__" f) (hf : PySem.W.fnIn X.K f = true) (F : FnOk X.prog X.w X.K X.mg X.base CX k f fd ps sp) (hr : Room (k + 1) X.A) (hb : Binds X.K fd ps []) (hx : Passes CX X E) (ha : PE X a ta) (hi : PE X b tb)
    (hsl : ∀ o i, subscripted b true (.ref o) i = runValue (.builtin "lifetime.subscript" ⟨[.ref o, i], []⟩) := by intro _ _; rfl) : PE X (.Subscript a b pos) (tOp (rIxO C sp E) ta tb) := by
  refine ⟨fun pins s σ H Q I h => ?_⟩
  refine Subscript_ (binT ha hi I h fun v u s2 x y H2 I2 rx ry q => ?_)
  obtain ⟨p, dp, fp, rfl, hp, q⟩ := q
  cases rx
  obtain ⟨ox, od, J, _⟩ := ins_inst I2 hp
  obtain ⟨m, Fr⟩ := I2.fr
  exact PySem.W.sub_K Fr I2.ok.mod.kin J c.at_ hf c.fn (run_fn1 (us := [.ref p, u]) (vs := [.ref p, y]) F hr hb hx I2 (.cons rfl (.cons ry .nil)) q) (hsl _ _)
end
end Cs

set_option Elab.async false
set_option linter.all false
set_option maxRecDepth 100000
set_option maxHeartbeats 4000000
/-! The law's draws: a source is a list of the script's cells and three numbers. -/
namespace Cs
open PySem L2
/-- the builtins and helper defs that are reached, by what the module's names hold -/
structure Bi (mg : Str → Option Value) : Prop where
  len : mg "len" = none
  int : mg "int" = none
  abs : mg "abs" = none
  list : mg "list" = none
  range : mg "range" = none
  sorted : mg "sorted" = none
  str : mg "str" = none
  isinstance : mg "isinstance" = none
  sum : mg "sum" = none
  tuple : mg "tuple" = none
  dict : mg "dict" = none
  all : mg "all" = none
  bool : mg "bool" = none
  enumerate : mg "enumerate" = none
/-- all but what stands at p is as it was -/
def Kp (p : Addr) (H H' : Hp) : Prop := ∀ b o, H b = some o → b ≠ p → H' b = some o
theorem Kp.refl (p : Addr) (H : Hp) : Kp p H H := fun _ _ h _ => h
theorem Kp.trans {p : Addr} {H H1 H2 : Hp} (a : Kp p H H1) (b : Kp p H1 H2) : Kp p H H2 := fun c o h n => b c o (a c o h n) n
theorem Kp.of {p : Addr} {H H1 : Hp} (a : Same H H1) : Kp p H H1 := fun c o h _ => a c o h
theorem Kp.upd {p : Addr} {H : Hp} {o : HO} : Kp p H (upd H p o) := fun c u h n => by rw [upd_ne n]; exact h
theorem Kp.seq {K : PySem.W.Frag} {p a : Addr} {H H' : Hp} {xs : List V} (k : Kp p H H') (h : SqL K H a xs) (n : a ≠ p) : SqL K H' a xs := by
  rcases h with (h | ⟨o, h⟩) | h
  · exact .inl (.inl (k _ _ h n))
  · exact .inl (.inr ⟨o, k _ _ h n⟩)
  · exact .inr h
theorem Same.new {H : Hp} {p : Addr} {o : HO} (h : H p = none) : Same H (L2.upd H p o) := fun b u e => by
  rw [upd_ne (ne_of_none e h)]
  exact e
/-- a source of draws at p, its cells at c -/
def Src (H : Hp) (p c : Addr) : Prop := ∃ (ns : List Int) (i l n : Int), H p = some (.lst [.ref c, .int i, .int l, .int n]) ∧ H c = some (.lst (ns.map V.int)) ∧ c ≠ p ∧ 0 ≤ i ∧ 0 ≤ l
theorem Src.keep {H H' : Hp} {p c : Addr} (h : Src H p c) (s : ∀ b o, (b = p ∨ b = c) → H b = some o → H' b = some o) : Src H' p c := by
  obtain ⟨ns, i, l, n, a, b, r⟩ := h
  exact ⟨ns, i, l, n, s _ _ (.inl rfl) a, s _ _ (.inr rfl) b, r⟩
theorem Src.same {H H' : Hp} {p c : Addr} (s : Same H H') (h : Src H p c) : Src H' p c := h.keep fun b o _ e => s b o e
theorem Src.at_p {H : Hp} {p c : Addr} (h : Src H p c) : ∃ xs, H p = some (.lst xs) := by
  obtain ⟨ns, i, l, n, a, _⟩ := h
  exact ⟨_, a⟩
theorem Src.at_c {H : Hp} {p c : Addr} (h : Src H p c) : ∃ xs, H c = some (.lst xs) := by
  obtain ⟨ns, i, l, n, a, b, _⟩ := h
  exact ⟨_, b⟩
theorem Src.new_p {H : Hp} {p c q : Addr} (h : Src H p c) (n : H q = none) : q ≠ p := by
  obtain ⟨xs, e⟩ := h.at_p
  exact (ne_of_none e n).symm
theorem Src.new_c {H : Hp} {p c q : Addr} (h : Src H p c) (n : H q = none) : q ≠ c := by
  obtain ⟨xs, e⟩ := h.at_c
  exact (ne_of_none e n).symm
theorem Src.tup_p {H : Hp} {p c t : Addr} {xs : List V} (h : Src H p c) (e : H t = some (.tup xs)) : t ≠ p := by
  obtain ⟨ys, a⟩ := h.at_p
  rintro rfl
  rw [e] at a
  cases a
theorem atI0 {α : Type} {a b c d : α} : atI [a, b, c, d] 0 = some a := rfl
theorem atI1 {α : Type} {a b c d : α} : atI [a, b, c, d] 1 = some b := rfl
theorem atI2 {α : Type} {a b c d : α} : atI [a, b, c, d] 2 = some c := rfl
theorem atI3 {α : Type} {a b c d : α} : atI [a, b, c, d] 3 = some d := rfl

def spMixed : Sp := fun vs H Q _ => ∃ c n : Int, vs = [.int c, .int n] ∧ ∀ v : Int, Q (.int v) H
def spDraw : Sp := fun vs H Q _ => ∃ (p c : Addr) (n : Int), vs = [.ref p, .int n] ∧ Src H p c ∧ 0 < n ∧ n < 1329227995784915872903807060280344576 ∧ ∀ (v : Int) (H' : Hp), 0 ≤ v → v < n → Src H' p c → Kp p H H' → Q (.int v) H'
def spSource (K : PySem.W.Frag) : Sp := fun vs H Q _ => ∃ (a : Addr) (ns : List Int), vs = [.ref a] ∧ SqL K H a (ns.map V.int) ∧ ∀ (p c : Addr) (H' : Hp), H p = none → H c = none → Same H H' → Src H' p c → Q (.ref p) H'

section
variable {P : Program} {w : World} {K : PySem.W.Frag} {mg : Str → Option Value} {base : Heap}
theorem ok_mixed {f : Addr} {fd : FuncData} (F : Fun K "_law_mixed" "_law_mixed" s_l_mixed f fd) (g : Bi mg) : FnOk P w K mg base CX0 1 f fd ["_law_cell", "_law_count"] spMixed := by
  refine F.ok sc_l_mixed (fun vs H Q E h => ?_) (fun cdv A outer s H vs Q E hr h => ?_)
  · obtain ⟨_, _, rfl, _⟩ := h
    rfl
  · obtain ⟨c, n, rfl, k⟩ := h
    refine ⟨_, (pss_cons (ps_if (pt_cmpR op_eq (pv 0) pe_int (nomark _)) (pss_one (ps_ret pe_int)) pss_nil)
      (pss_cons (ps_set (i := 2) sc_l_mixed.nd rfl (Or.inl rfl) (pe_op op_mod (pe_callTy call_int1 (by rfl) g.int (by decide +kernel) (pa_cons (pe_op op_add (pe_op op_mul (pv 0) pe_int) (pe_op op_mul (pv 1) pe_int)) pa_nil)) pe_int))
      (pss_one (ps_ret (pe_op op_fdiv (pe_op op_mod (pe_callTy call_int1 (by rfl) g.int (by decide +kernel) (pa_cons (pe_op op_add (pe_op op_add (pe_op op_mul (pv 2) pe_int) (pe_op op_mul (pe_op op_fdiv (pv 2) pe_int) (pv 1))) pe_int) pa_nil)) pe_int) pe_int))))), ?_⟩
    refine ⟨_, rfl, rfl, _, rfl, ite2 (fun _ => k _) (fun _ => ?_)⟩
    refine ⟨_, rfl, _, _, rfl, rfl, .inr ⟨by decide, by decide⟩, _, rfl, _, _, rfl, rfl, .inr ⟨by decide, by decide⟩, _, _, rfl, rfl, Or.inl ⟨_, rfl, _, _, rfl, rfl, (by show (0 : Int) < 2147483647; decide), ?_⟩⟩
    generalize hf : (c * 48271 + n * 69621) % 2147483647 = a
    have h0 : 0 ≤ a := by rw [← hf]; exact Int.emod_nonneg _ (by decide)
    have h1 : a < 2147483647 := by rw [← hf]; exact Int.emod_lt_of_pos _ (by decide)
    refine ⟨_, rfl, _, _, rfl, rfl, .inr ⟨by decide, by decide⟩, _, rfl, _, _, rfl, rfl, ⟨by decide, by decide⟩, _, rfl, _, _, rfl, rfl, .inl ⟨by omega, by omega⟩, _, _, rfl, rfl, _, _, rfl, rfl, Or.inl ⟨_, rfl, _, _, rfl, rfl, (by show (0 : Int) < 2147483399; decide), _, _, rfl, rfl, ⟨by decide, by decide⟩, k _⟩⟩
theorem ok_source {f : Addr} {fd : FuncData} (F : Fun K "_law_source" "_law_source" s_l_source f fd) (g : Bi mg) : FnOk P w K mg base CX0 1 f fd ["_law_script"] (spSource K) := by
  refine F.ok sc_l_source (fun vs H Q E h => ?_) (fun cdv A outer s H vs Q E hr h => ?_)
  · obtain ⟨_, _, rfl, _⟩ := h
    rfl
  · obtain ⟨a, ns, rfl, hS, k⟩ := h
    refine ⟨_, (pss_one (ps_ret (pe_lst (pa_cons (pe_callTy call_list_of (by rfl) g.list (by decide +kernel) (pa_cons (pe_slice sl_list (pv 0) po_none (po_some pe_int)) pa_nil)) (pa_cons pe_int (pa_cons pe_int (pa_cons pe_int pa_nil))))))), ?_⟩
    refine ⟨_, rfl, _, rfl, a, _, rfl, hS, fun q hq => ⟨q, _, rfl, .inl (SqL.of upd_same), fun c hc => ⟨by show 4 ≤ sizeLine; decide, fun p hp => ?_⟩⟩⟩
    have s1 : Same H (upd H q (.lst (cutV (ns.map V.int) none (some 63)))) := Same.new hq
    have s2 := s1.trans (Same.new (o := .lst (cutV (ns.map V.int) none (some 63))) hc)
    have s3 := s2.trans (Same.new (o := .lst [.ref c, .int 0, .int 0, .int 0]) hp)
    have ncp : c ≠ p := ne_of_none (H := upd _ c _) upd_same hp
    obtain ⟨ms, em⟩ : ∃ ms : List Int, cutV (ns.map V.int) none (some 63) = ms.map V.int := by
      unfold cutV
      rw [← List.map_drop, ← List.map_take]
      exact ⟨_, rfl⟩
    refine k p c _ (s2.free hp) (s1.free hc) s3 ⟨ms, 0, 0, 0, upd_same, ?_, ncp, by decide, by decide⟩
    rw [upd_ne ncp, upd_same, em]
theorem ok_draw {f fM : Addr} {fd fdM : FuncData} (F : Fun K "_law_draw" "_law_draw" s_l_draw f fd) (g : Bi mg) (FM : Fun K "_law_mixed" "_law_mixed" s_l_mixed fM fdM) (mM : mg "_law_mixed" = some (.ref fM)) (bM : Binds K fdM ["_law_cell", "_law_count"] []) :
    FnOk P w K mg base CX0 2 f fd ["_law_source_here", "_law_size"] spDraw := by
  have GM : FnOk P w K mg base CX0 1 fM fdM ["_law_cell", "_law_count"] spMixed := ok_mixed FM g
  refine F.ok sc_l_draw (fun vs H Q E h => ?_) (fun cdv A outer s H vs Q E hr h => ?_)
  · obtain ⟨_, _, _, rfl, _⟩ := h
    rfl
  · obtain ⟨p, c, n, rfl, ⟨ns, i, l, m, hp, hc, ncp, hi, hl⟩, n0, n1, k⟩ := h
    have hrM : Room 1 _ := hr.mono (by decide)
    refine ⟨_, (pss_cons (ps_asg (pe_op op_add (pe_ix ix_list (pv 0) pe_int (fun _ _ => rfl)) pe_int) (pg_sub (pv 0) pe_int set_list))
      (C8.pss_cut (ps_if (PW.pt (pw_and (pt_cmpR op_eq (pe_ix ix_list (pv 0) pe_int (fun _ _ => rfl)) pe_int (nomark _)) (pw_and1 (pt_cmpR op_gt (pe_callB call_len (by rfl) g.len PySem.boot_len (pa_cons (pe_ix ix_list (pv 0) pe_int (fun _ _ => rfl)) pa_nil)) pe_int (nomark _))))) (pss_cons (ps_set (i := 2) sc_l_draw.nd rfl (Or.inl rfl) (pe_ix ix_list (pv 0) pe_int (fun _ _ => rfl)))
      (pss_cons (ps_set (i := 3) sc_l_draw.nd rfl (Or.inl rfl) (pe_ix ix_list (pe_ix ix_list (pv 0) pe_int (fun _ _ => rfl)) (pe_op op_mod (pe_callTy call_int1 (by rfl) g.int (by decide +kernel) (pa_cons (pv 2) pa_nil)) (pe_callB call_len (by rfl) g.len PySem.boot_len (pa_cons (pe_ix ix_list (pv 0) pe_int (fun _ _ => rfl)) pa_nil))) (fun _ _ => rfl)))
      (pss_cons (ps_asg (pe_op op_add (pv 2) pe_int) (pg_sub (pv 0) pe_int set_list))
      (pss_one (ps_if (PW.pt (pw_and (pt_cmpR op_lt (pv 2) (pe_callB call_len (by rfl) g.len PySem.boot_len (pa_cons (pe_ix ix_list (pv 0) pe_int (fun _ _ => rfl)) pa_nil)) (nomark _)) (pw_and1 (pt_cmpR op_ge (pe_callB call_abs (by rfl) g.abs (by decide +kernel) (pa_cons (pv 3) pa_nil)) (pe_op op_pow pe_int pe_int) (nomark _))))) (pss_one (ps_asg (pe_callB call_abs (by rfl) g.abs (by decide +kernel) (pa_cons (pv 3) pa_nil)) (pg_sub (pv 0) pe_int set_list))) (pss_one (ps_ret (pe_op op_mod (pe_callTy call_int1 (by rfl) g.int (by decide +kernel) (pa_cons (pe_call GM hrM rfl mM FM.kp bM .nil pass0 (pa_cons (pv 3) (pa_cons (pe_ix ix_list (pv 0) pe_int (fun _ _ => rfl)) pa_nil))) pa_nil)) (pv 1))))))))) pss_nil)
      (pss_cons (ps_set (i := 4) sc_l_draw.nd rfl (Or.inl rfl) (pe_op op_mod (pe_callTy call_int1 (by rfl) g.int (by decide +kernel) (pa_cons (pe_ix ix_list (pv 0) pe_int (fun _ _ => rfl)) pa_nil)) (pv 1)))
      (pss_cons (ps_asg (pe_op op_fdivW (pe_ix ix_list (pv 0) pe_int (fun _ _ => rfl)) (pv 1)) (pg_sub (pv 0) pe_int set_list))
      (pss_one (ps_ret (pv 4))))))), ?_⟩
    have c1 : ∀ o, (upd H p o) c = some (.lst (ns.map V.int)) := fun o => by rw [upd_ne ncp]; exact hc
    have q1 : ∀ xs, SqL K (upd H p (.lst xs)) p xs := fun xs => SqL.of upd_same
    have q2 : ∀ o, SqL K (upd H p o) c (ns.map V.int) := fun o => SqL.of (c1 o)
    refine ⟨_, rfl, p, _, _, _, rfl, rfl, SqL.of hp, atI3, _, _, rfl, rfl, _, rfl, p, _, _, 3, rfl, rfl, hp, rfl, ?_⟩
    have e1 : ([V.ref c, .int i, .int l, .int m].set 3 (.int (m + 1))) = [V.ref c, .int i, .int l, .int (m + 1)] := rfl
    rw [e1]
    refine ⟨fun σ' H2 => ∃ x2 x3 x4 j l2, σ' = [some (.ref p), some (.int n), x2, x3, x4] ∧ H2 p = some (.lst [.ref c, .int j, .int l2, .int (m + 1)]) ∧ H2 c = some (.lst (ns.map V.int)) ∧ 0 ≤ j ∧ 0 ≤ l2 ∧ Kp p H H2, ?_, ?_⟩
    · refine ⟨_, rfl, p, _, _, _, rfl, rfl, q1 _, atI2, rfl, _, rfl, ?_⟩
      refine ite2 (fun z => ?_) (fun z => ?_)
      · refine ⟨_, rfl, p, _, _, _, rfl, rfl, q1 _, atI0, _, _, rfl, .inl ⟨_, q2 _, rfl⟩, _, _, rfl, rfl, _, rfl, ?_⟩
        rw [List.length_map]
        refine ite2 (fun z2 => ?_) (fun z2 => ?_)
        · have hlen : 0 < ns.length := by simpa using z2
          refine ⟨_, rfl, p, _, _, _, rfl, rfl, q1 _, atI1, ?_⟩
          have hx0 : 0 ≤ i % (ns.length : Int) := Int.emod_nonneg _ (by omega)
          have hx1 : i % (ns.length : Int) < (ns.length : Int) := Int.emod_lt_of_pos _ (by omega)
          obtain ⟨j, ej⟩ : ∃ j : Nat, i % (ns.length : Int) = (j : Int) := ⟨(i % (ns.length : Int)).toNat, by omega⟩
          have hj : j < ns.length := by omega
          have hat : atI (ns.map V.int) (i % ((ns.map V.int).length : Int)) = some (.int ns[j]) := by
            rw [List.length_map, ej]
            exact atI_nat (by rw [List.getElem?_map, List.getElem?_eq_getElem hj]; rfl)
          refine ⟨_, rfl, p, _, _, _, rfl, rfl, q1 _, atI0, _, rfl, Or.inl ⟨_, rfl, _, rfl, p, _, _, _, rfl, rfl, q1 _, atI0, _, _, rfl, .inl ⟨_, q2 _, rfl⟩, _, _, rfl, rfl, (by rw [List.length_map]; omega), c, _, _, _, rfl, rfl, q2 _, hat, ?_⟩⟩
          refine ⟨_, rfl, _, _, rfl, rfl, _, rfl, p, _, _, 1, rfl, rfl, upd_same, rfl, ?_⟩
          have e2 : ([V.ref c, .int i, .int l, .int (m + 1)].set 1 (.int (i + 1))) = [V.ref c, .int (i + 1), .int l, .int (m + 1)] := rfl
          rw [e2]
          have c2 : ∀ o o', (upd (upd H p o) p o') c = some (.lst (ns.map V.int)) := fun o o' => by rw [upd_ne ncp]; exact c1 o
          have kp2 : ∀ o o', Kp p H (upd (upd H p o) p o') := fun o o' => Kp.upd.trans Kp.upd
          have other : ∀ v : Int, Q (.int (v % n)) (upd (upd H p (.lst [.ref c, .int i, .int l, .int (m + 1)])) p (.lst [.ref c, .int (i + 1), .int l, .int (m + 1)])) := fun v =>
            k _ _ (Int.emod_nonneg _ (by omega)) (Int.emod_lt_of_pos _ n0) ⟨ns, i + 1, l, m + 1, upd_same, c2 _ _, ncp, by omega, hl⟩ (kp2 _ _)
          refine ⟨_, rfl, _, rfl, p, _, _, _, rfl, rfl, SqL.of upd_same, atI0, _, _, rfl, .inl ⟨_, SqL.of (c2 _ _), rfl⟩, _, _, rfl, rfl, _, rfl, ?_⟩
          refine ite2 (fun z3 => ?_) (fun z3 => ?_)
          · refine ⟨_, rfl, _, rfl, _, _, rfl, rfl, ⟨by decide, by decide, by decide⟩, _, _, rfl, rfl, _, rfl, ?_⟩
            refine ite2 (fun z4 => ?_) (fun z4 => ?_)
            · refine ⟨_, rfl, _, rfl, _, rfl, p, _, _, 2, rfl, rfl, upd_same, rfl, ?_⟩
              refine ⟨_, _, _, i + 1, _, rfl, upd_same, by rw [upd_ne ncp]; exact c2 _ _, by omega, ?_, (kp2 _ _).trans Kp.upd⟩
              split <;> omega
            · refine ⟨_, rfl, _, rfl, p, _, _, _, rfl, rfl, SqL.of upd_same, atI3, _, _, rfl, fun v => Or.inl ⟨_, rfl, _, rfl, _, _, rfl, rfl, n0, other v⟩⟩
          · refine ⟨_, rfl, _, rfl, p, _, _, _, rfl, rfl, SqL.of upd_same, atI3, _, _, rfl, fun v => Or.inl ⟨_, rfl, _, rfl, _, _, rfl, rfl, n0, other v⟩⟩
        · exact ⟨_, _, _, i, l, rfl, upd_same, c1 _, hi, hl, Kp.upd⟩
      · exact ⟨_, _, _, i, l, rfl, upd_same, c1 _, hi, hl, Kp.upd⟩
    · rintro σ' H2 ⟨x2, x3, x4, j, l2, rfl, hp2, hc2, j0, l0, kp⟩
      refine ⟨_, rfl, p, _, _, _, rfl, rfl, SqL.of hp2, atI2, Or.inl ⟨_, rfl, _, rfl, _, _, rfl, rfl, n0, ?_⟩⟩
      refine ⟨_, rfl, p, _, _, _, rfl, rfl, SqL.of hp2, atI2, _, rfl, _, _, rfl, rfl, wide_div (b := 120) n0 (by omega) (by decide) (by decide), _, rfl, p, _, _, 2, rfl, rfl, hp2, rfl, ?_⟩
      refine ⟨_, rfl, ?_⟩
      exact k _ _ (Int.emod_nonneg _ (by omega)) (Int.emod_lt_of_pos _ n0) ⟨ns, j, l2 / n, m + 1, upd_same, by rw [upd_ne ncp]; exact hc2, ncp, j0, Int.ediv_nonneg l0 (by omega)⟩ (kp.trans Kp.upd)
end
end Cs

set_option Elab.async false
set_option linter.all false
set_option maxRecDepth 100000
set_option maxHeartbeats 4000000
/-! The law's words, numbers and pairs. -/
namespace Cs
open PySem L2
def LET : Str := "abcdefghijklmnopqrstuvwxyz"
/-- one to eight letters -/
def Word (z : Str) : Prop := 1 ≤ z.length ∧ z.length ≤ 8 ∧ ∀ c ∈ z.cps.toList, c ∈ LET.cps.toList
/-- at most thirty digits -/
def Small (n : Int) : Prop := -(10 ^ 30) < n ∧ n < 10 ^ 30
theorem len_add (x y : Str) : (x ++ y).length = x.length + y.length := by
  show (x.cps ++ y.cps).size = x.cps.size + y.cps.size
  exact Array.size_append
theorem cps_add (x y : Str) : (x ++ y).cps.toList = x.cps.toList ++ y.cps.toList := by
  show (x.cps ++ y.cps).toList = _
  exact Array.toList_append
def wordB (z : Str) : Bool := decide (1 ≤ z.length) && decide (z.length ≤ 8) && z.cps.toList.all fun c => decide (c ∈ LET.cps.toList)
theorem word_of {z : Str} (h : wordB z = true) : Word z := by
  unfold wordB at h
  simp only [Bool.and_eq_true, decide_eq_true_eq, List.all_eq_true] at h
  exact ⟨h.1.1, h.1.2, h.2⟩
theorem ats_of {α : Type} {xs : List α} {z : Int} {j : Nat} {v : α} (e : z = (j : Int)) (h : xs[j]? = some v) : atI xs z = some v := by
  rw [e]
  exact atI_nat h
def spWord : Sp := fun vs H Q _ => ∃ p c : Addr, vs = [.ref p] ∧ Src H p c ∧ ∀ (z : Str) (H' : Hp), Word z → Src H' p c → Kp p H H' → Q (.str z) H'
def spNumber : Sp := fun vs H Q _ => ∃ p c : Addr, vs = [.ref p] ∧ Src H p c ∧ ∀ (n : Int) (H' : Hp), Small n → Src H' p c → Kp p H H' → Q (.int n) H'
/-- the items are tuples of a text and a number -/
def PrL (H : Hp) : List V → List (Str × Int) → Prop := Paired fun x q => ∃ t, x = V.ref t ∧ H t = some (.tup [.str q.1, .int q.2])
def GoodPs (ps : List (Str × Int)) : Prop := ∀ q ∈ ps, Word q.1 ∧ Small q.2
def spPairs : Sp := fun vs H Q _ => ∃ (p c : Addr) (m : Int), vs = [.ref p, .int m] ∧ Src H p c ∧ 0 ≤ m ∧ m ≤ 1000 ∧
  ∀ (q : Addr) (H' : Hp) (xs : List V) (ps : List (Str × Int)), H q = none → H' q = some (.lst xs) → PrL H' xs ps → GoodPs ps → (ps.length : Int) ≤ m → Src H' p c → Kp p H H' → Q (.ref q) H'
theorem PrL.mono {H H' : Hp} {xs : List V} {ps : List (Str × Int)} (h : PrL H xs ps) (k : ∀ t a b, H t = some (.tup [.str a, .int b]) → H' t = some (.tup [.str a, .int b])) : PrL H' xs ps :=
  Paired.mapP h fun x q ⟨t, e, r⟩ => ⟨t, e, k t _ _ r⟩
theorem PrL.length {H : Hp} : ∀ {xs : List V} {ps : List (Str × Int)}, PrL H xs ps → xs.length = ps.length
  | _, _, .nil => rfl
  | _, _, .cons _ t => congrArg (· + 1) (PrL.length t)
theorem PrL.at {H : Hp} : ∀ {xs : List V} {ps : List (Str × Int)}, PrL H xs ps → ∀ {i : Nat} {q : Str × Int}, ps[i]? = some q → ∃ t, xs[i]? = some (V.ref t) ∧ H t = some (.tup [.str q.1, .int q.2])
  | _, _, .nil, i, q, h => by simp at h
  | _, _, .cons (a := a) r t, 0, q, h => by
    obtain ⟨u, e, hu⟩ := r
    obtain rfl := Option.some.inj h
    exact ⟨u, by rw [e]; rfl, hu⟩
  | _, _, .cons r t, i + 1, q, h => PrL.at t h
theorem PrL.snoc {H : Hp} : ∀ {xs : List V} {ps : List (Str × Int)} {t : Addr} {a : Str} {b : Int}, PrL H xs ps → H t = some (.tup [.str a, .int b]) → PrL H (xs ++ [.ref t]) (ps ++ [(a, b)])
  | _, _, _, _, _, .nil, h => .cons ⟨_, rfl, h⟩ .nil
  | _, _, _, _, _, .cons r t, h => .cons r (PrL.snoc t h)
section
variable {P : Program} {w : World} {K : PySem.W.Frag} {mg : Str → Option Value} {base : Heap}
/-- a def of the module as its callers have it: its promise, its name, that it stays, how its arguments bind -/
structure Def (P : Program) (w : World) (K : PySem.W.Frag) (mg : Str → Option Value) (base : Heap) (CX : CXT) (k : Nat) (x : Str) (ps : List Str) (sp : Sp) (f : Addr) (fd : FuncData) : Prop where
  ok : FnOk P w K mg base CX k f fd ps sp
  m : mg x = some (.ref f)
  kp : PySem.W.keepIn K (.ref f) = true
  b : Binds K fd ps []
theorem ok_word {f fD : Addr} {fd fdD : FuncData} (F : Fun K "_law_word" "_law_word" s_l_word f fd) (g : Bi mg) (FD : Def P w K mg base CX0 2 "_law_draw" ["_law_source_here", "_law_size"] spDraw fD fdD) : FnOk P w K mg base CX0 3 f fd ["_law_source_here"] spWord := by
  obtain ⟨GD, mD, _, bD⟩ := id FD
  refine F.ok sc_l_word (fun vs H Q E h => ?_) (fun cdv A outer s H vs Q E hr h => ?_)
  · obtain ⟨_, _, rfl, _⟩ := h
    rfl
  · obtain ⟨p, c, rfl, hS, k⟩ := h
    have hrD : Room 2 _ := hr.mono (by decide)
    refine ⟨_, (pss_cons (ps_if (pt_cmpR op_eq (pe_call GD hrD rfl mD FD.kp bD .nil pass0 (pa_cons (pv 0) (pa_cons pe_int pa_nil))) pe_int (nomark _)) (pss_cons (ps_set (i := 1) sc_l_word.nd rfl (Or.inl rfl) (pe_lst (pa_cons pe_str (pa_cons pe_str (pa_cons pe_str (pa_cons pe_str (pa_cons pe_str (pa_cons pe_str (pa_cons pe_str (pa_cons pe_str pa_nil))))))))))
      (pss_one (ps_ret (pe_ix ix_list (pv 1) (pe_call GD hrD rfl mD FD.kp bD .nil pass0 (pa_cons (pv 0) (pa_cons pe_int pa_nil))) (fun _ _ => rfl))))) pss_nil)
      (pss_cons (ps_set (i := 2) sc_l_word.nd rfl (Or.inl rfl) pe_str)
      (pss_cons (ps_for PassesOwn.never rfl (pi_range1 rfl g.range (pa_cons (pe_op op_add pe_int (pe_call GD hrD rfl mD FD.kp bD .nil pass0 (pa_cons (pv 0) (pa_cons pe_int pa_nil)))) pa_nil)) (pg_name (i := 3) sc_l_word.nd rfl (Or.inl rfl)) (pss_one (ps_set (i := 2) sc_l_word.nd rfl (Or.inl rfl) (pe_op op_add_str (pv 2) (pe_ix ix_str pe_str (pe_call GD hrD rfl mD FD.kp bD .nil pass0 (pa_cons (pv 0) (pa_cons pe_int pa_nil))) (fun _ _ => rfl))))))
      (pss_one (ps_ret (pv 2)))))), ?_⟩
    refine ⟨_, rfl, p, c, 8, rfl, hS, by decide, by decide, fun v H1 v0 v1 S1 k1 => ⟨rfl, _, rfl, ite2 (fun z => ?_) (fun z => ?_)⟩⟩
    · refine ⟨by show 8 ≤ sizeLine; decide, fun l hl => ?_⟩
      have s2 : Same H1 (upd H1 l (.lst [.str "self", .str "hold", .str "gone", .str "main", .str "zzzzzzzz", .str "aaaaaaab", .str "if", .str "spare"])) := Same.new hl
      have nlp : l ≠ p := S1.new_p hl
      refine ⟨_, rfl, _, rfl, p, c, 8, rfl, S1.same s2, by decide, by decide, fun v2 H2 a0 a1 S2 k2 => ?_⟩
      have hl2 := k2 l _ upd_same nlp
      have key : ∀ j : Nat, j < 8 → ∃ z : Str, ([.str "self", .str "hold", .str "gone", .str "main", .str "zzzzzzzz", .str "aaaaaaab", .str "if", .str "spare"] : List V)[j]? = some (.str z) ∧ Word z := by
        intro j hj
        match j, hj with
        | 0, _ => exact ⟨_, rfl, word_of (by decide +kernel)⟩
        | 1, _ => exact ⟨_, rfl, word_of (by decide +kernel)⟩
        | 2, _ => exact ⟨_, rfl, word_of (by decide +kernel)⟩
        | 3, _ => exact ⟨_, rfl, word_of (by decide +kernel)⟩
        | 4, _ => exact ⟨_, rfl, word_of (by decide +kernel)⟩
        | 5, _ => exact ⟨_, rfl, word_of (by decide +kernel)⟩
        | 6, _ => exact ⟨_, rfl, word_of (by decide +kernel)⟩
        | 7, _ => exact ⟨_, rfl, word_of (by decide +kernel)⟩
      obtain ⟨z, ez, hz⟩ := key v2.toNat (by omega)
      refine ⟨l, _, v2, _, rfl, rfl, SqL.of hl2, at_of (z := v2) (j := v2.toNat) (by omega) ez, ?_⟩
      exact k z H2 hz S2 ((k1.trans (Kp.of s2)).trans k2)
    · refine ⟨_, rfl, p, c, 8, rfl, S1, by decide, by decide, fun v2 H2 a0 a1 S2 k2 => ⟨_, _, rfl, rfl, _, rfl, by omega, by omega, ?_⟩⟩
      refine for_range (lo := 0) (n := (1 + v2).toNat) (fun i σ' H' => ∃ (z : Str) (x1 x3 : Option V), σ' = [some (.ref p), x1, some (.str z), x3] ∧ z.length = i ∧ (∀ y ∈ z.cps.toList, y ∈ LET.cps.toList) ∧ Src H' p c ∧ Kp p H H')
        ⟨"", _, _, rfl, rfl, (by intro y hc; cases hc), S2, k1.trans k2⟩ ?_ ?_
      · rintro i σ' H' hi ⟨z, x1, x3, rfl, hz, hc, S', kp'⟩
        refine ⟨_, rfl, _, rfl, p, c, 26, rfl, S', by decide, by decide, fun v3 H3 b0 b1 S3 k3 => ?_⟩
        have hx : v3.toNat < LET.cps.toList.length := by
          have : LET.cps.toList.length = 26 := by decide +kernel
          omega
        refine ⟨LET, v3, LET.cps.toList[v3.toNat], rfl, rfl, by decide +kernel, ats_of (z := v3) (j := v3.toNat) (by omega) (List.getElem?_eq_getElem hx), z, _, rfl, rfl, ?_, ?_⟩
        · have : (⟨#[LET.cps.toList[v3.toNat]]⟩ : Str).length = 1 := rfl
          rw [this, hz]
          exact Nat.le_trans (show i + 1 ≤ 1000 by omega) (by decide)
        · refine ⟨_, _, _, rfl, ?_, fun y hc' => ?_, S3, kp'.trans k3⟩
          · rw [len_add, hz]
            rfl
          · rw [cps_add] at hc'
            rcases List.mem_append.mp hc' with q | q
            · exact hc y q
            · have e : y = LET.cps.toList[v3.toNat] := by simpa using q
              rw [e]
              exact List.getElem_mem hx
      · rintro σ' H' ⟨z, x1, x3, rfl, hz, hc, S', kp'⟩
        exact ⟨_, rfl, k z H' ⟨by omega, by omega, hc⟩ S' kp'⟩
theorem ok_number {f fD : Addr} {fd fdD : FuncData} (F : Fun K "_law_number" "_law_number" s_l_number f fd) (g : Bi mg) (FD : Def P w K mg base CX0 2 "_law_draw" ["_law_source_here", "_law_size"] spDraw fD fdD) : FnOk P w K mg base CX0 3 f fd ["_law_source_here"] spNumber := by
  obtain ⟨GD, mD, _, bD⟩ := id FD
  refine F.ok sc_l_number (fun vs H Q E h => ?_) (fun cdv A outer s H vs Q E hr h => ?_)
  · obtain ⟨_, _, rfl, _⟩ := h
    rfl
  · obtain ⟨p, c, rfl, hS, k⟩ := h
    have hrD : Room 2 _ := hr.mono (by decide)
    refine ⟨_, (pss_cons (ps_set (i := 1) sc_l_number.nd rfl (Or.inl rfl) (pe_call GD hrD rfl mD FD.kp bD .nil pass0 (pa_cons (pv 0) (pa_cons pe_int pa_nil))))
      (pss_cons (ps_if (pt_cmpR op_eq (pv 1) pe_int (nomark _)) (pss_one (ps_ret (pe_op op_sub (pe_call GD hrD rfl mD FD.kp bD .nil pass0 (pa_cons (pv 0) (pa_cons pe_int pa_nil))) pe_int))) pss_nil)
      (pss_cons (ps_if (pt_cmpR op_eq (pv 1) pe_int (nomark _)) (pss_one (ps_ret (pe_op op_sub (pe_call GD hrD rfl mD FD.kp bD .nil pass0 (pa_cons (pv 0) (pa_cons pe_int pa_nil))) pe_int))) pss_nil)
      (pss_cons (ps_set (i := 2) sc_l_number.nd rfl (Or.inl rfl) pe_int)
      (pss_cons (ps_for PassesOwn.never rfl (pi_range1 rfl g.range (pa_cons pe_int pa_nil)) (pg_name (i := 3) sc_l_number.nd rfl (Or.inl rfl)) (pss_one (ps_set (i := 2) sc_l_number.nd rfl (Or.inl rfl) (pe_op op_add (pe_op op_mul (pv 2) (pe_op op_pow pe_int pe_int)) (pe_call GD hrD rfl mD FD.kp bD .nil pass0 (pa_cons (pv 0) (pa_cons (pe_op op_pow pe_int pe_int) pa_nil)))))))
      (pss_cons (ps_set (i := 2) sc_l_number.nd rfl (Or.inl rfl) (pe_op op_mod (pe_callTy call_int1 (by rfl) g.int (by decide +kernel) (pa_cons (pv 2) pa_nil)) (pe_op op_pow pe_int pe_int)))
      (pss_one (ps_ret (pe_ifExp (pt_cmpR op_eq (pv 1) pe_int (nomark _)) (pv 2) (pe_un un_neg (pv 2))))))))))), ?_⟩
    refine ⟨_, rfl, p, c, 4, rfl, hS, by decide, by decide, fun v H1 v0 v1 S1 k1 => ?_⟩
    refine ⟨_, rfl, rfl, _, rfl, ite2 (fun z => ?_) (fun z => ?_)⟩
    · refine ⟨_, rfl, p, c, 7, rfl, S1, by decide, by decide, fun v2 H2 a0 a1 S2 k2 => ⟨_, _, rfl, rfl, k _ _ ⟨by omega, by omega⟩ S2 (k1.trans k2)⟩⟩
    refine ⟨_, rfl, rfl, _, rfl, ite2 (fun z => ?_) (fun z => ?_)⟩
    · refine ⟨_, rfl, p, c, 2001, rfl, S1, by decide, by decide, fun v2 H2 a0 a1 S2 k2 => ⟨_, _, rfl, rfl, k _ _ ⟨by omega, by omega⟩ S2 (k1.trans k2)⟩⟩
    refine ⟨4, rfl, by decide, by decide, ?_⟩
    refine for_range (lo := 0) (n := 4) (fun i σ' H' => ∃ (n : Int) (x3 : Option V), σ' = [some (.ref p), some (.int v), some (.int n), x3] ∧ Src H' p c ∧ Kp p H H') ⟨0, _, rfl, S1, k1⟩ ?_ ?_
    · rintro i σ' H' hi ⟨n, x3, rfl, S', kp'⟩
      refine ⟨_, rfl, _, _, rfl, rfl, ⟨by decide, by decide, by decide⟩, _, _, rfl, rfl, .inr ⟨by decide, by decide⟩, _, rfl, _, _, rfl, rfl, ⟨by decide, by decide, by decide⟩, p, c, _, rfl, S', by decide, by decide, fun v3 H3 b0 b1 S3 k3 => ?_⟩
      exact ⟨_, _, rfl, rfl, _, _, rfl, S3, kp'.trans k3⟩
    · rintro σ' H' ⟨n, x3, rfl, S', kp'⟩
      refine ⟨_, rfl, Or.inl ⟨_, rfl, _, _, rfl, rfl, ⟨by decide, by decide, by decide⟩, _, _, rfl, rfl, (by show (0 : Int) < 10 ^ 30; decide), ?_⟩⟩
      have e : ((10 : Int) ^ (30 : Int).toNat) = 10 ^ 30 := rfl
      rw [e]
      have h0 : 0 ≤ n % 10 ^ 30 := Int.emod_nonneg _ (by decide)
      have h1 : n % 10 ^ 30 < 10 ^ 30 := Int.emod_lt_of_pos _ (by decide)
      refine ⟨_, rfl, rfl, _, rfl, ite2 (fun z => ?_) (fun z => ?_)⟩
      · exact ⟨_, rfl, k _ _ ⟨by omega, h1⟩ S' kp'⟩
      · exact ⟨_, rfl, _, rfl, k _ _ ⟨by omega, by omega⟩ S' kp'⟩
end
end Cs

set_option Elab.async false
set_option linter.all false
set_option maxRecDepth 100000
set_option maxHeartbeats 4000000
namespace Cs
open PySem L2
section
variable {P : Program} {w : World} {K : PySem.W.Frag} {mg : Str → Option Value} {base : Heap}
theorem ok_pairs {f fD fW fN : Addr} {fd fdD fdW fdN : FuncData} (F : Fun K "_law_pairs" "_law_pairs" s_l_pairs f fd) (g : Bi mg) (FD : Def P w K mg base CX0 2 "_law_draw" ["_law_source_here", "_law_size"] spDraw fD fdD)
    (FW : Def P w K mg base CX0 3 "_law_word" ["_law_source_here"] spWord fW fdW) (FN : Def P w K mg base CX0 3 "_law_number" ["_law_source_here"] spNumber fN fdN) :
    FnOk P w K mg base CX0 4 f fd ["_law_source_here", "_law_most"] spPairs := by
  obtain ⟨GD, mD, _, bD⟩ := id FD
  obtain ⟨GW, mW, _, bW⟩ := id FW
  obtain ⟨GN, mN, _, bN⟩ := id FN
  refine F.ok sc_l_pairs (fun vs H Q E h => ?_) (fun cdv A outer s H vs Q E hr h => ?_)
  · obtain ⟨_, _, _, rfl, _⟩ := h
    rfl
  · obtain ⟨p, cc, m, rfl, hS, m0, m1, k⟩ := h
    have hrD : Room 2 _ := hr.mono (by decide)
    have hrW : Room 3 _ := hr.mono (by decide)
    have hrN : Room 3 _ := hr.mono (by decide)
    refine ⟨_, (pss_cons (ps_set (i := 2) sc_l_pairs.nd rfl (Or.inl rfl) (pe_lst pa_nil))
      (pss_cons (ps_for PassesOwn.never rfl (pi_range1 rfl g.range (pa_cons (pe_call GD hrD rfl mD FD.kp bD .nil pass0 (pa_cons (pv 0) (pa_cons (pe_op op_add (pv 1) pe_int) pa_nil))) pa_nil)) (pg_name (i := 3) sc_l_pairs.nd rfl (Or.inl rfl)) (pss_cons (ps_set (i := 4) sc_l_pairs.nd rfl (Or.inl rfl) (pe_call GW hrW rfl mW FW.kp bW .nil pass0 (pa_cons (pv 0) pa_nil)))
      (C8.pss_cut (ps_if (PW.pt (pw_and (pt_cmpR op_gt (pe_callB call_len (by rfl) g.len PySem.boot_len (pa_cons (pv 2) pa_nil)) pe_int (nomark _)) (pw_and1 (pt_cmpR op_eq (pe_call GD hrD rfl mD FD.kp bD .nil pass0 (pa_cons (pv 0) (pa_cons pe_int pa_nil))) pe_int (nomark _))))) (pss_one (ps_set (i := 4) sc_l_pairs.nd rfl (Or.inl rfl) (pe_ix ix_tup (pe_ix ix_list (pv 2) (pe_call GD hrD rfl mD FD.kp bD .nil pass0 (pa_cons (pv 0) (pa_cons (pe_callB call_len (by rfl) g.len PySem.boot_len (pa_cons (pv 2) pa_nil)) pa_nil))) (fun _ _ => rfl)) pe_int (fun _ _ => rfl)))) pss_nil)
      (pss_one (ps_expr (pe_bm PySem.F.plainAttrs_list PySem.F.slot_list_append PySem.F.type_list_append mt_append (pv 2) (pa_cons (pe_tup (pa_cons (pv 4) (pa_cons (pe_call GN hrN rfl mN FN.kp bN .nil pass0 (pa_cons (pv 0) pa_nil)) pa_nil))) pa_nil)))))))
      (pss_one (ps_ret (pv 2))))), ?_⟩
    refine ⟨Nat.zero_le _, fun q hq => ?_⟩
    have s1 : Same H (upd H q (.lst [])) := Same.new hq
    have nqp : q ≠ p := hS.new_p hq
    have nqc : q ≠ cc := hS.new_c hq
    refine ⟨_, rfl, _, rfl, _, _, rfl, rfl, p, cc, m + 1, rfl, hS.same s1, by omega, by omega, fun v H1 v0 v1 S1 k1 => ⟨_, rfl, by omega, by omega, ?_⟩⟩
    refine for_range (lo := 0) (n := v.toNat) (fun i σ' H' => ∃ (xs : List V) (ps : List (Str × Int)) (x3 x4 : Option V), σ' = [some (.ref p), some (.int m), some (.ref q), x3, x4] ∧ H' q = some (.lst xs) ∧ PrL H' xs ps ∧ GoodPs ps ∧ ps.length = i ∧ Src H' p cc ∧ Kp p H H')
      ⟨[], [], _, _, rfl, k1 q _ upd_same nqp, .nil, (fun _ h => nomatch h), rfl, S1, (Kp.of s1).trans k1⟩ ?_ ?_
    · rintro i σ' H' hi ⟨xs, ps, x3, x4, rfl, hq', hP, hG, hL, S', kp'⟩
      have hxl : xs.length = ps.length := hP.length
      have tn : ∀ {H2 : Hp}, Kp p H' H2 → PrL H2 xs ps := fun {H2} k2 => hP.mono fun t a b e => k2 t _ e (S'.tup_p e)
      refine ⟨_, rfl, p, cc, rfl, S', fun z H2 hz S2 k2 => ?_⟩
      have hq2 := k2 q _ hq' nqp
      refine ⟨fun σ2 H3 => ∃ (z : Str) (x3 : Option V), σ2 = [some (.ref p), some (.int m), some (.ref q), x3, some (.str z)] ∧ Word z ∧ H3 q = some (.lst xs) ∧ PrL H3 xs ps ∧ Src H3 p cc ∧ Kp p H H3, ?_, ?_⟩
      · refine ⟨_, rfl, _, _, rfl, .inl ⟨_, SqL.of hq2, rfl⟩, _, _, rfl, rfl, _, rfl, ite2 (fun c => ?_) (fun c => ?_)⟩
        · have hpos : 0 < xs.length := by simpa using c
          refine ⟨_, rfl, p, cc, 4, rfl, S2, by decide, by decide, fun v3 H3 b0 b1 S3 k3 => ⟨rfl, _, rfl, ite2 (fun c2 => ?_) (fun c2 => ?_)⟩⟩
          · have hq3 := k3 q _ hq2 nqp
            refine ⟨_, rfl, _, rfl, _, rfl, _, _, rfl, .inl ⟨_, SqL.of hq3, rfl⟩, p, cc, _, rfl, S3, by omega, by omega, fun v4 H4 d0 d1 S4 k4 => ?_⟩
            have hq4 := k4 q _ hq3 nqp
            have hj : v4.toNat < ps.length := by omega
            have hP4 := tn ((k2.trans k3).trans k4)
            obtain ⟨t, et, ht⟩ := hP4.at (List.getElem?_eq_getElem hj)
            refine ⟨q, _, v4, _, rfl, rfl, SqL.of hq4, at_of (z := v4) (j := v4.toNat) (by omega) et, t, _, 0, _, rfl, rfl, SqT.of ht, rfl, ?_⟩
            exact ⟨_, _, rfl, (hG _ (List.getElem_mem hj)).1, hq4, hP4, S4, ((kp'.trans k2).trans k3).trans k4⟩
          · exact ⟨z, _, rfl, hz, k3 q _ hq2 nqp, tn (k2.trans k3), S3, (kp'.trans k2).trans k3⟩
        · exact ⟨z, _, rfl, hz, hq2, tn k2, S2, kp'.trans k2⟩
      · rintro σ2 H3 ⟨z, x3, rfl, hz, hq3, hP3, S3, kp3⟩
        refine ⟨_, rfl, .inl ⟨rfl, _, SqL.of hq3⟩, _, rfl, _, rfl, p, cc, rfl, S3, fun n H4 hn S4 k4 => ⟨by show 2 ≤ sizeLine; decide, fun t ht => ?_⟩⟩
        have hq4 := k4 q _ hq3 nqp
        have ntq : t ≠ q := (ne_of_none hq4 ht).symm
        refine ⟨q, _, _, rfl, rfl, (by rw [upd_ne ntq.symm]; exact hq4), (by show xs.length < sizeLine; exact Nat.lt_of_le_of_lt (show xs.length ≤ 1000 by omega) (by decide)), ?_⟩
        have s5 : Same H4 (upd H4 t (.tup [.str z, .int n])) := Same.new ht
        have kq : ∀ c o, (upd H4 t (.tup [.str z, .int n])) c = some o → c ≠ q → (upd (upd H4 t (.tup [.str z, .int n])) q (.lst (xs ++ [.ref t]))) c = some o := fun c o e n => by rw [upd_ne n]; exact e
        have hP5 : PrL (upd (upd H4 t (.tup [.str z, .int n])) q (.lst (xs ++ [.ref t]))) xs ps := hP3.mono fun c a b e => by
          have cq : c ≠ q := by
            rintro rfl
            rw [e] at hq3
            cases hq3
          exact kq c _ (s5 c _ (k4 c _ e (S3.tup_p e))) cq
        refine ⟨xs ++ [.ref t], ps ++ [(z, n)], _, _, rfl, upd_same, hP5.snoc (kq t _ upd_same ntq), ?_, by rw [List.length_append, hL]; rfl, ?_, ?_⟩
        · intro r hr'
          rcases List.mem_append.mp hr' with e | e
          · exact hG r e
          · rw [List.mem_singleton.mp e]
            exact ⟨hz, hn⟩
        · exact S4.keep fun b o hb e => kq b o (s5 b o e) (by
            rcases hb with rfl | rfl
            · exact nqp.symm
            · exact nqc.symm)
        · intro b o e nb
          exact kq b o (s5 b o (k4 b o (kp3 b o e nb) nb)) (ne_of_none e hq)
    · rintro σ' H' ⟨xs, ps, x3, x4, rfl, hq', hP, hG, hL, S', kp'⟩
      exact ⟨_, rfl, k q H' xs ps hq hq' hP hG (by omega) S' kp'⟩
end
end Cs

set_option Elab.async false
set_option linter.all false
set_option maxRecDepth 100000
set_option maxHeartbeats 4000000
/-! The program's words: is_integer, is_word, is_small, is_pair, distinct. -/
namespace Cs
open PySem L2
/-- a value of a built-in type that is no int -/
def NotInt (K : PySem.W.Frag) (H : Hp) (x : V) : Prop := ∃ ty : String, TyX K H x (.type ty) ∧ (ty = "bool" ∨ kitB ty "int" = some false)
def spIsInteger (K : PySem.W.Frag) : Sp := fun vs H Q _ => (∃ n : Int, vs = [.int n] ∧ Q (.bl true) H) ∨ (∃ x, vs = [x] ∧ NotInt K H x ∧ Q (.bl false) H)
def spIsSmall (K : PySem.W.Frag) : Sp := fun vs H Q _ => (∃ n : Int, vs = [.int n] ∧ Q (.bl (decide (-(10 ^ 30) < n) && decide (n < 10 ^ 30))) H) ∨ (∃ x, vs = [x] ∧ NotInt K H x ∧ Q (.bl false) H)
def spIsWord (K : PySem.W.Frag) : Sp := fun vs H Q _ => (∃ z : Str, vs = [.str z] ∧ z.length ≤ 100000 ∧ ∀ H', Same H H' → Q (.bl (wordB z)) H') ∨ (∃ x ty, vs = [x] ∧ TyX K H x (.type ty) ∧ kitB ty "str" = some false ∧ Q (.bl false) H)
/-- of a good pair -/
def spIsPair (K : PySem.W.Frag) : Sp := fun vs H Q _ => ∃ (t : Addr) (z : Str) (n : Int), vs = [.ref t] ∧ H t = some (.tup [.str z, .int n]) ∧ Word z ∧ Small n ∧ ∀ H', Same H H' → Q (.bl true) H'
def spDistinct (K : PySem.W.Frag) : Sp := fun vs H Q _ => ∃ (a : Addr) (zs : List Str), vs = [.ref a] ∧ SqL K H a (zs.map V.str) ∧ zs.length ≤ 1000 ∧
  ∀ (p : Addr) (H' : Hp) (ws : List Str), H p = none → Same H H' → H' p = some (.lst (ws.map V.str)) → Asc ws → (∀ z, z ∈ ws ↔ z ∈ zs) → ws.length ≤ zs.length → Q (.ref p) H'
theorem wordB_of {z : Str} (h : Word z) : wordB z = true := by
  unfold wordB
  simp only [Bool.and_eq_true, decide_eq_true_eq, List.all_eq_true]
  exact ⟨⟨h.1, h.2.1⟩, h.2.2⟩
theorem kit_int {K : PySem.W.Frag} {H : Hp} {x : V} (h : NotInt K H x) : ∃ ty, TyX K H x (.type ty) ∧ (ty = "bool" ∨ kitB ty "int" = some false) := h
theorem yes_it {σ : L2.St} {H : Hp} {A B : Hp → Prop} (h : A H) : tYes σ H (fun b H3 => if b = true then A H3 else B H3) := iteT (A := A H) (B := B H) h
/-- a set comprehension of texts over a walk -/
theorem scT_it {J : It} {n : Nat} {G : Hp → Prop} {Y : Nat → Hp → V → Hp → Prop} (wk : Walk J n G Y) {w : World} {g : TG} {tt : TT} {te : TE} {vs : List Nat} {σ : L2.St} {H1 : Hp} {D : Addr} {Qd : Hp → Prop} (Pv : Nat → Hp → Prop)
    (h0 : Pv 0 (upd H1 D (TSetO w D []))) (hG : ∀ i H, i ≤ n → Pv i H → G H)
    (hs : ∀ i x H H', i < n → Pv i H → Y i H x H' → g x (wipe σ vs) H' fun σ2 H2 => wipe σ2 vs = wipe σ vs ∧ tt σ2 H2 fun b H3 =>
      if b = true then te σ2 H3 fun y H4 => ∃ (z : Str) (zs : List Str), y = .str z ∧ H4 D = some (TSetO w D zs) ∧ zs.length + 1 < scanBound ∧ Pv (i + 1) (upd H4 D (TSetO w D (addT zs z))) else Pv (i + 1) H3)
    (hd : ∀ H, Pv n H → Qd H) :
    ∃ W : Nat → Nat → Hp → Prop, (∃ m, W 0 m (upd H1 D (TSetO w D []))) ∧ ∀ i m H, W i m H →
      (J.stop i H ∧ Qd H) ∨ (J.go i H ∧ ∃ Nx : Hp → Prop, (∀ H', Nx H' → ∃ m', m' < m ∧ W (i + 1) m' H') ∧ ∀ x H', J.yld i H x H' → g x (wipe σ vs) H' fun σ2 H2 => wipe σ2 vs = wipe σ vs ∧ tt σ2 H2 fun b H3 =>
        if b = true then te σ2 H3 fun y H4 => ∃ (z : Str) (zs : List Str), y = .str z ∧ H4 D = some (TSetO w D zs) ∧ zs.length + 1 < scanBound ∧ Nx (upd H4 D (TSetO w D (addT zs z))) else Nx H3) := by
  refine ⟨fun i m H => m = n - i ∧ i ≤ n ∧ Pv i H, ⟨n, by simp, Nat.zero_le _, h0⟩, ?_⟩
  rintro i m H ⟨rfl, hi, p⟩
  by_cases lt : i < n
  · exact .inr ⟨wk.goes i H lt (hG i H hi p), Pv (i + 1), fun H' r => ⟨n - (i + 1), by omega, rfl, lt, r⟩, fun x H' y => hs i x H H' lt p (wk.yields i H x H' lt (hG i H hi p) y)⟩
  · obtain rfl : i = n := by omega
    exact .inl ⟨wk.stops H (hG i H hi p), hd H p⟩
section
variable {P : Program} {w : World} {K : PySem.W.Frag} {mg : Str → Option Value} {base : Heap}
theorem ok_is_integer {f : Addr} {fd : FuncData} (F : Fun K "is_integer" "is_integer" s_is_integer f fd) (g : Bi mg) : FnOk P w K mg base CX0 1 f fd ["thing"] (spIsInteger K) := by
  refine F.ok sc_is_integer (fun vs H Q E h => ?_) (fun cdv A outer s H vs Q E hr h => ?_)
  · rcases h with ⟨_, rfl, _⟩ | ⟨_, rfl, _⟩ <;> rfl
  · refine ⟨_, (pss_one (ps_ret (pe_and (pe_callB call_isi (by rfl) g.isinstance (by decide +kernel) (pa_cons (pv 0) (pa_cons (pe_bltn (v := .ty "int") (by rfl) g.int (by decide +kernel) rfl) pa_nil))) (pe_one (pe_not (pe_callB call_isi (by rfl) g.isinstance (by decide +kernel) (pa_cons (pv 0) (pa_cons (pe_bltn (v := .ty "bool") (by rfl) g.bool (by decide +kernel) rfl) pa_nil)))))))), ?_⟩
    rcases h with ⟨n, rfl, q⟩ | ⟨x, rfl, ⟨ty, ht, hc⟩, q⟩
    · refine ⟨_, rfl, _, _, _, _, true, rfl, .ty "int", .base (.int n), kit_ty (by decide +kernel), _, rfl, iteT ?_⟩
      exact ⟨_, rfl, _, _, _, _, false, rfl, .ty "bool", .base (.int n), kit_ty (by decide +kernel), _, rfl, q⟩
    · rcases hc with e | e
      · subst e
        refine ⟨_, rfl, _, _, _, _, true, rfl, .ty "int", ht, kit_ty (by decide +kernel), _, rfl, iteT ?_⟩
        exact ⟨_, rfl, _, _, _, _, true, rfl, .ty "bool", ht, kit_ty (by decide +kernel), _, rfl, q⟩
      · exact ⟨_, rfl, _, _, _, _, false, rfl, .ty "int", ht, kit_ty e, _, rfl, iteF q⟩
theorem ok_is_small {f fIi : Addr} {fd fdIi : FuncData} (F : Fun K "is_small" "is_small" s_is_small f fd) (g : Bi mg) (FIi : Def P w K mg base CX0 1 "is_integer" ["thing"] (spIsInteger K) fIi fdIi) : FnOk P w K mg base CX0 2 f fd ["thing"] (spIsSmall K) := by
  obtain ⟨GIi, mIi, _, bIi⟩ := id FIi
  refine F.ok sc_is_small (fun vs H Q E h => ?_) (fun cdv A outer s H vs Q E hr h => ?_)
  · rcases h with ⟨_, rfl, _⟩ | ⟨_, rfl, _⟩ <;> rfl
  · have hrIi : Room 1 _ := hr.mono (by decide)
    refine ⟨_, (pss_one (ps_ret (pe_and (pe_call GIi hrIi rfl mIi FIi.kp bIi .nil pass0 (pa_cons (pv 0) pa_nil)) (pe_one (pe_chain op_lt op_lt (pe_un un_neg (pe_op op_pow pe_int pe_int)) (pv 0) (pe_op op_pow pe_int pe_int)))))), ?_⟩
    rcases h with ⟨n, rfl, q⟩ | ⟨x, rfl, hx, q⟩
    · refine ⟨_, rfl, .inl ⟨n, rfl, _, rfl, iteT ?_⟩⟩
      refine ⟨_, _, rfl, rfl, ⟨by decide, by decide, by decide⟩, _, rfl, _, rfl, _, _, rfl, rfl, _, rfl, ?_⟩
      have e : ((10 : Int) ^ (30 : Int).toNat) = 10 ^ 30 := rfl
      by_cases c : -(10 ^ 30 : Int) < n
      · rw [decide_eq_true (show -((10 : Int) ^ (30 : Int).toNat) < n from c)]
        rw [decide_eq_true c] at q
        exact iteT ⟨_, _, rfl, rfl, ⟨by decide, by decide, by decide⟩, _, _, rfl, rfl, q⟩
      · rw [decide_eq_false (show ¬ -((10 : Int) ^ (30 : Int).toNat) < n from c)]
        rw [decide_eq_false c] at q
        exact iteF q
    · exact ⟨_, rfl, .inr ⟨x, rfl, hx, _, rfl, iteF q⟩⟩
theorem ok_is_word {f : Addr} {fd : FuncData} {tk : Tok} (F : Fun K "is_word" "is_word" s_is_word f fd) (g : Bi mg) (mLET : mg "LETTERS" = some (.str LET tk)) : FnOk P w K mg base CX0 1 f fd ["thing"] (spIsWord K) := by
  refine F.ok sc_is_word (fun vs H Q E h => ?_) (fun cdv A outer s H vs Q E hr h => ?_)
  · rcases h with ⟨_, rfl, _⟩ | ⟨_, _, rfl, _⟩ <;> rfl
  · refine ⟨_, (pss_cons (ps_if (PW.pt (pw_or (pt_not (pt_val (pe_callB call_isi (by rfl) g.isinstance (by decide +kernel) (pa_cons (pv 0) (pa_cons (pe_bltn (v := .ty "str") (by rfl) g.str (by decide +kernel) rfl) pa_nil))))) (pw_or1 (pt_not (pt_chain op_le op_le pe_int (pe_callB call_len (by rfl) g.len PySem.boot_len (pa_cons (pv 0) pa_nil)) pe_int))))) (pss_one (ps_ret pe_bl)) pss_nil)
      (pss_one (ps_ret (pe_callB (cr_all rfl) (by rfl) g.all (by decide +kernel) (pa_cons (pe_lc (own := [("sign", 1)]) (g := gName 1)  (by rfl) sc_is_word.nd (pi_str (pv 0)) (blkOk_by (own := [("sign", 1)]) (N := ["thing", "sign"]) (sc := defScope s_is_word) (by decide +kernel)) (fun _ _ _ _ _ => (pg_name (i := 1) sc_is_word.nd rfl (Or.inl rfl))) (fun _ _ _ _ _ => pts_nil) (fun _ _ _ _ _ => (pe_cmpR op_in_sign (pv 1) (pe_glob (v := .str LET) rfl mLET ⟨_, rfl⟩) (by rfl)))) pa_nil))))), ?_⟩
    rcases h with ⟨z, rfl, hz, q⟩ | ⟨x, ty, rfl, ht, hc, q⟩
    · refine ⟨_, rfl, _, _, _, _, true, rfl, .ty "str", .base (.str z), kit_ty (by decide +kernel), _, rfl, iteF ?_⟩
      have hl : z.length ≤ sizeLine := Nat.le_trans hz (by decide)
      refine ⟨_, rfl, _, _, rfl, ⟨hl, rfl⟩, _, _, rfl, rfl, _, rfl, ?_⟩
      have go : 1 ≤ z.length → z.length ≤ 8 → Q (.bl (wordB z)) H := fun _ _ => q H (Same.refl H)
      by_cases c : (1 : Int) ≤ (z.length : Int)
      · rw [decide_eq_true c]
        refine iteT ⟨_, _, rfl, rfl, _, rfl, ?_⟩
        by_cases d : ((z.length : Nat) : Int) ≤ 8
        · rw [decide_eq_true d]
          refine iteF ?_
          refine ⟨_, rfl, z, rfl, fun D hD => ?_⟩
          refine lc_it walk_str (fun i H' => Same H H' ∧ H' D = some (.lst ((z.cps.toList.take i).map fun c => .bl (decide (c ∈ LET.cps.toList))))) ⟨Same.new hD, upd_same⟩ (fun _ _ _ _ => True.intro) ?_ ?_
          · rintro i x H' H2 hi ⟨s', hD'⟩ ⟨rfl, c, hc, rfl⟩
            have hc' : z.cps.toList[i]? = some c := by rw [Array.getElem?_toList]; exact hc
            refine ⟨rfl, yes_it ?_⟩
            refine ⟨_, rfl, c, LET, rfl, rfl, _, hD', ?_, ?_, ?_⟩
            · rw [List.length_map, List.length_take]
              exact Nat.lt_of_le_of_lt (Nat.min_le_left _ _) (Nat.lt_of_lt_of_le hi hl)
            · exact fun b o e => by rw [upd_ne (ne_of_none e hD)]; exact s' b o e
            · rw [upd_same, List.take_succ, hc', List.map_append]
              rfl
          · rintro H' ⟨s', hD'⟩
            refine ⟨D, (z.cps.toList.map fun c => decide (c ∈ LET.cps.toList)), rfl, SqL.of ?_, ?_⟩
            · rw [hD', List.map_map, List.take_of_length_le (by rw [Array.length_toList]; exact Nat.le_refl _)]
              rfl
            · have e : (z.cps.toList.map fun c => decide (c ∈ LET.cps.toList)).all id = wordB z := by
                unfold wordB
                rw [List.all_map, decide_eq_true (show 1 ≤ z.length by omega), decide_eq_true (show z.length ≤ 8 by omega)]
                rfl
              rw [e]
              exact q H' s'
        · rw [decide_eq_false d]
          refine iteT ?_
          have e : wordB z = false := by
            unfold wordB
            rw [decide_eq_false (show ¬ z.length ≤ 8 by omega)]
            simp
          have := q H (Same.refl H)
          rw [e] at this
          exact this
      · rw [decide_eq_false c]
        refine iteF ⟨_, rfl, iteT ?_⟩
        have e : wordB z = false := by
          unfold wordB
          rw [decide_eq_false (show ¬ 1 ≤ z.length by omega)]
          simp
        have := q H (Same.refl H)
        rw [e] at this
        exact this
    · exact ⟨_, rfl, _, _, _, _, false, rfl, .ty "str", ht, kit_ty hc, _, rfl, iteT q⟩
theorem ok_is_pair {f fIw fIs : Addr} {fd fdIw fdIs : FuncData} (F : Fun K "is_pair" "is_pair" s_is_pair f fd) (g : Bi mg) (FIw : Def P w K mg base CX0 1 "is_word" ["thing"] (spIsWord K) fIw fdIw) (FIs : Def P w K mg base CX0 2 "is_small" ["thing"] (spIsSmall K) fIs fdIs) :
    FnOk P w K mg base CX0 3 f fd ["thing"] (spIsPair K) := by
  obtain ⟨GIw, mIw, _, bIw⟩ := id FIw
  obtain ⟨GIs, mIs, _, bIs⟩ := id FIs
  refine F.ok sc_is_pair (fun vs H Q E h => ?_) (fun cdv A outer s H vs Q E hr h => ?_)
  · obtain ⟨_, _, _, rfl, _⟩ := h
    rfl
  · obtain ⟨t, z, n, rfl, ht, hz, hn, q⟩ := h
    have hrIw : Room 1 _ := hr.mono (by decide)
    have hrIs : Room 2 _ := hr.mono (by decide)
    refine ⟨_, (pss_one (ps_ret (pe_and (pe_callB call_isi (by rfl) g.isinstance (by decide +kernel) (pa_cons (pv 0) (pa_cons (pe_bltn (v := .ty "tuple") (by rfl) g.tuple (by decide +kernel) rfl) pa_nil))) (pe_and (pe_cmpR op_eq (pe_callB call_len (by rfl) g.len PySem.boot_len (pa_cons (pv 0) pa_nil)) pe_int (nomark _)) (pe_and (pe_call GIw hrIw rfl mIw FIw.kp bIw .nil pass0 (pa_cons (pe_ix ix_tup (pv 0) pe_int (fun _ _ => rfl)) pa_nil)) (pe_one (pe_call GIs hrIs rfl mIs FIs.kp bIs .nil pass0 (pa_cons (pe_ix ix_tup (pv 0) pe_int (fun _ _ => rfl)) pa_nil)))))))), ?_⟩
    refine ⟨_, rfl, _, _, _, _, true, rfl, .ty "tuple", .base (.tup ht), kit_ty (by decide +kernel), _, rfl, iteT ?_⟩
    refine ⟨_, rfl, _, _, rfl, .inr ⟨_, SqT.of ht, rfl⟩, rfl, _, rfl, iteT ?_⟩
    refine ⟨_, rfl, t, _, 0, _, rfl, rfl, SqT.of ht, rfl, .inl ⟨z, rfl, Nat.le_trans hz.2.1 (by decide), fun H' s' => ?_⟩⟩
    rw [wordB_of hz]
    refine ⟨_, rfl, iteT ?_⟩
    refine ⟨_, rfl, t, _, 1, _, rfl, rfl, SqT.of (s' _ _ ht), rfl, .inl ⟨n, rfl, ?_⟩⟩
    rw [decide_eq_true hn.1, decide_eq_true hn.2]
    exact q H' s'
theorem ok_distinct {f : Addr} {fd : FuncData} (F : Fun K "distinct" "distinct" s_distinct f fd) (g : Bi mg) : FnOk P w K mg base CX0 1 f fd ["words"] (spDistinct K) := by
  refine F.ok sc_distinct (fun vs H Q E h => ?_) (fun cdv A outer s H vs Q E hr h => ?_)
  · obtain ⟨_, _, rfl, _⟩ := h
    rfl
  · obtain ⟨a, zs, rfl, ha, hl, q⟩ := h
    refine ⟨_, (pss_one (ps_ret (pe_callB (cr_sortT rfl) (by rfl) g.sorted (by decide +kernel) (pa_cons (pe_scT (own := [("word", 1)]) (g := gName 1)  (by rfl) sc_distinct.nd (pi_list (pv 0)) (blkOk_by (own := [("word", 1)]) (N := ["words", "word"]) (sc := defScope s_distinct) (by decide +kernel)) (fun _ _ _ _ _ => (pg_name (i := 1) sc_distinct.nd rfl (Or.inl rfl))) (fun _ _ _ _ _ => pts_nil) (fun _ _ _ _ _ => (pe_callTy SkE.call_str_str (by rfl) g.str (by decide +kernel) (pa_cons (pv 1) pa_nil)))) pa_nil)))), ?_⟩
    refine ⟨_, rfl, a, rfl, ⟨_, ha⟩, fun D hD => ?_⟩
    refine scT_it walk_list (fun i H' => Same H H' ∧ H' D = some (TSetO w D (once (zs.take i)))) ⟨Same.new hD, upd_same⟩ (fun i H' _ h => h.1.seq ha) ?_ ?_
    · rintro i x H' H2 hi ⟨s', hD'⟩ ⟨rfl, hx⟩
      rw [List.length_map] at hi
      have ex : x = V.str zs[i] := by
        rw [List.getElem?_map, List.getElem?_eq_getElem hi] at hx
        exact (Option.some.inj hx).symm
      subst ex
      refine ⟨rfl, yes_it ?_⟩
      refine ⟨_, rfl, _, rfl, zs[i], _, rfl, hD', ?_, ?_, ?_⟩
      · have h1 := once_len (zs.take i)
        rw [List.length_take] at h1
        exact Nat.lt_of_le_of_lt (show (once (zs.take i)).length + 1 ≤ 1001 by omega) (by decide)
      · exact fun b o e => by rw [upd_ne (ne_of_none e hD)]; exact s' b o e
      · rw [upd_same, List.take_succ, List.getElem?_eq_getElem hi]
        show some (TSetO w D (addT (once (zs.take i)) zs[i])) = some (TSetO w D (once (zs.take i ++ [zs[i]])))
        rw [once_snoc]
    · rintro H' ⟨s', hD'⟩
      rw [List.length_map, List.take_length] at hD'
      have h1 := once_len zs
      refine ⟨D, _, rfl, hD', by omega, fun ys p hp hs hn => ?_⟩
      refine q p _ ys (s'.free hn) (s'.trans (Same.new hn)) upd_same (asc_of_sorted hs (hp.nodup_iff.mpr (once_nodup zs))) (fun z => by rw [hp.mem_iff, once_mem]) (by rw [hp.length_eq]; exact h1)
end
end Cs

set_option Elab.async false
set_option linter.all false
set_option maxRecDepth 100000
set_option maxHeartbeats 4000000
/-! Counts.__init__ with pairs and no keywords. -/
namespace Cs
open PySem L2
/-- Counts at p, its dict at d with the table t -/
structure Cnt (C : Addr) (H : Hp) (p d : Addr) (t : Tab) : Prop where
  ob : ∃ dx, H p = some (.ins C dx [("held", .ref d)])
  dc : H d = some (.dK (tv t))
  hd : Held t
  wd : ∀ z ∈ keys t, Word z
theorem put_new {t : Tab} {z : Str} {n : Int} (h : z ∉ keys t) : put t z n = t ++ [(z, n)] := by
  unfold put
  rw [any_keys, if_neg (by simpa using h)]
theorem noZero_take {t : Tab} (nd : (keys t).Nodup) {i : Nat} {q : Str × Int} (h : t[i]? = some q) :
    noZero (t.take (i + 1)) = if q.2 ≠ 0 then put (noZero (t.take i)) q.1 q.2 else noZero (t.take i) := by
  have e : t.take (i + 1) = t.take i ++ [q] := by rw [List.take_succ, h]; rfl
  unfold noZero
  rw [e, List.filter_append]
  by_cases z : q.2 ≠ 0
  · rw [if_pos z, put_new]
    · rw [List.filter_cons, if_pos (decide_eq_true z)]
      rfl
    · intro m
      obtain ⟨r, hr, er⟩ := List.mem_map.mp m
      have h1 : r ∈ t.take i := (List.mem_filter.mp hr).1
      have h2 : (keys (t.take i ++ [q])).Nodup := by
        rw [← e]
        unfold keys
        rw [List.map_take]
        exact nd.sublist (List.take_sublist _ _)
      unfold keys at h2
      rw [List.map_append, List.nodup_append] at h2
      exact h2.2.2 r.1 (List.mem_map.mpr ⟨r, h1, rfl⟩) q.1 (by simp) er
  · rw [if_neg z, List.filter_cons, if_neg (by simpa using z)]
    simp
theorem addUp_keys (z : Str) : ∀ ps, z ∈ keys (addUp ps) → ∃ q ∈ ps, q.1 = z := snoc_rec (fun h => nomatch h) fun l a ih h => by
  rw [addUp_snoc] at h
  rcases mem_keys_put.mp h with m | m
  · obtain ⟨q, hq, e⟩ := ih m
    exact ⟨q, List.mem_append_left _ hq, e⟩
  · exact ⟨a, List.mem_append_right _ (List.mem_singleton.mpr rfl), m.symm⟩
theorem noZero_keys {t : Tab} {z : Str} (h : z ∈ keys (noZero t)) : z ∈ keys t := by
  obtain ⟨q, hq, e⟩ := List.mem_map.mp h
  exact List.mem_map.mpr ⟨q, (noZero_mem.mp hq).1, e⟩
/-- all the words of pairs are words -/
def WdP (ps : List (Str × Int)) : Prop := ∀ q ∈ ps, Word q.1
theorem WdP.held {ps : List (Str × Int)} (h : WdP ps) : ∀ z ∈ keys (noZero (addUp ps)), Word z := fun z m => by
  obtain ⟨q, hq, e⟩ := addUp_keys z ps (noZero_keys m)
  rw [← e]
  exact h q hq
/-- a dict comprehension over a walk -/
theorem dc_it {J : It} {n : Nat} {G : Hp → Prop} {Y : Nat → Hp → V → Hp → Prop} (wk : Walk J n G Y) {g : TG} {tt : TT} {tk tx : TE} {vs : List Nat} {σ : L2.St} {H1 : Hp} {D : Addr} {Qd : Hp → Prop} (Pv : Nat → Hp → Prop)
    (h0 : Pv 0 (upd H1 D (.dK []))) (hG : ∀ i H, i ≤ n → Pv i H → G H)
    (hs : ∀ i x H H', i < n → Pv i H → Y i H x H' → g x (wipe σ vs) H' fun σ2 H2 => wipe σ2 vs = wipe σ vs ∧ tt σ2 H2 fun b H3 =>
      if b = true then tk σ2 H3 fun y H4 => tx σ2 H4 fun z H5 => ∃ kvs k, y = kV k ∧ H5 D = some (.dK kvs) ∧ kvs.length < sizeLine ∧ Pv (i + 1) (upd H5 D (.dK (putK kvs k z))) else Pv (i + 1) H3)
    (hd : ∀ H, Pv n H → Qd H) :
    ∃ W : Nat → Nat → Hp → Prop, (∃ m, W 0 m (upd H1 D (.dK []))) ∧ ∀ i m H, W i m H →
      (J.stop i H ∧ Qd H) ∨ (J.go i H ∧ ∃ Nx : Hp → Prop, (∀ H', Nx H' → ∃ m', m' < m ∧ W (i + 1) m' H') ∧ ∀ x H', J.yld i H x H' → g x (wipe σ vs) H' fun σ2 H2 => wipe σ2 vs = wipe σ vs ∧ tt σ2 H2 fun b H3 =>
        if b = true then tk σ2 H3 fun y H4 => tx σ2 H4 fun z H5 => ∃ kvs k, y = kV k ∧ H5 D = some (.dK kvs) ∧ kvs.length < sizeLine ∧ Nx (upd H5 D (.dK (putK kvs k z))) else Nx H3) := by
  refine ⟨fun i m H => m = n - i ∧ i ≤ n ∧ Pv i H, ⟨n, by simp, Nat.zero_le _, h0⟩, ?_⟩
  rintro i m H ⟨rfl, hi, p⟩
  by_cases lt : i < n
  · exact .inr ⟨wk.goes i H lt (hG i H hi p), Pv (i + 1), fun H' r => ⟨n - (i + 1), by omega, rfl, lt, r⟩, fun x H' y => hs i x H H' lt p (wk.yields i H x H' lt (hG i H hi p) y)⟩
  · obtain rfl : i = n := by omega
    exact .inl ⟨wk.stops H (hG i H hi p), hd H p⟩
theorem val_getD (t : Tab) (z : Str) : ((look t z).map V.int).getD (.int 0) = .int (val t z) := by
  unfold val
  cases look t z <;> rfl
/-- __init__ behind its binding: the pairs a tuple at pt, the keywords an empty dict at dn -/
def spInitB (C : Addr) : Sp := fun vs H Q _ => ∃ (x pt dn dx : Addr) (xs : List V) (ps : List (Str × Int)), vs = [.ref x, .ref pt, .ref dn] ∧ H x = some (.ins C dx []) ∧ H pt = some (.tup xs) ∧ PrL H xs ps ∧ H dn = some (.dK []) ∧ ps.length ≤ 1000 ∧ WdP ps ∧
  ∀ (d : Addr) (H' : Hp), H d = none → Cnt C H' x d (noZero (addUp ps)) → (∀ b o, H b = some o → b ≠ x → H' b = some o) → Q .non H'
section
variable {P : Program} {w : World} {K : PySem.W.Frag} {mg : Str → Option Value} {base : Heap}
theorem init_body {C f : Addr} {cdv : Value} {A : Around} {outer : List Env} {s : Shared} {H : Hp} {vs : List V} {Q : VK} {E : XK} (g : Bi mg) (cl : Cls K C) (nH : NoAttr K C "held")
    (hr : Room 0 (A.deeper (PyProof.Rows.envOfC "Counts.__init__" (defScope s_Counts_init) s.heap.objs.size f cdv))) (h : spInitB C vs H Q E) :
    ∃ t, PSs (cxOf CX0 P w K mg base ["self", "pairs", "numbers", "word", "held", "number"] "Counts.__init__" (defScope s_Counts_init) f cdv A outer s H E).nox (defBody s_Counts_init) t ∧ t { nx := fun _ H' => Q .non H', rt := Q } (L2.start ["self", "pairs", "numbers", "word", "held", "number"] vs) H := by
  obtain ⟨x, pt, dn, dx, xs, ps, rfl, hx, hpt, hP, hdn, hl, hW, k⟩ := h
  have hu := hu_of hr
  refine ⟨_, (pss_cons (ps_lock (ps_for PassesOwn.never rfl (pi_keys (pv 2)) (pg_name (i := 3) sc_Counts_init.nd rfl (Or.inl rfl)) pss_never))
      (pss_cons (ps_set (i := 4) sc_Counts_init.nd rfl (Or.inl rfl) pe_dnewK)
      (pss_cons (ps_for PassesOwn.never rfl (pi_list (pe_op op_cat (pe_callTy call_list_of (by rfl) g.list (by decide +kernel) (pa_cons (pv 1) pa_nil)) (LiI.pe_listItems rfl (pv 2) (by rfl) g.list (by decide +kernel)))) (pg_tup rfl (pgs_cons (pg_name (i := 3) sc_Counts_init.nd rfl (Or.inl rfl)) (pgs_cons (pg_name (i := 5) sc_Counts_init.nd rfl (Or.inl rfl)) pgs_nil))) (pss_one (ps_dput hu (pv 4) (pv 3) (pe_op op_add (pe_dget2 hu (pv 4) (pv 3) pe_int ⟨rfl, rfl, rfl, rfl⟩) (pv 5)) rfl)))
      (pss_one (ps_fld (pv 0) (pe_lock (pe_dc (own := [("word", 3), ("number", 5)]) (g := gTup K 2 (gCons (gName 3) (gCons (gName 5) gNil))) (by rfl) sc_Counts_init.nd (pi_items (pv 4)) (blkOk_by (own := [("word", 3), ("number", 5)]) (N := ["self", "pairs", "numbers", "word", "held", "number"]) (sc := defScope s_Counts_init) (by decide +kernel)) (fun _ _ _ _ _ => (pg_tup rfl (pgs_cons (pg_name (i := 3) sc_Counts_init.nd rfl (Or.inl rfl)) (pgs_cons (pg_name (i := 5) sc_Counts_init.nd rfl (Or.inl rfl)) pgs_nil)))) (fun _ _ _ _ _ => (pts_one (pt_cmpR op_ne (pv 5) pe_int (nomark _)))) (fun _ _ _ _ _ => (pv 3)) (fun _ _ _ _ _ => (pv 5)))) rfl))))), ?_⟩
  have nxd : x ≠ dn := ne_of hx hdn (by intro z; cases z)
  have npd : pt ≠ dn := ne_of hpt hdn (by intro z; cases z)
  have nxp : x ≠ pt := ne_of hx hpt (by intro z; cases z)
  -- for word in numbers: nothing
  refine ⟨dn, _, hdn, trivial, fun od => ?_⟩
  refine ⟨_, rfl, dn, od, rfl, .inl ⟨[], upd_same, ?_⟩⟩
  refine for_it walk_keys (fun i σ' H' => i = 0 ∧ H' = upd H dn (.frz od (.dK [])) ∧ σ' = [some (.ref x), some (.ref pt), some (.ref dn), none, none, none]) ⟨rfl, rfl, rfl⟩ (fun i σ' H' _ h => by rw [h.2.1]; exact upd_same) (fun i x σ' H' H2 hi => absurd hi (Nat.not_lt_zero _)) ?_
  rintro σ' H' ⟨_, rfl, rfl⟩
  refine ⟨upd_same, ?_⟩
  have eH : upd (upd H dn (.frz od (.dK []))) dn (.dK []) = H := by
    funext b
    by_cases e : b = dn
    · rw [e, upd_same, hdn]
    · rw [upd_ne e, upd_ne e]
  rw [eH]
  -- held = {}
  intro e he
  have s1 : Same H (upd H e (.dK [])) := Same.new he
  -- list(pairs) + list(numbers.items())
  refine ⟨_, rfl, pt, _, rfl, .inr (SqT.of (s1 _ _ hpt)), fun l1 hl1 => ?_⟩
  have s2 := s1.trans (Same.new (o := .lst xs) hl1)
  refine ⟨_, rfl, dn, [], rfl, s2 _ _ hdn, fun H3 p3 ts sm hp3 hts hnp hlst hpr => ?_⟩
  cases hpr
  have nel : e ≠ l1 := ne_of_none upd_same hl1
  refine ⟨l1, p3, xs, [], rfl, rfl, sm _ _ upd_same, hlst, ?_, fun l hl4 => ?_⟩
  · rw [hP.length]
    exact Nat.le_trans hl (by decide)
  rw [List.append_nil]
  have s3 : Same H H3 := s2.trans sm
  have s4 : Same H (upd H3 l (.lst xs)) := s3.trans (Same.new hl4)
  have he3 : H3 e = some (.dK []) := sm _ _ (by rw [upd_ne nel]; exact upd_same)
  have nel4 : e ≠ l := ne_of_none he3 hl4
  have hlx : H l = none := s3.free hl4
  refine ⟨l, rfl, ⟨_, SqL.of upd_same⟩, for_list (K := K) (a := l) (xs := xs) (fun i σ' H' => ∃ x3 x5 : Option V, σ' = [some (.ref x), some (.ref pt), some (.ref dn), x3, some (.ref e), x5] ∧ Same H H' ∧ H' l = some (.lst xs) ∧ H' e = some (.dK (tv (addUp (ps.take i)))))
    ⟨_, _, rfl, s4, upd_same, by rw [upd_ne nel4]; exact he3⟩ (fun i σ' H' _ ⟨_, _, _, _, h, _⟩ => SqL.of h) ?_ ?_⟩
  · rintro i y σ' H' hy ⟨x3, x5, rfl, s', hl', he'⟩
    have hi : i < ps.length := by
      have := (List.getElem?_eq_some_iff.mp hy).1
      rw [hP.length] at this
      exact this
    obtain ⟨t, et, ht⟩ := hP.at (List.getElem?_eq_getElem hi)
    rw [et] at hy
    obtain rfl := Option.some.inj hy
    refine ⟨t, _, rfl, SqT.of (s' _ _ ht), rfl, _, _, rfl, _, _, rfl, rfl, ?_⟩
    refine ⟨_, rfl, e, rfl, .inl ⟨_, .inl he'⟩, _, rfl, _, DGet.k (k := Sum.inr ps[i].1) he', _, rfl, val (addUp (ps.take i)) ps[i].1, ps[i].2, (by rw [tv_val]; exact val_getD _ _), rfl, _, rfl, _, rfl, e, _, rfl, DPut.k (k := Sum.inr ps[i].1) he' ?_, ?_⟩
    · rw [tv_len]
      have h1 := addUp_len (ps.take i)
      rw [List.length_take] at h1
      exact Nat.lt_of_le_of_lt (show (addUp (ps.take i)).length ≤ 1000 by omega) (by decide)
    · refine ⟨_, _, rfl, fun b o q => by rw [upd_ne (ne_of_none q he)]; exact s' b o q, by rw [upd_ne (ne_of hl' he' (by intro z; cases z))]; exact hl', ?_⟩
      rw [upd_same, tv_put, List.take_succ, List.getElem?_eq_getElem hi]
      show some (HO.dK (tv (put (addUp (ps.take i)) ps[i].1 (val (addUp (ps.take i)) ps[i].1 + ps[i].2)))) = some (HO.dK (tv (addUp (ps.take i ++ [ps[i]]))))
      rw [addUp_snoc]
  · rintro σ' H5 ⟨x3, x5, rfl, s5, hl5, he5⟩
    rw [hP.length, List.take_length] at he5
    generalize et : addUp ps = t at he5
    have ndt : (keys t).Nodup := by rw [← et]; exact addUp_nd ps
    have lent : t.length ≤ 1000 := by rw [← et]; exact Nat.le_trans (addUp_len ps) hl
    -- self.held = {..}
    refine ⟨e, _, he5, trivial, fun oe => ?_⟩
    refine ⟨_, rfl, e, oe, _, rfl, upd_same, fun D hD => ?_⟩
    have nDe : D ≠ e := (ne_of_none upd_same hD).symm
    have hDH : H5 D = none := by rw [upd_ne nDe] at hD; exact hD
    have xe : x ≠ e := ne_of_none hx he
    refine dc_it walk_items (fun i H' => (∀ b o, H5 b = some o → b ≠ e → H' b = some o) ∧ H' e = some (.frz oe (.dK (tv t))) ∧ H' D = some (.dK (tv (noZero (t.take i))))) ⟨fun b o q n => by rw [upd_ne (ne_of_none q hDH), upd_ne n]; exact q, by rw [upd_ne nDe.symm]; exact upd_same, upd_same⟩
      (fun i H' _ h => h.2.1) ?_ ?_
    · rintro i v H' H2 hi ⟨k1, k2, k3⟩ ⟨T, a, b, rfl, hT, rfl, ha, hb⟩
      rw [tv_len] at hi
      have hi2 : (tv t)[i]? = some (Sum.inr t[i].1, V.int t[i].2) := by
        unfold tv
        rw [List.getElem?_map, List.getElem?_eq_getElem hi]
        rfl
      dsimp only at ha hb
      rw [hi2] at ha hb
      obtain rfl : V.str t[i].1 = a := Option.some.inj ha
      obtain rfl : V.int t[i].2 = b := Option.some.inj hb
      have sT : Same H' (upd H' T (.tup [V.str t[i].1, V.int t[i].2])) := Same.new hT
      refine ⟨T, _, rfl, SqT.of upd_same, rfl, _, _, rfl, _, _, rfl, rfl, rfl, _, rfl, rfl, _, rfl, ?_⟩
      have nz := noZero_take ndt (List.getElem?_eq_getElem hi)
      by_cases z : t[i].2 = 0
      · rw [decide_eq_true (show V.int t[i].2 = V.int 0 by rw [z])]
        rw [if_neg (by simpa using z)] at nz
        refine iteF ?_
        refine ⟨fun c o q n => sT _ _ (k1 c o q n), sT _ _ k2, ?_⟩
        rw [nz]
        exact sT _ _ k3
      · rw [decide_eq_false (show ¬ V.int t[i].2 = V.int 0 from fun q => z (V.int.inj q))]
        rw [if_pos z] at nz
        refine iteT ?_
        refine ⟨_, rfl, _, rfl, _, Sum.inr t[i].1, rfl, sT _ _ k3, ?_, ?_, ?_, ?_⟩
        · rw [tv_len]
          have h1 : (noZero (t.take i)).length ≤ (t.take i).length := List.length_filter_le _ _
          rw [List.length_take] at h1
          exact Nat.lt_of_le_of_lt (show (noZero (t.take i)).length ≤ 1000 by omega) (by decide)
        · intro c o q n
          rw [upd_ne (ne_of_none q hDH)]
          exact sT _ _ (k1 c o q n)
        · rw [upd_ne nDe.symm]
          exact sT _ _ k2
        · rw [upd_same, tv_put, nz]
    · rintro H' ⟨k1, k2, k3⟩
      rw [tv_len, List.take_length] at k3
      refine ⟨k2, _, rfl, x, C, dx, [], rfl, ?_, cl, nH, (by show 0 < 1000; decide), ?_⟩
      · rw [upd_ne xe]
        exact k1 _ _ (s5 _ _ hx) xe
      · have nDx : D ≠ x := (ne_of_none (s5 _ _ hx) hDH).symm
        refine k D _ (s5.free hDH) ⟨⟨dx, upd_same⟩, ?_, Held.of (by rw [et]; exact ndt), hW.held⟩ fun b o q n => ?_
        · rw [upd_ne nDx, upd_ne nDe, et]
          exact k3
        · have be : b ≠ e := ne_of_none q he
          rw [upd_ne n, upd_ne be]
          exact k1 _ _ (s5 _ _ q) be
end
end Cs

set_option Elab.async false
set_option linter.all false
set_option maxRecDepth 100000
set_option maxHeartbeats 4000000
/-! Counts: its methods, by what they hold. -/
namespace Cs
open PySem L2
theorem fnR_of {P : Program} {w : World} {K : PySem.W.Frag} {mg : Str → Option Value} {base : Heap} {CX : CXT} {k : Nat} {f : Addr} {fd : FuncData} {ps : List Str} {sp : Sp} (F : FnOk P w K mg base CX k f fd ps sp) (hb : Binds K fd ps []) : FnR P w K mg base CX k f sp := by
  intro A outer s H us vs Q E hr e0 r h
  have hl : us.length = ps.length := by rw [← r.length]; exact F.len _ _ _ _ h
  have kin : K.In s.heap := e0.mod.kin.keeps fun b o e => (e0.bs b o e).1
  have hb' := hb s us kin (by rw [List.append_nil]; exact hl)
  rw [List.append_nil] at hb'
  exact F.run A outer s H ⟨us, []⟩ us vs Q E hr e0 hb' r h
/-- __init__ called with pairs -/
def spInit (C : Addr) : Sp := fun vs H Q _ => ∃ (x dx : Addr) (xs : List V) (ps : List (Str × Int)), vs = .ref x :: xs ∧ H x = some (.ins C dx []) ∧ PrL H xs ps ∧ ps.length ≤ 1000 ∧ WdP ps ∧
  ∀ (d : Addr) (H' : Hp), H d = none → Cnt C H' x d (noZero (addUp ps)) → (∀ b o, H b = some o → b ≠ x → H' b = some o) → Q .non H'
/-- the class as the top has made it -/
structure CT (P : Program) (w : World) (K : PySem.W.Frag) (mg : Str → Option Value) (base : Heap) (C fI : Addr) : Prop where
  cl : Cls K C
  nH : NoAttr K C "held"
  mgC : mg "Counts" = some (.ref C)
  mke : Mk K C fI
  ini : FnR P w K mg base CX0 1 fI (spInit C)
/-- a method -/
structure MDef (P : Program) (w : World) (K : PySem.W.Frag) (mg : Str → Option Value) (base : Heap) (CX : CXT) (k : Nat) (C : Addr) (m : Str) (ps : List Str) (sp : Sp) (f : Addr) (fd : FuncData) : Prop where
  me : Meth K C m f
  ok : FnOk P w K mg base CX k f fd ps sp
  b : Binds K fd ps []
theorem flds_held (d : Addr) : ([("held", .ref d)] : List (Str × V)).lookup ("held" : Str) = some (.ref d) := by
  rw [List.lookup_cons, beq_self_eq_true]
theorem Cnt.same {C : Addr} {H H' : Hp} {p d : Addr} {t : Tab} (s : Same H H') (h : Cnt C H p d t) : Cnt C H' p d t := by
  obtain ⟨⟨dx, a⟩, b, c, e⟩ := h
  exact ⟨⟨dx, s _ _ a⟩, s _ _ b, c, e⟩
/-- what a method hands out that gives new counts -/
def NewC (C : Addr) (H : Hp) (Q : VK) (F : Str → Int) (n : Nat) : Prop := ∀ (r e : Addr) (H' : Hp) (u : Tab), H r = none → H e = none → Same H H' → Cnt C H' r e u → (∀ z, val u z = F z) → u.length ≤ n → Q (.ref r) H'
def spWords (C : Addr) : Sp := fun vs H Q _ => ∃ (p d : Addr) (t : Tab), vs = [.ref p] ∧ Cnt C H p d t ∧ t.length ≤ 1000 ∧
  ∀ (q : Addr) (H' : Hp) (ws : List Str), H q = none → Same H H' → H' q = some (.lst (ws.map V.str)) → Asc ws → (∀ z, z ∈ ws ↔ z ∈ keys t) → ws.length ≤ t.length → Q (.ref q) H'
def spPairsM (C : Addr) : Sp := fun vs H Q _ => ∃ (p d : Addr) (t : Tab), vs = [.ref p] ∧ Cnt C H p d t ∧ t.length ≤ 1000 ∧
  ∀ (q : Addr) (H' : Hp) (xs : List V) (l : Tab), H q = none → Same H H' → H' q = some (.lst xs) → PrL H' xs l → Told (val t) l → WdP l → l.length ≤ t.length → Q (.ref q) H'
def spCopy (C : Addr) : Sp := fun vs H Q _ => ∃ (p d : Addr) (t : Tab), vs = [.ref p] ∧ Cnt C H p d t ∧ t.length ≤ 1000 ∧ NewC C H Q (val t) t.length
theorem noZero_len (t : Tab) : (noZero t).length ≤ t.length := List.length_filter_le _ _
theorem sumOf_told {f : Str → Int} {l : Tab} (h : Told f l) (z : Str) : sumOf l z = f z := by
  have nd : (keys l).Nodup := h.asc.nodup
  rw [← addUp_val, ]
  have key : ∀ (m : Tab), (keys m).Nodup → ∀ z, sumOf m z = val m z := by
    intro m
    induction m with
    | nil => intro _ z; rfl
    | cons q m ih =>
      intro nd z
      obtain ⟨n1, n2⟩ := List.nodup_cons.mp (show (q.1 :: keys m).Nodup from nd)
      have hz := ih n2 z
      unfold sumOf at hz ⊢
      unfold val look
      rw [List.filter_cons, List.find?_cons]
      by_cases e : q.1 = z
      · rw [if_pos (decide_eq_true e), decide_eq_true e, List.map_cons, List.sum_cons, hz]
        subst e
        unfold val
        rw [look_none n1]
        simp
      · rw [if_neg (by simpa using e), decide_eq_false e, hz]
        rfl
  rw [addUp_val, key l nd]
  unfold val
  by_cases m : z ∈ keys l
  · obtain ⟨n, a, b⟩ := look_some m
    rw [a]
    exact ((h.mem z n).mp b).1
  · rw [look_none m]
    have := mt (h.keys_iff z).mpr m
    have e : f z = 0 := Classical.byContradiction this
    rw [e]
    rfl
section
variable {P : Program} {w : World} {K : PySem.W.Frag} {mg : Str → Option Value} {base : Heap}
theorem ok_init {C f : Addr} {oc od kV doc pm an cdv ct osl} (g : Bi mg) (cl : Cls K C) (nH : NoAttr K C "held")
    (lk : K.lookup f = some ⟨oc, od, .func (PySem.W.fnOf "__init__" "Counts.__init__" (defArgs s_Counts_init) (defBody s_Counts_init) (defScope s_Counts_init) .none kV doc pm an cdv ct), osl⟩) (hcd : PySem.W.codeIn K cdv "Counts.__init__" = true) :
    FnR P w K mg base CX0 1 f (spInit C) := by
  have G := StX.fn_starkw (P := P) (w := w) (mg := mg) (base := base) (CX := CX0) (k := 0) (ps := ["self"]) (pv := "pairs") (pd := "numbers") (sp := spInitB C) lk hcd sc_Counts_init StX.cxUp_none
    (fun us rest hl => match us, rest, hl with | [a], [], _ => rfl | [a], r :: rs, _ => rfl)
    (fun A outer s H vs Q E hr h => by
      obtain ⟨t, a, b⟩ := init_body (P := P) (w := w) (mg := mg) (base := base) (outer := outer) (s := s) g cl nH hr h
      exact ⟨t, a.nox, b⟩)
  refine G.imp fun vs H Q E h => ?_
  obtain ⟨x, dx, xs, ps, rfl, hx, hP, hl, hW, k⟩ := h
  refine ⟨[.ref x], xs, rfl, rfl, by rw [hP.length]; exact Nat.le_trans hl (by decide), fun p d hp hd hne => ?_⟩
  have s1 : Same H (upd H p (.tup xs)) := Same.new hp
  have hd1 : (upd H p (.tup xs)) d = none := by rw [upd_ne hne]; exact hd
  have s2 : Same H (upd (upd H p (.tup xs)) d (.dK [])) := s1.trans (Same.new hd1)
  refine ⟨x, p, d, dx, xs, ps, rfl, s2 _ _ hx, (by rw [upd_ne hne.symm]; exact upd_same), hP.mono (fun t a b e => s2 _ _ e), upd_same, hl, hW, fun e H' he hc kp => ?_⟩
  exact k e H' (s2.free he) hc fun b o q n => kp b o (s2 _ _ q) n
theorem ok_words {C f fDi : Addr} {fd fdDi : FuncData} {fI : Addr} (F : Fun K "words" "Counts.words" s_Counts_words f fd) (g : Bi mg) (T : CT P w K mg base C fI) (FDi : Def P w K mg base CX0 1 "distinct" ["words"] (spDistinct K) fDi fdDi) : FnOk P w K mg base CX0 2 f fd ["self"] (spWords C) := by
  obtain ⟨GDi, mDi, _, bDi⟩ := id FDi
  refine F.ok sc_Counts_words (fun vs H Q E h => ?_) (fun cdv A outer s H vs Q E hr h => ?_)
  · obtain ⟨_, _, _, rfl, _⟩ := h
    rfl
  · obtain ⟨p, d, t, rfl, hc, hl, k⟩ := h
    have hrDi : Room 1 _ := hr.mono (by decide)
    obtain ⟨⟨dx, hp⟩, hd, hh, hw⟩ := id hc
    refine ⟨_, (pss_one (ps_ret (pe_call GDi hrDi rfl mDi FDi.kp bDi .nil pass0 (pa_cons (pe_callTy (call_listD rfl) (by rfl) g.list (by decide +kernel) (pa_cons (pe_fld (pv 0) rfl) pa_nil)) pa_nil)))), ?_⟩
    refine ⟨_, rfl, p, C, dx, _, _, rfl, hp, T.cl, T.nH, flds_held d, d, _, rfl, .inl hd, fun q hq => ?_⟩
    have e : (tv t).map (fun kv => kV kv.1) = (keys t).map V.str := by
      unfold tv keys
      rw [List.map_map, List.map_map]
      rfl
    rw [e]
    have s1 : Same H (upd H q (.lst ((keys t).map V.str))) := Same.new hq
    refine ⟨q, keys t, rfl, SqL.of upd_same, by unfold keys; rw [List.length_map]; exact hl, fun r H' ws hr' s2 h2 ha hm hle => ?_⟩
    exact k r H' ws (s1.free hr') (s1.trans s2) h2 ha hm (by unfold keys at hle; rw [List.length_map] at hle; exact hle)
theorem ok_pairsM {C f fWo : Addr} {fd fdWo : FuncData} {fI : Addr} (F : Fun K "pairs" "Counts.pairs" s_Counts_pairs f fd) (g : Bi mg) (T : CT P w K mg base C fI) (MWo : MDef P w K mg base CX0 2 C "words" ["self"] (spWords C) fWo fdWo) : FnOk P w K mg base CX0 3 f fd ["self"] (spPairsM C) := by
  refine F.ok sc_Counts_pairs (fun vs H Q E h => ?_) (fun cdv A outer s H vs Q E hr h => ?_)
  · obtain ⟨_, _, _, rfl, _⟩ := h
    rfl
  · obtain ⟨p, d, t, rfl, hc, hl, k⟩ := h
    have hrWo : Room 2 _ := hr.mono (by decide)
    have hu := hu_of hr
    obtain ⟨⟨dx, hp⟩, hd, hh, hw⟩ := id hc
    refine ⟨_, (pss_one (ps_ret (pe_lc (own := [("word", 1)]) (g := gName 1) (te := (tTup (tCons _ (tCons (tDGet (tFld K _ "held") _) tNil))))  (by rfl) sc_Counts_pairs.nd (pi_list (pe_meth0 (pv 0) T.cl MWo.me MWo.ok hrWo MWo.b .nil pass0)) (blkOk_by (own := [("word", 1)]) (N := ["self", "word"]) (sc := defScope s_Counts_pairs) (by decide +kernel)) (fun _ _ _ _ _ => (pg_name (i := 1) sc_Counts_pairs.nd rfl (Or.inl rfl))) (fun _ _ _ _ _ => pts_nil) (fun _ _ _ _ _ => (pe_tup (pa_cons (pv 1) (pa_cons (pe_dget hu (pe_fld (pv 0) rfl) (pv 1) (fun _ _ => rfl)) pa_nil))))))), ?_⟩
    refine ⟨_, rfl, p, dx, _, rfl, hp, rfl, p, d, t, rfl, hc, hl, fun q H1 ws hq s1 h1 ha hm hle => ⟨q, rfl, ⟨_, SqL.of h1⟩, fun D hD => ?_⟩⟩
    refine lc_it (walk_list (xs := ws.map V.str)) (fun i H' => Same H1 H' ∧ ∃ xs, H' D = some (.lst xs) ∧ PrL H' xs ((ws.take i).map fun z => (z, val t z))) ⟨Same.new hD, [], upd_same, .nil⟩ (fun i H' _ h => SqL.of (h.1 _ _ h1)) ?_ ?_
    · rintro i x H' H2 hi ⟨s', xs, hD', hP'⟩ ⟨rfl, hx⟩
      rw [List.length_map] at hi
      have ex : x = V.str ws[i] := by
        rw [List.getElem?_map, List.getElem?_eq_getElem hi] at hx
        exact (Option.some.inj hx).symm
      subst ex
      obtain ⟨n, en, _⟩ := look_some ((hm ws[i]).mp (List.getElem_mem hi))
      have ev : val t ws[i] = n := by unfold val; rw [en]; rfl
      have hd' := s' _ _ (s1 _ _ hd)
      have hxl : xs.length = i := by
        rw [hP'.length, List.length_map, List.length_take]
        omega
      refine ⟨rfl, yes_it ?_⟩
      refine ⟨_, rfl, _, rfl, p, C, dx, _, _, rfl, s' _ _ (s1 _ _ hp), T.cl, T.nH, flds_held d, _, rfl, d, .int n, rfl, ?_, by show 2 ≤ sizeLine; decide, fun T2 hT2 => ?_⟩
      · have := DGet.k (k := Sum.inr ws[i]) hd'
        rw [tv_val, en] at this
        exact this
      · have nTD : D ≠ T2 := ne_of_none hD' hT2
        have sT : Same H2 (upd H2 T2 (.tup [.str ws[i], .int n])) := Same.new hT2
        refine ⟨xs, by rw [upd_ne nTD]; exact hD', by rw [hxl]; exact Nat.lt_of_le_of_lt (show i ≤ 1000 by omega) (by decide), fun b o q => ?_, xs ++ [.ref T2], upd_same, ?_⟩
        · rw [upd_ne (ne_of_none q hD)]
          exact sT _ _ (s' _ _ q)
        · rw [List.take_succ, List.getElem?_eq_getElem hi, List.map_append]
          show PrL _ (xs ++ [.ref T2]) (_ ++ [(ws[i], val t ws[i])])
          rw [ev]
          refine PrL.snoc (hP'.mono fun c a b e => ?_) (by rw [upd_ne nTD.symm]; exact upd_same)
          have cD : c ≠ D := by
            rintro rfl
            rw [hD'] at e
            cases e
          rw [upd_ne cD]
          exact sT _ _ e
    · rintro H' ⟨s', xs, hD', hP'⟩
      rw [List.length_map, List.take_length] at hP'
      exact k D H' xs _ (s1.free hD) (s1.trans s') hD' hP' (hh.told ha hm) (fun q m => by
        obtain ⟨z, hz, e⟩ := List.mem_map.mp m
        rw [← e]
        exact hw z ((hm z).mp hz)) (by rw [List.length_map]; exact hle)
end
end Cs

set_option Elab.async false
set_option linter.all false
set_option maxRecDepth 100000
set_option maxHeartbeats 4000000
/-! Counts: of, only, total, len, the store of one word. -/
namespace Cs
open PySem L2
def spOf (K : PySem.W.Frag) (C : Addr) : Sp := fun vs H Q _ => ∃ (a : Addr) (xs : List V) (ps : List (Str × Int)), vs = [.ref C, .ref a] ∧ H a = some (.lst xs) ∧ PrL H xs ps ∧ GoodPs ps ∧ ps.length ≤ 1000 ∧ NewC C H Q (sumOf ps) ps.length
def spTotal (C : Addr) : Sp := fun vs H Q _ => ∃ (p d : Addr) (t : Tab), vs = [.ref p] ∧ Cnt C H p d t ∧ t.length ≤ 1000 ∧ ∀ H', Same H H' → Q (.int (t.map (·.2)).sum) H'
def spLen (C : Addr) : Sp := fun vs H Q _ => ∃ (p d : Addr) (t : Tab), vs = [.ref p] ∧ Cnt C H p d t ∧ Q (.int t.length) H
def spSet (C : Addr) : Sp := fun vs H Q _ => ∃ (p d : Addr) (t : Tab) (z : Str) (n : Int), vs = [.ref p, .str z, .int n] ∧ Word z ∧ Small n ∧ Cnt C H p d t ∧ t.length ≤ 1000 ∧
  ∀ (u : Tab) (H' : Hp), Cnt C H' p d u → (∀ y, val u y = if y = z then n else val t y) → u.length ≤ t.length + 1 → (∀ b o, H b = some o → b ≠ d → H' b = some o) → Q .non H'
def spOnlyB (C : Addr) : Sp := fun vs H Q _ => ∃ (p d wt : Addr) (t : Tab) (zs : List Str), vs = [.ref p, .ref wt] ∧ H wt = some (.tup (zs.map V.str)) ∧ Cnt C H p d t ∧ t.length ≤ 1000 ∧ NewC C H Q (fun z => if z ∈ zs then val t z else 0) t.length
def spOnly (C : Addr) : Sp := fun vs H Q _ => ∃ (p d : Addr) (t : Tab) (zs : List Str), vs = .ref p :: zs.map V.str ∧ zs.length ≤ 1000 ∧ Cnt C H p d t ∧ t.length ≤ 1000 ∧ NewC C H Q (fun z => if z ∈ zs then val t z else 0) t.length
theorem inV_str (z : Str) (zs : List Str) : inV (.str z) (zs.map V.str) = decide (z ∈ zs) := by
  unfold inV
  rw [List.any_map, Bool.eq_iff_iff, List.any_eq_true, decide_eq_true_eq]
  constructor
  · rintro ⟨y, m, e⟩
    have e : (y == z) = true := e
    rw [← eq_of_beq e]
    exact m
  · intro m
    exact ⟨z, m, beq_self_eq_true z⟩
theorem flat_strs (zs : List Str) : (zs.map V.str).all flatV = true := by
  rw [List.all_map, List.all_eq_true]
  intro z _
  rfl
theorem sumOf_filter (l : Tab) (zs : List Str) (z : Str) : sumOf (l.filter fun q => decide (q.1 ∈ zs)) z = if z ∈ zs then sumOf l z else 0 := by
  unfold sumOf
  rw [List.filter_filter]
  by_cases h : z ∈ zs
  · rw [if_pos h]
    congr 2
    apply List.filter_congr
    intro q _
    by_cases e : q.1 = z
    · simp [e, h]
    · simp [e]
  · rw [if_neg h, List.filter_eq_nil_iff.mpr]
    · rfl
    · intro q _ k
      rw [Bool.and_eq_true, decide_eq_true_eq, decide_eq_true_eq] at k
      exact h (k.1 ▸ k.2)
theorem held_put {t : Tab} (h : Held t) {z : Str} {n : Int} (hn : n ≠ 0) : Held (put t z n) := ⟨nd_put h.nd, fun q m => by
  rcases mem_put (y := q.1) (m := q.2) m with ⟨_, e⟩ | ⟨_, e⟩
  · rw [e]
    exact hn
  · exact h.nz _ e⟩
theorem held_drop {t : Tab} (h : Held t) {z : Str} : Held (drop t z) := ⟨nd_drop h.nd, fun q m => h.nz q (List.mem_filter.mp m).1⟩
section
variable {P : Program} {w : World} {K : PySem.W.Frag} {mg : Str → Option Value} {base : Heap}
theorem made {C : Addr} {H : Hp} {x dx : Addr} (hx : H x = none) (hd : H dx = none) : Same H (upd (upd H dx (.own x)) x (.ins C dx [])) := fun b o e => by
  rw [upd_ne (ne_of_none e hx), upd_ne (ne_of_none e hd)]
  exact e
/-- Counts(*pairs) at hand: the pairs stand as a list or tuple -/
theorem mk_pairs {C : Addr} {H1 : Hp} {xs : List V} {l : Tab} {Q : VK} {n : Nat} {G : Str → Int} (hP : PrL H1 xs l) (hw : WdP l) (hl : l.length ≤ 1000) (hn : l.length ≤ n) (hG : ∀ z, sumOf l z = G z) (k : NewC C H1 Q G n) {E : XK} :
    ∀ x dx, H1 x = none → H1 dx = none → dx ≠ x → spInit C (V.ref x :: xs) (upd (upd H1 dx (.own x)) x (.ins C dx [])) (fun v H2 => v = .non ∧ Q (.ref x) H2) E := by
  intro x dx hx hdx ne
  have s2 := made (C := C) hx hdx
  refine ⟨x, dx, xs, l, rfl, upd_same, hP.mono (fun c a b e => s2 _ _ e), hl, hw, fun e H' he hC kp => ⟨rfl, ?_⟩⟩
  have s3 : Same H1 H' := fun b o e => kp b o (s2 _ _ e) (ne_of_none e hx)
  refine k x e H' _ hx (s2.free he) s3 hC (fun z => ?_) (Nat.le_trans (noZero_len _) (Nat.le_trans (addUp_len l) hn))
  rw [noZero_val (addUp_nd l), addUp_val, hG]
theorem NewC.later {C : Addr} {H H1 : Hp} {Q : VK} {G : Str → Int} {n : Nat} (s : Same H H1) (k : NewC C H Q G n) : NewC C H1 Q G n := fun r e H' u hr he s' hc hv hl => k r e H' u (s.free hr) (s.free he) (s.trans s') hc hv hl
theorem ok_of {C f fIp : Addr} {fd fdIp : FuncData} {fI : Addr} (F : Fun K "of" "Counts.of" s_Counts_of f fd) (g : Bi mg) (T : CT P w K mg base C fI) (FIp : Def P w K mg base CX0 3 "is_pair" ["thing"] (spIsPair K) fIp fdIp) : FnOk P w K mg base CX0 4 f fd ["cls", "pairs"] (spOf K C) := by
  obtain ⟨GIp, mIp, _, bIp⟩ := id FIp
  refine F.ok sc_Counts_of (fun vs H Q E h => ?_) (fun cdv A outer s H vs Q E hr h => ?_)
  · obtain ⟨_, _, _, rfl, _⟩ := h
    rfl
  · obtain ⟨a, xs, ps, rfl, ha, hP, hG, hl, k⟩ := h
    have hrIp : Room 3 _ := hr.mono (by decide)
    have hrI : Room 2 _ := hr.mono (by decide)
    refine ⟨_, (pss_cons (ps_if (pt_not (pt_val (pe_callB call_isiT (by rfl) g.isinstance (by decide +kernel) (pa_cons (pv 1) (pa_cons (pe_tup (pa_cons (pe_bltn (v := .ty "list") (by rfl) g.list (by decide +kernel) rfl) (pa_cons (pe_bltn (v := .ty "tuple") (by rfl) g.tuple (by decide +kernel) rfl) pa_nil))) pa_nil))))) (pss_one ps_never) pss_nil)
      (pss_cons (ps_for PassesOwn.never rfl (pi_enum (by rfl) g.enumerate (pa_cons (pv 1) pa_nil)) (pg_tup rfl (pgs_cons (pg_name (i := 2) sc_Counts_of.nd rfl (Or.inl rfl)) (pgs_cons (pg_name (i := 3) sc_Counts_of.nd rfl (Or.inl rfl)) pgs_nil))) (pss_one (ps_if (pt_not (pt_val (pe_call GIp hrIp rfl mIp FIp.kp bIp .nil pass0 (pa_cons (pv 3) pa_nil)))) (pss_one ps_never) pss_nil)))
      (pss_one (ps_ret (pe_mkSL (i := 0) T.mke T.ini hrI rfl (Or.inl rfl) pass0 (pv 1)))))), ?_⟩
    refine ⟨_, rfl, by show 2 ≤ sizeLine; decide, fun tp htp => ?_⟩
    have s1 : Same H (upd H tp (.tup [.ty "list", .ty "tuple"])) := Same.new htp
    refine ⟨_, tp, _, _, _, true, rfl, upd_same, .cons (.ty "list") (.cons (.ty "tuple") .nil), .base (.lst (s1 _ _ ha)), kitAny_cons (b := true) (kit_ty (b := "list") (by decide +kernel)) (fun h => by cases h) (fun _ => rfl), _, rfl, iteF ?_⟩
    refine ⟨_, rfl, a, xs, rfl, SqL.of (s1 _ _ ha), ?_⟩
    refine for_it (walk_enum (xs := xs)) (fun i σ' H' => ∃ x2 x3 : Option V, σ' = [some (.ref C), some (.ref a), x2, x3] ∧ Same H H') ⟨_, _, rfl, s1⟩ (fun i σ' H' _ ⟨_, _, _, h⟩ => SqL.of (h _ _ ha)) ?_ ?_
    · rintro i v σ' H' H2 hi ⟨x2, x3, rfl, s'⟩ ⟨T2, x, y, rfl, hT2, rfl, ex, ey⟩
      obtain rfl : V.int (i : Nat) = x := Option.some.inj ex
      have hi2 : i < ps.length := by rw [← hP.length]; exact hi
      obtain ⟨t, et, ht⟩ := hP.at (List.getElem?_eq_getElem hi2)
      dsimp only at ey
      rw [et] at ey
      obtain rfl := Option.some.inj ey
      have sT : Same H' (upd H' T2 (.tup [.int (i : Nat), .ref t])) := Same.new hT2
      refine ⟨T2, _, rfl, SqT.of upd_same, rfl, _, _, rfl, _, _, rfl, rfl, ?_⟩
      refine ⟨_, rfl, t, _, _, rfl, sT _ _ (s' _ _ ht), (hG _ (List.getElem_mem hi2)).1, (hG _ (List.getElem_mem hi2)).2, fun H3 s3 => ⟨_, rfl, iteF ?_⟩⟩
      exact ⟨_, _, rfl, (s'.trans sT).trans s3⟩
    · rintro σ' H' ⟨x2, x3, rfl, s'⟩
      exact ⟨rfl, _, rfl, a, xs, rfl, .inr (SqL.of (s' _ _ ha)), mk_pairs (hP.mono fun c a b e => s' _ _ e) (fun q m => (hG q m).1) hl (Nat.le_refl _) (fun z => rfl) (k.later s')⟩
theorem ok_len {C f : Addr} {fd : FuncData} {fI : Addr} (F : Fun K "__len__" "Counts.__len__" s_Counts_len f fd) (g : Bi mg) (T : CT P w K mg base C fI) : FnOk P w K mg base CX0 1 f fd ["self"] (spLen C) := by
  refine F.ok sc_Counts_len (fun vs H Q E h => ?_) (fun cdv A outer s H vs Q E hr h => ?_)
  · obtain ⟨_, _, _, rfl, _⟩ := h
    rfl
  · obtain ⟨p, d, t, rfl, hc, k⟩ := h
    obtain ⟨⟨dx, hp⟩, hd, hh, hw⟩ := id hc
    refine ⟨_, (pss_one (ps_ret (pe_callB call_lenD (by rfl) g.len PySem.boot_len (pa_cons (pe_fld (pv 0) rfl) pa_nil)))), ?_⟩
    refine ⟨_, rfl, p, C, dx, _, _, rfl, hp, T.cl, T.nH, flds_held d, d, _, rfl, hd, ?_⟩
    rw [tv_len]
    exact k
theorem ok_set {C f fIw fIs : Addr} {fd fdIw fdIs : FuncData} {fI : Addr} (F : Fun K "__setitem__" "Counts.__setitem__" s_Counts_setitem f fd) (g : Bi mg) (T : CT P w K mg base C fI) (FIw : Def P w K mg base CX0 1 "is_word" ["thing"] (spIsWord K) fIw fdIw) (FIs : Def P w K mg base CX0 2 "is_small" ["thing"] (spIsSmall K) fIs fdIs) :
    FnOk P w K mg base CX0 3 f fd ["self", "word", "number"] (spSet C) := by
  obtain ⟨GIw, mIw, _, bIw⟩ := id FIw
  obtain ⟨GIs, mIs, _, bIs⟩ := id FIs
  refine F.ok sc_Counts_setitem (fun vs H Q E h => ?_) (fun cdv A outer s H vs Q E hr h => ?_)
  · obtain ⟨_, _, _, _, _, rfl, _⟩ := h
    rfl
  · obtain ⟨p, d, t, z, n, rfl, hz, hn, hc, hl, k⟩ := h
    have hrIw : Room 1 _ := hr.mono (by decide)
    have hrIs : Room 2 _ := hr.mono (by decide)
    have hu := hu_of hr
    refine ⟨_, (pss_cons (ps_if (pt_not (pt_val (pe_call GIw hrIw rfl mIw FIw.kp bIw .nil pass0 (pa_cons (pv 1) pa_nil)))) (pss_one ps_never) pss_nil)
      (pss_cons (ps_if (pt_not (pt_val (pe_call GIs hrIs rfl mIs FIs.kp bIs .nil pass0 (pa_cons (pv 2) pa_nil)))) (pss_one ps_never) pss_nil)
      (pss_one (ps_if (pt_cmpR op_ne (pv 2) pe_int (nomark _)) (pss_one (ps_dput hu (pe_fld (pv 0) rfl) (pv 1) (pv 2) rfl)) (pss_one (ps_if (pt_cmp (pc_din hu (pv 1) (pe_fld (pv 0) rfl))) (pss_one (ps_ddel (pe_fld (pv 0) rfl) (pv 1))) pss_nil)))))), ?_⟩
    refine ⟨_, rfl, .inl ⟨z, rfl, Nat.le_trans hz.2.1 (by decide), fun H1 s1 => ?_⟩⟩
    rw [wordB_of hz]
    refine ⟨_, rfl, iteF ?_⟩
    refine ⟨_, rfl, .inl ⟨n, rfl, ?_⟩⟩
    rw [decide_eq_true hn.1, decide_eq_true hn.2]
    refine ⟨_, rfl, iteF ?_⟩
    obtain ⟨⟨dx, hp⟩, hd, hh, hw⟩ := id (hc.same s1)
    have npd : p ≠ d := ne_of hp hd (by intro z; cases z)
    refine ⟨_, rfl, rfl, _, rfl, ?_⟩
    by_cases e : n = 0
    · rw [decide_eq_true (show V.int n = V.int 0 by rw [e])]
      refine iteF ?_
      refine ⟨_, rfl, _, rfl, p, C, dx, _, _, rfl, hp, T.cl, T.nH, flds_held d, d, _, rfl, DGet.k (k := Sum.inr z) hd, _, rfl, ?_⟩
      rw [tv_val]
      cases q : look t z with
      | none =>
        refine iteF ?_
        refine k t H1 (hc.same s1) (fun y => ?_) (Nat.le_succ _) fun b o e _ => s1 b o e
        by_cases ey : y = z
        · rw [if_pos ey, ey, e]
          unfold val
          rw [q]
          rfl
        · rw [if_neg ey]
      | some v =>
        refine iteT ?_
        refine ⟨_, rfl, p, C, dx, _, _, rfl, hp, T.cl, T.nH, flds_held d, _, rfl, d, _, Sum.inr z, rfl, hd, rfl, (by rw [tv_val, q]; rfl), ?_⟩
        rw [tv_drop]
        refine k (drop t z) _ ⟨⟨dx, by rw [upd_ne npd]; exact hp⟩, upd_same, held_drop hh, fun y m => hw y (by rw [keys_drop] at m; exact (List.mem_filter.mp m).1)⟩ (fun y => by rw [val_drop hh.nd, e]) (Nat.le_trans (List.length_filter_le _ _) (Nat.le_succ _)) fun b o e n => ?_
        rw [upd_ne n]
        exact s1 b o e
    · rw [decide_eq_false (show ¬ V.int n = V.int 0 from fun q => e (V.int.inj q))]
      refine iteT ?_
      refine ⟨_, rfl, _, rfl, p, C, dx, _, _, rfl, hp, T.cl, T.nH, flds_held d, _, rfl, d, _, rfl, DPut.k (k := Sum.inr z) hd (by rw [tv_len]; exact Nat.lt_of_le_of_lt hl (by decide)), ?_⟩
      rw [tv_put]
      refine k (put t z n) _ ⟨⟨dx, by rw [upd_ne npd]; exact hp⟩, upd_same, held_put hh e, fun y m => (mem_keys_put.mp m).elim (hw y) (fun q => q ▸ hz)⟩ (fun y => val_put hh.nd) (len_put _ _ _) fun b o e n => ?_
      rw [upd_ne n]
      exact s1 b o e
theorem only_body {C f fPa : Addr} {fdPa : FuncData} {fI : Addr} {cdv : Value} {A : Around} {outer : List Env} {s : Shared} {H : Hp} {vs : List V} {Q : VK} {E : XK} (g : Bi mg) (T : CT P w K mg base C fI) (MPa : MDef P w K mg base CX0 3 C "pairs" ["self"] (spPairsM C) fPa fdPa)
    (hr : Room 3 (A.deeper (PyProof.Rows.envOfC "Counts.only" (defScope s_Counts_only) s.heap.objs.size f cdv))) (h : spOnlyB C vs H Q E) :
    ∃ t, PSs (cxOf CX0 P w K mg base ["self", "words", "pairs", "pair"] "Counts.only" (defScope s_Counts_only) f cdv A outer s H E).nox (defBody s_Counts_only) t ∧ t { nx := fun _ H' => Q .non H', rt := Q } (L2.start ["self", "words", "pairs", "pair"] vs) H := by
  obtain ⟨p, d, wt, t, zs, rfl, hwt, hc, hl, k⟩ := h
  have hrPa : Room 3 _ := hr
  have hrI : Room 2 _ := hr.mono (by decide)
  obtain ⟨⟨dx, hp⟩, hd, hh, hw⟩ := id hc
  refine ⟨_, (pss_cons (ps_setLc (i := 2) (own := [("pair", 3)]) (g := gName 3) (tt := (tTest (tOp (rIn K false) (tOp (rIxT K) _ _) _)))  (by rfl) sc_Counts_only.nd rfl rfl (sw_true rfl rfl rfl (by decide +kernel)) (pi_list (pe_meth0 (pv 0) T.cl MPa.me MPa.ok hrPa MPa.b .nil pass0)) (blkOk_by (own := [("pair", 3)]) (N := ["self", "words", "pairs", "pair"]) (sc := defScope s_Counts_only) (by decide +kernel)) (fun _ _ _ _ _ => (pg_name (i := 3) sc_Counts_only.nd rfl (Or.inl rfl))) (fun _ _ _ _ _ => (pts_one (pt_cmpR op_in_seq (pe_ix ix_tup (pv 3) pe_int (fun _ _ => rfl)) (pv 1) (by rfl)))) (fun _ _ _ _ _ => (pv 3)))
      (pss_one (ps_ret (pe_mkS T.mke T.ini hrI rfl T.mgC pass0 (pv 2))))), ?_⟩
  refine ⟨_, rfl, p, dx, _, rfl, hp, rfl, p, d, t, rfl, hc, hl, fun q H1 xs l hq s1 h1 hP ht hwl hle => ⟨q, rfl, ⟨_, SqL.of h1⟩, fun D hD => ?_⟩⟩
  refine lc_it (walk_list (xs := xs)) (fun i H' => Same H1 H' ∧ ∃ ys, H' D = some (.lst ys) ∧ PrL H' ys ((l.take i).filter fun q => decide (q.1 ∈ zs))) ⟨Same.new hD, [], upd_same, .nil⟩ (fun i H' _ h => SqL.of (h.1 _ _ h1)) ?_ ?_
  · rintro i x H' H2 hi ⟨s', ys, hD', hP'⟩ ⟨rfl, hx⟩
    have hi2 : i < l.length := by rw [← hP.length]; exact hi
    obtain ⟨t2, et, ht2⟩ := hP.at (List.getElem?_eq_getElem hi2)
    rw [et] at hx
    obtain rfl := Option.some.inj hx
    have ht3 := s' _ _ ht2
    refine ⟨rfl, _, rfl, t2, _, 0, _, rfl, rfl, SqT.of ht3, rfl, _, rfl, wt, _, rfl, .inr (SqT.of (s' _ _ (s1 _ _ hwt))), rfl, flat_strs zs, _, rfl, ?_⟩
    show if inV (.str l[i].1) (zs.map V.str) = true then _ else _
    rw [inV_str]
    have ef : (l.take (i + 1)).filter (fun q => decide (q.1 ∈ zs)) = (l.take i).filter (fun q => decide (q.1 ∈ zs)) ++ (if l[i].1 ∈ zs then [l[i]] else []) := by
      rw [List.take_succ, List.getElem?_eq_getElem hi2, List.filter_append]
      congr 1
      show List.filter _ [l[i]] = _
      rw [List.filter_cons]
      by_cases c : l[i].1 ∈ zs
      · rw [if_pos (decide_eq_true c), if_pos c]
        rfl
      · rw [if_neg (by simpa using c), if_neg c]
        rfl
    by_cases c : l[i].1 ∈ zs
    · rw [decide_eq_true c]
      rw [if_pos c] at ef
      refine iteT ?_
      have hyl : ys.length ≤ i := by
        rw [hP'.length]
        refine Nat.le_trans (List.length_filter_le _ _) ?_
        rw [List.length_take]
        omega
      refine ⟨_, rfl, ys, hD', Nat.lt_of_le_of_lt (show ys.length ≤ 1000 by omega) (by decide), fun b o e => ?_, ys ++ [.ref t2], upd_same, ?_⟩
      · rw [upd_ne (ne_of_none e hD)]
        exact s' _ _ e
      · rw [ef]
        have kD : ∀ c a b, H2 c = some (.tup [.str a, .int b]) → (upd H2 D (.lst (ys ++ [.ref t2]))) c = some (.tup [.str a, .int b]) := fun c a b e => by
          have cD : c ≠ D := by
            rintro rfl
            rw [hD'] at e
            cases e
          rw [upd_ne cD]
          exact e
        exact PrL.snoc (hP'.mono kD) (kD _ _ _ ht3)
    · rw [decide_eq_false c]
      rw [if_neg c, List.append_nil] at ef
      refine iteF ?_
      refine ⟨s', ys, hD', ?_⟩
      rw [ef]
      exact hP'
  · rintro H' ⟨s', ys, hD', hP'⟩
    rw [hP.length, List.take_length] at hP'
    refine ⟨_, rfl, D, ys, rfl, .inr (SqL.of hD'), ?_⟩
    have hle2 : (l.filter fun q => decide (q.1 ∈ zs)).length ≤ l.length := List.length_filter_le _ _
    refine mk_pairs hP' (fun q m => hwl q (List.mem_filter.mp m).1) (by omega) (by omega) (fun z => ?_) (k.later (s1.trans s'))
    rw [sumOf_filter, sumOf_told ht]
theorem ok_only {C f fPa : Addr} {fdPa : FuncData} {fI : Addr} {oc od kV doc pm an cdv ct osl} (g : Bi mg) (T : CT P w K mg base C fI) (MPa : MDef P w K mg base CX0 3 C "pairs" ["self"] (spPairsM C) fPa fdPa)
    (lk : K.lookup f = some ⟨oc, od, .func (PySem.W.fnOf "only" "Counts.only" (defArgs s_Counts_only) (defBody s_Counts_only) (defScope s_Counts_only) .none kV doc pm an cdv ct), osl⟩) (hcd : PySem.W.codeIn K cdv "Counts.only" = true) :
    FnR P w K mg base CX0 4 f (spOnly C) := by
  have G := StX.fn_star (P := P) (w := w) (mg := mg) (base := base) (CX := CX0) (k := 3) (ps := ["self"]) (pv := "words") (sp := spOnlyB C) lk hcd sc_Counts_only StX.cxUp_none
    (fun us rest hl => match us, rest, hl with | [a], [], _ => rfl | [a], r :: rs, _ => rfl)
    (fun A outer s H vs Q E hr h => by
      obtain ⟨t, a, b⟩ := only_body (P := P) (w := w) (mg := mg) (base := base) (outer := outer) (s := s) g T MPa hr h
      exact ⟨t, a.nox, b⟩)
  refine G.imp fun vs H Q E h => ?_
  obtain ⟨p, d, t, zs, rfl, hz, hc, hl, k⟩ := h
  refine ⟨[.ref p], zs.map V.str, rfl, rfl, by rw [List.length_map]; exact Nat.le_trans hz (by decide), fun q hq => ?_⟩
  have s1 : Same H (upd H q (.tup (zs.map V.str))) := Same.new hq
  exact ⟨p, d, q, t, zs, rfl, upd_same, hc.same s1, hl, k.later s1⟩
end
end Cs

set_option Elab.async false
set_option linter.all false
set_option maxRecDepth 100000
set_option maxHeartbeats 4000000
/-! Counts: reading a word, sums, differences, multiples, smaller and greater integers. -/
namespace Cs
open PySem L2
structure Bj (mg : Str → Option Value) : Prop extends Bi mg where
  min : mg "min" = none
  max : mg "max" = none
/-- what isinstance asks of an instance's class -/
structure CI (K : PySem.W.Frag) (C : Addr) : Prop where
  cl : Cls K C
  ha : PySem.W.findIn K (.ref C) "__class__" = some (some (.builtin "object.__class__"))
  hn : PySem.W.specialIn K (.builtin "object.__class__") "__get__" = some (some (.builtin "getset_descriptor.__get__"))
  htk : PySem.W.takesIn K (.builtin "object.__class__") = some true
  hm : PySem.W.mroIn K C (.type "object") = some true
theorem CI.ty {K : PySem.W.Frag} {C : Addr} {H : Hp} {p dx : Addr} {fs : List (Str × V)} (c : CI K C) (h : H p = some (.ins C dx fs)) : TyX K H (.ref p) (.ref C) := .base (.ins h c.cl c.ha c.hn c.htk c.hm)
theorem kit_self {K : PySem.W.Frag} {C : Addr} : PySem.W.kitOne K (.ref C) (.ref C) = some true := by
  unfold PySem.W.kitOne
  rw [if_pos (beq_self_eq_true _)]
/-- operators as their callers have them -/
structure ODef (P : Program) (w : World) (K : PySem.W.Frag) (mg : Str → Option Value) (base : Heap) (CX : CXT) (k : Nat) (C : Addr) (m : Str) (ps : List Str) (sp : Sp) (f : Addr) (fd : FuncData) : Prop where
  c : OpC K C m f
  ok : FnOk P w K mg base CX k f fd ps sp
  b : Binds K fd ps []
structure GDef (P : Program) (w : World) (K : PySem.W.Frag) (mg : Str → Option Value) (base : Heap) (CX : CXT) (k : Nat) (C : Addr) (m : Str) (ps : List Str) (sp : Sp) (f : Addr) (fd : FuncData) : Prop where
  c : Spc K C m f
  fi : PySem.W.fnIn K f = true
  ok : FnOk P w K mg base CX k f fd ps sp
  b : Binds K fd ps []
def spGet (C : Addr) : Sp := fun vs H Q _ => ∃ (p d : Addr) (t : Tab) (z : Str), vs = [.ref p, .str z] ∧ Word z ∧ Cnt C H p d t ∧ ∀ H', Same H H' → Q (.int (val t z)) H'
def spJoint (C : Addr) : Sp := fun vs H Q _ => ∃ (p d q e : Addr) (t u : Tab), vs = [.ref p, .ref q] ∧ Cnt C H p d t ∧ Cnt C H q e u ∧ t.length ≤ 400 ∧ u.length ≤ 400 ∧
  ∀ (l : Addr) (H' : Hp) (ws : List Str), H l = none → Same H H' → H' l = some (.lst (ws.map V.str)) → Asc ws → (∀ z, z ∈ ws ↔ z ∈ keys t ∨ z ∈ keys u) → ws.length ≤ t.length + u.length → Q (.ref l) H'
/-- a op b word by word -/
def spBin (C : Addr) (G : Int → Int → Int) : Sp := fun vs H Q _ => ∃ (p d q e : Addr) (t u : Tab), vs = [.ref p, .ref q] ∧ Cnt C H p d t ∧ Cnt C H q e u ∧ t.length ≤ 400 ∧ u.length ≤ 400 ∧ NewC C H Q (fun z => G (val t z) (val u z)) (t.length + u.length)
def spUn (C : Addr) (G : Int → Int) : Sp := fun vs H Q _ => ∃ (p d : Addr) (t : Tab), vs = [.ref p] ∧ Cnt C H p d t ∧ t.length ≤ 1000 ∧ NewC C H Q (fun z => G (val t z)) t.length
def spMul (C : Addr) : Sp := fun vs H Q _ => ∃ (p d : Addr) (t : Tab) (n : Int), vs = [.ref p, .int n] ∧ Cnt C H p d t ∧ t.length ≤ 1000 ∧ (∀ z, n.natAbs.log2 + (val t z).natAbs.log2 < 1000000) ∧ NewC C H Q (fun z => n * val t z) t.length
/-- [(word, ..) for word in words] -/
theorem lc_pairs {K : PySem.W.Frag} {a : Addr} {ws : List Str} {j : Nat} {te : TE} {vs : List Nat} {σ : L2.St} {H1 : Hp} {D : Addr} {Qd : Hp → Prop} {G : Str → Int} (ha : H1 a = some (.lst (ws.map V.str))) (hD : H1 D = none) (hl : ws.length ≤ 1000)
    (hw : ∀ x, wipe ((wipe σ vs).set j (some x)) vs = wipe σ vs)
    (he : ∀ z ∈ ws, ∀ H', Same H1 H' → ∀ Qe : VK, (∀ T H'', H' T = none → Same H' H'' → H'' T = some (.tup [.str z, .int (G z)]) → Qe (.ref T) H'') → te ((wipe σ vs).set j (some (.str z))) H' Qe)
    (k : ∀ H' xs, Same H1 H' → H' D = some (.lst xs) → PrL H' xs (ws.map fun z => (z, G z)) → Qd H') :
    ∃ W : Nat → Nat → Hp → Prop, (∃ m, W 0 m (upd H1 D (.lst []))) ∧ ∀ i m H, W i m H →
      ((Itl K a).stop i H ∧ Qd H) ∨ ((Itl K a).go i H ∧ ∃ Nx : Hp → Prop, (∀ H', Nx H' → ∃ m', m' < m ∧ W (i + 1) m' H') ∧ ∀ x H', (Itl K a).yld i H x H' → gName j x (wipe σ vs) H' fun σ2 H2 => wipe σ2 vs = wipe σ vs ∧ tYes σ2 H2 fun b H3 =>
        if b = true then te σ2 H3 fun y H4 => ∃ acc, H4 D = some (.lst acc) ∧ acc.length < sizeLine ∧ Nx (upd H4 D (.lst (acc ++ [y]))) else Nx H3) := by
  refine lc_it (walk_list (xs := ws.map V.str)) (fun i H' => Same H1 H' ∧ ∃ xs, H' D = some (.lst xs) ∧ PrL H' xs ((ws.take i).map fun z => (z, G z))) ⟨Same.new hD, [], upd_same, .nil⟩ (fun i H' _ h => SqL.of (h.1 _ _ ha)) ?_ ?_
  · rintro i x H' H2 hi ⟨s', xs, hD', hP'⟩ ⟨rfl, hx⟩
    rw [List.length_map] at hi
    have ex : x = V.str ws[i] := by
      rw [List.getElem?_map, List.getElem?_eq_getElem hi] at hx
      exact (Option.some.inj hx).symm
    subst ex
    have hxl : xs.length = i := by
      rw [hP'.length, List.length_map, List.length_take]
      omega
    refine ⟨hw _, yes_it ?_⟩
    refine he ws[i] (List.getElem_mem hi) H2 s' _ fun T H3 hT s3 hT3 => ?_
    have nTD : D ≠ T := ne_of_none hD' hT
    refine ⟨xs, s3 _ _ hD', by rw [hxl]; exact Nat.lt_of_le_of_lt (show i ≤ 1000 by omega) (by decide), fun b o q => ?_, xs ++ [.ref T], upd_same, ?_⟩
    · rw [upd_ne (ne_of_none q hD)]
      exact s3 _ _ (s' _ _ q)
    · rw [List.take_succ, List.getElem?_eq_getElem hi, List.map_append]
      refine PrL.snoc (hP'.mono fun c a b e => ?_) (by rw [upd_ne nTD.symm]; exact hT3)
      have cD : c ≠ D := by
        rintro rfl
        rw [hD'] at e
        cases e
      rw [upd_ne cD]
      exact s3 _ _ e
  · rintro H' ⟨s', xs, hD', hP'⟩
    rw [List.length_map, List.take_length] at hP'
    exact k H' xs s' hD' hP'
/-- a table by ascending words -/
theorem sumOf_map {ws : List Str} (h : Asc ws) (G : Str → Int) (z : Str) : sumOf (ws.map fun y => (y, G y)) z = if z ∈ ws then G z else 0 := by
  have nd := h.nodup
  clear h
  unfold sumOf
  induction ws with
  | nil => rfl
  | cons y ws ih =>
    obtain ⟨n1, n2⟩ := List.nodup_cons.mp nd
    rw [List.map_cons, List.filter_cons]
    by_cases e : y = z
    · subst e
      rw [if_pos (by simp), List.map_cons, List.sum_cons, ih n2, if_neg n1, if_pos List.mem_cons_self]
      simp
    · rw [if_neg (by simpa using e), ih n2]
      by_cases m : z ∈ ws
      · rw [if_pos m, if_pos (List.mem_cons_of_mem _ m)]
      · rw [if_neg m, if_neg]
        intro q
        rcases List.mem_cons.mp q with q | q
        · exact e q.symm
        · exact m q
theorem sumOf_append (l m : Tab) (z : Str) : sumOf (l ++ m) z = sumOf l z + sumOf m z := by
  unfold sumOf
  rw [List.filter_append, List.map_append, List.sum_append]
theorem val_out {t : Tab} {z : Str} (h : z ∉ keys t) : val t z = 0 := by
  unfold val
  rw [look_none h]
  rfl
theorem PrL.append {H : Hp} : ∀ {xs ys : List V} {l m : Tab}, PrL H xs l → PrL H ys m → PrL H (xs ++ ys) (l ++ m)
  | _, _, _, _, .nil, h => h
  | _, _, _, _, .cons r t, h => .cons r (PrL.append t h)
theorem wd_map {ws : List Str} (h : ∀ z ∈ ws, Word z) (G : Str → Int) : WdP (ws.map fun z => (z, G z)) := fun q m => by
  obtain ⟨z, hz, e⟩ := List.mem_map.mp m
  rw [← e]
  exact h z hz
section
variable {P : Program} {w : World} {K : PySem.W.Frag} {mg : Str → Option Value} {base : Heap}
theorem ok_get {C f fIw : Addr} {fd fdIw : FuncData} {fI : Addr} (F : Fun K "__getitem__" "Counts.__getitem__" s_Counts_getitem f fd) (g : Bi mg) (T : CT P w K mg base C fI) (FIw : Def P w K mg base CX0 1 "is_word" ["thing"] (spIsWord K) fIw fdIw) :
    FnOk P w K mg base CX0 2 f fd ["self", "word"] (spGet C) := by
  obtain ⟨GIw, mIw, _, bIw⟩ := id FIw
  refine F.ok sc_Counts_getitem (fun vs H Q E h => ?_) (fun cdv A outer s H vs Q E hr h => ?_)
  · obtain ⟨_, _, _, _, rfl, _⟩ := h
    rfl
  · obtain ⟨p, d, t, z, rfl, hz, hc, k⟩ := h
    have hrIw : Room 1 _ := hr.mono (by decide)
    have hu := hu_of hr
    refine ⟨_, (pss_cons (ps_if (pt_not (pt_val (pe_call GIw hrIw rfl mIw FIw.kp bIw .nil pass0 (pa_cons (pv 1) pa_nil)))) (pss_one ps_never) pss_nil)
      (pss_one (ps_ret (pe_dget2 hu (pe_fld (pv 0) rfl) (pv 1) pe_int ⟨rfl, rfl, rfl, rfl⟩)))), ?_⟩
    refine ⟨_, rfl, .inl ⟨z, rfl, Nat.le_trans hz.2.1 (by decide), fun H1 s1 => ?_⟩⟩
    rw [wordB_of hz]
    refine ⟨_, rfl, iteF ?_⟩
    obtain ⟨⟨dx, hp⟩, hd, hh, hw⟩ := id (hc.same s1)
    refine ⟨_, rfl, p, C, dx, _, _, rfl, hp, T.cl, T.nH, flds_held d, d, rfl, .inl ⟨_, .inl hd⟩, _, rfl, _, DGet.k (k := Sum.inr z) hd, ?_⟩
    rw [tv_val, val_getD]
    exact k H1 s1
theorem ok_joint {C f fDi fWo : Addr} {fd fdDi fdWo : FuncData} {fI : Addr} (F : Fun K "joint_words" "joint_words" s_joint_words f fd) (g : Bi mg) (T : CT P w K mg base C fI) (FDi : Def P w K mg base CX0 1 "distinct" ["words"] (spDistinct K) fDi fdDi)
    (MWo : MDef P w K mg base CX0 2 C "words" ["self"] (spWords C) fWo fdWo) : FnOk P w K mg base CX0 3 f fd ["one", "other"] (spJoint C) := by
  obtain ⟨GDi, mDi, _, bDi⟩ := id FDi
  refine F.ok sc_joint_words (fun vs H Q E h => ?_) (fun cdv A outer s H vs Q E hr h => ?_)
  · obtain ⟨_, _, _, _, _, _, rfl, _⟩ := h
    rfl
  · obtain ⟨p, d, q, e, t, u, rfl, hc, hc2, hl, hl2, k⟩ := h
    have hrDi : Room 1 _ := hr.mono (by decide)
    have hrWo : Room 2 _ := hr.mono (by decide)
    refine ⟨_, (pss_one (ps_ret (pe_call GDi hrDi rfl mDi FDi.kp bDi .nil pass0 (pa_cons (pe_op op_cat (pe_meth0 (pv 0) T.cl MWo.me MWo.ok hrWo MWo.b .nil pass0) (pe_meth0 (pv 1) T.cl MWo.me MWo.ok hrWo MWo.b .nil pass0)) pa_nil)))), ?_⟩
    obtain ⟨⟨dx, hp⟩, _⟩ := id hc
    refine ⟨_, rfl, p, dx, _, rfl, hp, rfl, p, d, t, rfl, hc, by omega, fun l1 H1 ws1 hl1 s1 h1 ha1 hm1 hle1 => ?_⟩
    obtain ⟨⟨dx2, hq⟩, _⟩ := id (hc2.same s1)
    refine ⟨_, rfl, q, dx2, _, rfl, hq, rfl, q, e, u, rfl, hc2.same s1, by omega, fun l2 H2 ws2 hl2' s2 h2 ha2 hm2 hle2 => ?_⟩
    refine ⟨l1, l2, _, _, rfl, rfl, s2 _ _ h1, h2, ?_, fun l3 hl3 => ?_⟩
    · rw [List.length_map, List.length_map]
      exact Nat.le_trans (show ws1.length + ws2.length ≤ 1000 by omega) (by decide)
    have s3 : Same H2 (upd H2 l3 (.lst (ws1.map V.str ++ ws2.map V.str))) := Same.new hl3
    refine ⟨l3, ws1 ++ ws2, rfl, SqL.of (by rw [upd_same, List.map_append]), by rw [List.length_append]; omega, fun l4 H4 ws hl4 s4 h4 ha hm hle => ?_⟩
    have s13 := (s1.trans s2).trans s3
    refine k l4 H4 ws (s13.free hl4) (s13.trans s4) h4 ha (fun z => ?_) ?_
    · rw [hm, List.mem_append, hm1, hm2]
    · rw [List.length_append] at hle
      omega
theorem ok_add {C f fPa : Addr} {fd fdPa : FuncData} {fI : Addr} (F : Fun K "__add__" "Counts.__add__" s_Counts_add f fd) (g : Bi mg) (T : CT P w K mg base C fI) (ci : CI K C) (MPa : MDef P w K mg base CX0 3 C "pairs" ["self"] (spPairsM C) fPa fdPa) :
    FnOk P w K mg base CX0 4 f fd ["self", "other"] (spBin C fun a b => a + b) := by
  refine F.ok sc_Counts_add (fun vs H Q E h => ?_) (fun cdv A outer s H vs Q E hr h => ?_)
  · obtain ⟨_, _, _, _, _, _, rfl, _⟩ := h
    rfl
  · obtain ⟨p, d, q, e, t, u, rfl, hc, hc2, hl, hl2, k⟩ := h
    have hrPa : Room 3 _ := hr.mono (by decide)
    have hrI : Room 2 _ := hr.mono (by decide)
    refine ⟨_, (pss_cons (ps_if (pt_not (pt_val (pe_callB call_isi (by rfl) g.isinstance (by decide +kernel) (pa_cons (pv 1) (pa_cons (pe_glob (v := .ref C) rfl T.mgC rfl) pa_nil))))) (pss_one (ps_never)) pss_nil)
      (pss_cons (ps_set (i := 2) sc_Counts_add.nd rfl (Or.inl rfl) (pe_op op_cat (pe_meth0 (pv 0) T.cl MPa.me MPa.ok hrPa MPa.b .nil pass0) (pe_meth0 (pv 1) T.cl MPa.me MPa.ok hrPa MPa.b .nil pass0)))
      (pss_one (ps_ret (pe_mkS T.mke T.ini hrI rfl T.mgC pass0 (pv 2)))))), ?_⟩
    obtain ⟨⟨dx, hp⟩, _⟩ := id hc
    obtain ⟨⟨dx2, hq⟩, _⟩ := id hc2
    refine ⟨_, rfl, _, _, _, _, true, rfl, .own C, ci.ty hq, kit_self, _, rfl, iteF ?_⟩
    refine ⟨_, rfl, p, dx, _, rfl, hp, rfl, p, d, t, rfl, hc, by omega, fun l1 H1 xs1 m1 hl1 s1 h1 hP1 ht1 hw1 hle1 => ?_⟩
    obtain ⟨⟨dx3, hq3⟩, _⟩ := id (hc2.same s1)
    refine ⟨_, rfl, q, dx3, _, rfl, hq3, rfl, q, e, u, rfl, hc2.same s1, by omega, fun l2 H2 xs2 m2 hl2' s2 h2 hP2 ht2 hw2 hle2 => ?_⟩
    have hx1 := hP1.length
    have hx2 := hP2.length
    refine ⟨l1, l2, _, _, rfl, rfl, s2 _ _ h1, h2, Nat.le_trans (show xs1.length + xs2.length ≤ 1000 by omega) (by decide), fun l3 hl3 => ?_⟩
    have s3 : Same H2 (upd H2 l3 (.lst (xs1 ++ xs2))) := Same.new hl3
    refine ⟨_, rfl, l3, _, rfl, .inr (SqL.of upd_same), ?_⟩
    have hP : PrL (upd H2 l3 (.lst (xs1 ++ xs2))) (xs1 ++ xs2) (m1 ++ m2) := PrL.append (hP1.mono fun _ _ _ e => s3 _ _ (s2 _ _ e)) (hP2.mono fun _ _ _ e => s3 _ _ e)
    refine mk_pairs hP (fun r mr => (List.mem_append.mp mr).elim (hw1 r) (hw2 r)) (by rw [List.length_append]; omega) (by rw [List.length_append]; omega) (fun z => ?_) (k.later ((s1.trans s2).trans s3))
    rw [sumOf_append, sumOf_told ht1, sumOf_told ht2]
theorem ok_neg {C f fWo : Addr} {fd fdWo : FuncData} {fI : Addr} (F : Fun K "__neg__" "Counts.__neg__" s_Counts_neg f fd) (g : Bi mg) (T : CT P w K mg base C fI) (MWo : MDef P w K mg base CX0 2 C "words" ["self"] (spWords C) fWo fdWo) :
    FnOk P w K mg base CX0 3 f fd ["self"] (spUn C fun a => -a) := by
  refine F.ok sc_Counts_neg (fun vs H Q E h => ?_) (fun cdv A outer s H vs Q E hr h => ?_)
  · obtain ⟨_, _, _, rfl, _⟩ := h
    rfl
  · obtain ⟨p, d, t, rfl, hc, hl, k⟩ := h
    have hrWo : Room 2 _ := hr.mono (by decide)
    have hrI : Room 2 _ := hr.mono (by decide)
    have hu := hu_of hr
    obtain ⟨⟨dx, hp⟩, hd, hh, hw⟩ := id hc
    refine ⟨_, (pss_cons (ps_setLc (i := 1) (own := [("word", 2)]) (g := gName 2) (te := (tTup (tCons _ (tCons (tUn _ (tDGet (tFld K _ "held") _)) tNil))))  (by rfl) sc_Counts_neg.nd rfl rfl (sw_true rfl rfl rfl (by decide +kernel)) (pi_list (pe_meth0 (pv 0) T.cl MWo.me MWo.ok hrWo MWo.b .nil pass0)) (blkOk_by (own := [("word", 2)]) (N := ["self", "pairs", "word"]) (sc := defScope s_Counts_neg) (by decide +kernel)) (fun _ _ _ _ _ => (pg_name (i := 2) sc_Counts_neg.nd rfl (Or.inl rfl))) (fun _ _ _ _ _ => pts_nil) (fun _ _ _ _ _ => (pe_tup (pa_cons (pv 2) (pa_cons (pe_un un_neg (pe_dget hu (pe_fld (pv 0) rfl) (pv 2) (fun _ _ => rfl))) pa_nil)))))
      (pss_one (ps_ret (pe_mkS T.mke T.ini hrI rfl T.mgC pass0 (pv 1))))), ?_⟩
    refine ⟨_, rfl, p, dx, _, rfl, hp, rfl, p, d, t, rfl, hc, hl, fun q H1 ws hq s1 h1 ha hm hle => ⟨q, rfl, ⟨_, SqL.of h1⟩, fun D hD => ?_⟩⟩
    refine lc_pairs (G := fun z => -val t z) h1 hD (by omega) (fun _ => rfl) (fun z hz H' s' Qe q => ?_) fun H' xs s' hD' hP' => ?_
    · obtain ⟨n, en, _⟩ := look_some ((hm z).mp hz)
      have ev : val t z = n := by unfold val; rw [en]; rfl
      have hg : DGet H' d (V.str z) (some (V.int n)) := by
        have := DGet.k (k := Sum.inr z) (s' _ _ (s1 _ _ hd))
        rw [tv_val, en] at this
        exact this
      refine ⟨_, rfl, _, rfl, p, C, dx, _, _, rfl, s' _ _ (s1 _ _ hp), T.cl, T.nH, flds_held d, _, rfl, d, .int n, rfl, hg, _, rfl, by show 2 ≤ sizeLine; decide, fun T2 hT2 => q T2 _ hT2 (Same.new hT2) ?_⟩
      rw [upd_same, ev]
    · refine ⟨_, rfl, D, xs, rfl, .inr (SqL.of hD'), mk_pairs hP' (wd_map (fun z hz => hw z ((hm z).mp hz)) _) (by rw [List.length_map]; omega) (by rw [List.length_map]; exact hle) (fun z => ?_) (k.later (s1.trans s'))⟩
      rw [sumOf_map ha]
      by_cases c : z ∈ ws
      · rw [if_pos c]
      · rw [if_neg c, val_out (mt (hm z).mpr c)]
        rfl
theorem ok_abs {C f fWo : Addr} {fd fdWo : FuncData} {fI : Addr} (F : Fun K "__abs__" "Counts.__abs__" s_Counts_abs f fd) (g : Bi mg) (T : CT P w K mg base C fI) (MWo : MDef P w K mg base CX0 2 C "words" ["self"] (spWords C) fWo fdWo) :
    FnOk P w K mg base CX0 3 f fd ["self"] (spUn C fun a => if a < 0 then -a else a) := by
  refine F.ok sc_Counts_abs (fun vs H Q E h => ?_) (fun cdv A outer s H vs Q E hr h => ?_)
  · obtain ⟨_, _, _, rfl, _⟩ := h
    rfl
  · obtain ⟨p, d, t, rfl, hc, hl, k⟩ := h
    have hrWo : Room 2 _ := hr.mono (by decide)
    have hrI : Room 2 _ := hr.mono (by decide)
    have hu := hu_of hr
    obtain ⟨⟨dx, hp⟩, hd, hh, hw⟩ := id hc
    refine ⟨_, (pss_cons (ps_setLc (i := 1) (own := [("word", 2)]) (g := gName 2) (te := (tTup (tCons _ (tCons (tCB _ (tCons (tDGet (tFld K _ "held") _) tNil)) tNil))))  (by rfl) sc_Counts_abs.nd rfl rfl (sw_true rfl rfl rfl (by decide +kernel)) (pi_list (pe_meth0 (pv 0) T.cl MWo.me MWo.ok hrWo MWo.b .nil pass0)) (blkOk_by (own := [("word", 2)]) (N := ["self", "pairs", "word"]) (sc := defScope s_Counts_abs) (by decide +kernel)) (fun _ _ _ _ _ => (pg_name (i := 2) sc_Counts_abs.nd rfl (Or.inl rfl))) (fun _ _ _ _ _ => pts_nil) (fun _ _ _ _ _ => (pe_tup (pa_cons (pv 2) (pa_cons (pe_callB call_abs (by rfl) g.abs (by decide +kernel) (pa_cons (pe_dget hu (pe_fld (pv 0) rfl) (pv 2) (fun _ _ => rfl)) pa_nil)) pa_nil)))))
      (pss_one (ps_ret (pe_mkS T.mke T.ini hrI rfl T.mgC pass0 (pv 1))))), ?_⟩
    refine ⟨_, rfl, p, dx, _, rfl, hp, rfl, p, d, t, rfl, hc, hl, fun q H1 ws hq s1 h1 ha hm hle => ⟨q, rfl, ⟨_, SqL.of h1⟩, fun D hD => ?_⟩⟩
    refine lc_pairs (G := fun z => if val t z < 0 then -val t z else val t z) h1 hD (by omega) (fun _ => rfl) (fun z hz H' s' Qe q => ?_) fun H' xs s' hD' hP' => ?_
    · obtain ⟨n, en, _⟩ := look_some ((hm z).mp hz)
      have ev : val t z = n := by unfold val; rw [en]; rfl
      have hg : DGet H' d (V.str z) (some (V.int n)) := by
        have := DGet.k (k := Sum.inr z) (s' _ _ (s1 _ _ hd))
        rw [tv_val, en] at this
        exact this
      refine ⟨_, rfl, _, rfl, p, C, dx, _, _, rfl, s' _ _ (s1 _ _ hp), T.cl, T.nH, flds_held d, _, rfl, d, .int n, rfl, hg, _, rfl, by show 2 ≤ sizeLine; decide, fun T2 hT2 => q T2 _ hT2 (Same.new hT2) ?_⟩
      rw [upd_same, ev]
    · refine ⟨_, rfl, D, xs, rfl, .inr (SqL.of hD'), mk_pairs hP' (wd_map (fun z hz => hw z ((hm z).mp hz)) _) (by rw [List.length_map]; omega) (by rw [List.length_map]; exact hle) (fun z => ?_) (k.later (s1.trans s'))⟩
      rw [sumOf_map ha]
      by_cases c : z ∈ ws
      · rw [if_pos c]
      · rw [if_neg c, val_out (mt (hm z).mpr c)]
        rfl
theorem ok_mul {C f fWo : Addr} {fd fdWo : FuncData} {fI : Addr} (F : Fun K "__mul__" "Counts.__mul__" s_Counts_mul f fd) (g : Bi mg) (T : CT P w K mg base C fI) (MWo : MDef P w K mg base CX0 2 C "words" ["self"] (spWords C) fWo fdWo) :
    FnOk P w K mg base CX0 3 f fd ["self", "times"] (spMul C) := by
  refine F.ok sc_Counts_mul (fun vs H Q E h => ?_) (fun cdv A outer s H vs Q E hr h => ?_)
  · obtain ⟨_, _, _, _, rfl, _⟩ := h
    rfl
  · obtain ⟨p, d, t, m, rfl, hc, hl, hb, k⟩ := h
    have hrWo : Room 2 _ := hr.mono (by decide)
    have hrI : Room 2 _ := hr.mono (by decide)
    have hu := hu_of hr
    obtain ⟨⟨dx, hp⟩, hd, hh, hw⟩ := id hc
    refine ⟨_, (pss_cons (ps_if (pt_not (pt_val (pe_callB call_isi (by rfl) g.isinstance (by decide +kernel) (pa_cons (pv 1) (pa_cons (pe_bltn (v := .ty "int") (by rfl) g.int (by decide +kernel) rfl) pa_nil))))) (pss_one (ps_never)) pss_nil)
      (pss_cons (ps_setLc (i := 2) (own := [("word", 3)]) (g := gName 3) (te := (tTup (tCons _ (tCons (tOp _ _ (tDGet (tFld K _ "held") _)) tNil))))  (by rfl) sc_Counts_mul.nd rfl rfl (sw_true rfl rfl rfl (by decide +kernel)) (pi_list (pe_meth0 (pv 0) T.cl MWo.me MWo.ok hrWo MWo.b .nil pass0)) (blkOk_by (own := [("word", 3)]) (N := ["self", "times", "pairs", "word"]) (sc := defScope s_Counts_mul) (by decide +kernel)) (fun _ _ _ _ _ => (pg_name (i := 3) sc_Counts_mul.nd rfl (Or.inl rfl))) (fun _ _ _ _ _ => pts_nil) (fun _ _ _ _ _ => (pe_tup (pa_cons (pv 3) (pa_cons (pe_op op_mulW (pv 1) (pe_dget hu (pe_fld (pv 0) rfl) (pv 3) (fun _ _ => rfl))) pa_nil)))))
      (pss_one (ps_ret (pe_mkS T.mke T.ini hrI rfl T.mgC pass0 (pv 2)))))), ?_⟩
    refine ⟨_, rfl, _, _, _, _, true, rfl, .ty "int", .base (.int m), kit_ty (by decide +kernel), _, rfl, iteF ?_⟩
    refine ⟨_, rfl, p, dx, _, rfl, hp, rfl, p, d, t, rfl, hc, hl, fun q H1 ws hq s1 h1 ha hm hle => ⟨q, rfl, ⟨_, SqL.of h1⟩, fun D hD => ?_⟩⟩
    refine lc_pairs (G := fun z => m * val t z) h1 hD (by omega) (fun _ => rfl) (fun z hz H' s' Qe q => ?_) fun H' xs s' hD' hP' => ?_
    · obtain ⟨n, en, _⟩ := look_some ((hm z).mp hz)
      have ev : val t z = n := by unfold val; rw [en]; rfl
      have hg : DGet H' d (V.str z) (some (V.int n)) := by
        have := DGet.k (k := Sum.inr z) (s' _ _ (s1 _ _ hd))
        rw [tv_val, en] at this
        exact this
      have hbz := hb z
      rw [ev] at hbz
      refine ⟨_, rfl, _, rfl, _, rfl, p, C, dx, _, _, rfl, s' _ _ (s1 _ _ hp), T.cl, T.nH, flds_held d, _, rfl, d, .int n, rfl, hg, _, _, rfl, rfl, hbz, by show 2 ≤ sizeLine; decide, fun T2 hT2 => q T2 _ hT2 (Same.new hT2) ?_⟩
      rw [upd_same, ev]
    · refine ⟨_, rfl, D, xs, rfl, .inr (SqL.of hD'), mk_pairs hP' (wd_map (fun z hz => hw z ((hm z).mp hz)) _) (by rw [List.length_map]; omega) (by rw [List.length_map]; exact hle) (fun z => ?_) (k.later (s1.trans s'))⟩
      rw [sumOf_map ha]
      by_cases c : z ∈ ws
      · rw [if_pos c]
      · rw [if_neg c, val_out (mt (hm z).mpr c), Int.mul_zero]
end
end Cs

set_option Elab.async false
set_option linter.all false
set_option maxRecDepth 100000
set_option maxHeartbeats 4000000
/-! The laws' common helpers: the model, what is told of it, whether counts are equal to it. -/
namespace Cs
open PySem L2
/-- a model at m: a dict of words and integers -/
structure Mdl (H : Hp) (m : Addr) (u : Tab) : Prop where
  dc : H m = some (.dK (tv u))
  nd : (keys u).Nodup
  wd : ∀ z ∈ keys u, Word z
theorem Mdl.same {H H' : Hp} {m : Addr} {u : Tab} (s : Same H H') (h : Mdl H m u) : Mdl H' m u := ⟨s _ _ h.dc, h.nd, h.wd⟩
def spModel : Sp := fun vs H Q _ => ∃ (a : Addr) (xs : List V) (ps : List (Str × Int)), vs = [.ref a] ∧ H a = some (.lst xs) ∧ PrL H xs ps ∧ WdP ps ∧ ps.length ≤ 1000 ∧
  ∀ (m : Addr) (H' : Hp), H m = none → Same H H' → Mdl H' m (addUp ps) → Q (.ref m) H'
def spTold : Sp := fun vs H Q _ => ∃ (m : Addr) (u : Tab), vs = [.ref m] ∧ Mdl H m u ∧ u.length < 64 ∧
  ∀ (q : Addr) (H' : Hp) (xs : List V) (l : Tab), H q = none → Same H H' → H' q = some (.lst xs) → PrL H' xs l → Told (val u) l → WdP l → l.length ≤ u.length → Q (.ref q) H'
def spEqual (C : Addr) : Sp := fun vs H Q _ => ∃ (p d m : Addr) (t u : Tab), vs = [.ref p, .ref m] ∧ Cnt C H p d t ∧ t.length ≤ 1000 ∧ Mdl H m u ∧ u.length < 64 ∧ (∀ z, val t z = val u z) ∧ ∀ H', Same H H' → Q (.bl true) H'
/-- pairs as data -/
def pd (l : Tab) : PyData := .list (l.map fun q => .tuple [.str q.1, .int q.2])
theorem word_ok {z : Str} (h : Word z) : PyData.strOk z = true := by
  unfold PyData.strOk
  rw [← Array.all_toList, List.all_eq_true]
  intro c hc
  have h1 := h.2.2 c hc
  have h2 : ∀ c ∈ LET.cps.toList, c < 0x110000 := by decide +kernel
  exact decide_eq_true (h2 c h1)
theorem pd_can : ∀ {l : Tab}, WdP l → PyData.canLayAll0 (l.map fun q => .tuple [.str q.1, .int q.2]) = true
  | [], _ => rfl
  | q :: l, h => by
    rw [List.map_cons, PyData.canLayAll0, pd_can fun r m => h r (List.mem_cons_of_mem _ m)]
    have := word_ok (h q List.mem_cons_self)
    simp [PyData.canLay0, PyData.canLayAll0, this]
theorem pd_depth : ∀ l : Tab, PyData.depthAll (l.map fun q => .tuple [.str q.1, .int q.2]) ≤ 1
  | [] => Nat.zero_le _
  | q :: l => by
    rw [List.map_cons, PyData.depthAll]
    have := pd_depth l
    simp only [PyData.depth, PyData.depthAll]
    omega
theorem pd_shaped {l : Tab} (h : WdP l) : SeqAt.shaped (pd l) = true := by
  unfold SeqAt.shaped pd
  rw [Bool.and_eq_true]
  refine ⟨by rw [PyData.canLay0]; exact pd_can h, decide_eq_true ?_⟩
  rw [PyData.depth]
  have := pd_depth l
  omega
theorem pd_refl {l : Tab} (h : WdP l) : PyData.eqv (pd l) (pd l) = true := SeqAt.eqv_refl _ (SeqAt.canLay_of_shaped (pd_shaped h))
theorem PrL.dp {K : PySem.W.Frag} {H : Hp} : ∀ {xs : List V} {l : Tab}, PrL H xs l → DpAll K H xs (l.map fun q => .tuple [.str q.1, .int q.2])
  | _, _, .nil => .nil
  | _, _, .cons ⟨t, e, ht⟩ r => .cons (by rw [e]; exact .tup (SqT.of ht) (.cons (.str _) (.cons (.int _) .nil))) (PrL.dp r)
section
variable {P : Program} {w : World} {K : PySem.W.Frag} {mg : Str → Option Value} {base : Heap}
theorem ok_model {f : Addr} {fd : FuncData} (F : Fun K "_law_model" "_law_model" s_l_model f fd) (g : Bi mg) : FnOk P w K mg base CX0 1 f fd ["_law_pairs_here"] spModel := by
  refine F.ok sc_l_model (fun vs H Q E h => ?_) (fun cdv A outer s H vs Q E hr h => ?_)
  · obtain ⟨_, _, _, rfl, _⟩ := h
    rfl
  · obtain ⟨a, xs, ps, rfl, ha, hP, hW, hl, k⟩ := h
    have hu := hu_of hr
    refine ⟨_, (pss_cons (ps_set (i := 1) sc_l_model.nd rfl (Or.inl rfl) pe_dnewK)
      (pss_cons (ps_for PassesOwn.never rfl (pi_list (pv 0)) (pg_tup rfl (pgs_cons (pg_name (i := 2) sc_l_model.nd rfl (Or.inl rfl)) (pgs_cons (pg_name (i := 3) sc_l_model.nd rfl (Or.inl rfl)) pgs_nil))) (pss_one (ps_dput hu (pv 1) (pv 2) (pe_op op_add (pe_dget2 hu (pv 1) (pv 2) pe_int ⟨rfl, rfl, rfl, rfl⟩) (pv 3)) rfl)))
      (pss_one (ps_ret (pv 1))))), ?_⟩
    intro e he
    have s1 : Same H (upd H e (.dK [])) := Same.new he
    refine ⟨_, rfl, a, rfl, ⟨_, SqL.of (s1 _ _ ha)⟩, for_list (K := K) (a := a) (xs := xs) (fun i σ' H' => ∃ x2 x3 : Option V, σ' = [some (.ref a), some (.ref e), x2, x3] ∧ Same H H' ∧ H' e = some (.dK (tv (addUp (ps.take i)))))
      ⟨_, _, rfl, s1, upd_same⟩ (fun i σ' H' _ ⟨_, _, _, h, _⟩ => SqL.of (h _ _ ha)) ?_ ?_⟩
    · rintro i y σ' H' hy ⟨x2, x3, rfl, s', he'⟩
      have hi : i < ps.length := by
        have := (List.getElem?_eq_some_iff.mp hy).1
        rw [hP.length] at this
        exact this
      obtain ⟨t, et, ht⟩ := hP.at (List.getElem?_eq_getElem hi)
      rw [et] at hy
      obtain rfl := Option.some.inj hy
      refine ⟨t, _, rfl, SqT.of (s' _ _ ht), rfl, _, _, rfl, _, _, rfl, rfl, ?_⟩
      refine ⟨_, rfl, e, rfl, .inl ⟨_, .inl he'⟩, _, rfl, _, DGet.k (k := Sum.inr ps[i].1) he', _, rfl, val (addUp (ps.take i)) ps[i].1, ps[i].2, (by rw [tv_val]; exact val_getD _ _), rfl, _, rfl, _, rfl, e, _, rfl, DPut.k (k := Sum.inr ps[i].1) he' ?_, ?_⟩
      · rw [tv_len]
        have h1 := addUp_len (ps.take i)
        rw [List.length_take] at h1
        exact Nat.lt_of_le_of_lt (show (addUp (ps.take i)).length ≤ 1000 by omega) (by decide)
      · refine ⟨_, _, rfl, fun b o q => by rw [upd_ne (ne_of_none q he)]; exact s' b o q, ?_⟩
        rw [upd_same, tv_put, List.take_succ, List.getElem?_eq_getElem hi]
        show some (HO.dK (tv (put (addUp (ps.take i)) ps[i].1 (val (addUp (ps.take i)) ps[i].1 + ps[i].2)))) = some (HO.dK (tv (addUp (ps.take i ++ [ps[i]]))))
        rw [addUp_snoc]
    · rintro σ' H' ⟨x2, x3, rfl, s', he'⟩
      rw [hP.length, List.take_length] at he'
      refine ⟨_, rfl, k e H' he s' ⟨he', addUp_nd ps, fun z m => ?_⟩⟩
      obtain ⟨q, hq, eq⟩ := addUp_keys z ps m
      rw [← eq]
      exact hW q hq
theorem ok_told {f : Addr} {fd : FuncData} (F : Fun K "_law_told" "_law_told" s_l_told f fd) (g : Bi mg) : FnOk P w K mg base CX0 1 f fd ["_law_model_here"] spTold := by
  refine F.ok sc_l_told (fun vs H Q E h => ?_) (fun cdv A outer s H vs Q E hr h => ?_)
  · obtain ⟨_, _, rfl, _⟩ := h
    rfl
  · obtain ⟨m, u, rfl, hm, hl, k⟩ := h
    have hu := hu_of hr
    refine ⟨_, (pss_cons (ps_set (i := 1) sc_l_told.nd rfl (Or.inl rfl) (pe_callB cr_sortedS (by rfl) g.sorted (by decide +kernel) (pa_cons (pe_lock (pe_lc (own := [("_law_word_here", 2)]) (g := gName 2)  (by rfl) sc_l_told.nd (pi_keys (pv 0)) (blkOk_by (own := [("_law_word_here", 2)]) (N := ["_law_model_here", "_law_words", "_law_word_here"]) (sc := defScope s_l_told) (by decide +kernel)) (fun _ _ _ _ _ => (pg_name (i := 2) sc_l_told.nd rfl (Or.inl rfl))) (fun _ _ _ _ _ => pts_nil) (fun _ _ _ _ _ => (pe_callTy SkE.call_str_str (by rfl) g.str (by decide +kernel) (pa_cons (pv 2) pa_nil))))) pa_nil)))
      (pss_one (ps_ret (pe_lc (own := [("_law_word_here", 2)]) (g := gName 2)  (by rfl) sc_l_told.nd (pi_list (pv 1)) (blkOk_by (own := [("_law_word_here", 2)]) (N := ["_law_model_here", "_law_words", "_law_word_here"]) (sc := defScope s_l_told) (by decide +kernel)) (fun _ _ _ _ _ => (pg_name (i := 2) sc_l_told.nd rfl (Or.inl rfl))) (fun _ _ _ _ _ => (pts_one (pt_cmpR op_ne (pe_dget hu (pv 0) (pv 2) (fun _ _ => rfl)) pe_int (nomark _)))) (fun _ _ _ _ _ => (pe_tup (pa_cons (pv 2) (pa_cons (pe_dget hu (pv 0) (pv 2) (fun _ _ => rfl)) pa_nil)))))))), ?_⟩
    refine ⟨m, _, hm.dc, trivial, fun od => ?_⟩
    refine ⟨_, rfl, m, od, rfl, .inl ⟨_, upd_same, fun D hD => ?_⟩⟩
    have nDm : D ≠ m := (ne_of_none upd_same hD).symm
    have hDH : H D = none := by rw [upd_ne nDm] at hD; exact hD
    refine lc_it walk_keys (fun i H' => (∀ b o, H b = some o → b ≠ m → H' b = some o) ∧ H' m = some (.frz od (.dK (tv u))) ∧ H' D = some (.lst (((keys u).take i).map V.str))) ⟨fun b o e n => by rw [upd_ne (ne_of_none e hDH), upd_ne n]; exact e, by rw [upd_ne nDm.symm]; exact upd_same, upd_same⟩ (fun i H' _ h => h.2.1) ?_ ?_
    · rintro i v H' H2 hi ⟨k1, k2, k3⟩ ⟨rfl, kk, vv, hv, ev⟩
      rw [tv_len] at hi
      have hi2 : (tv u)[i]? = some (Sum.inr u[i].1, V.int u[i].2) := by
        unfold tv
        rw [List.getElem?_map, List.getElem?_eq_getElem hi]
        rfl
      rw [hi2] at hv
      obtain rfl : Sum.inr u[i].1 = kk := congrArg Prod.fst (Option.some.inj hv)
      obtain rfl : v = V.str u[i].1 := ev
      refine ⟨rfl, yes_it ?_⟩
      refine ⟨_, rfl, _, rfl, _, k3, ?_, fun b o e n => ?_, ?_, ?_⟩
      · rw [List.length_map, List.length_take]
        exact Nat.lt_of_le_of_lt (show min i (keys u).length ≤ 1000 by omega) (by decide)
      · rw [upd_ne (ne_of_none e hDH)]
        exact k1 b o e n
      · rw [upd_ne nDm.symm]
        exact k2
      · have : (keys u)[i]? = some u[i].1 := by
          unfold keys
          rw [List.getElem?_map, List.getElem?_eq_getElem hi]
          rfl
        rw [upd_same, List.take_succ, this, List.map_append]
        rfl
    · rintro H' ⟨k1, k2, k3⟩
      have hkl : (keys u).length = u.length := List.length_map _
      rw [tv_len, ← hkl, List.take_length] at k3
      refine ⟨k2, D, keys u, rfl, SqL.of (by rw [upd_ne nDm]; exact k3), by omega, fun ws q hp hs hq => ?_⟩
      have s1 : Same H (upd H' m (.dK (tv u))) := fun b o e => by
        by_cases n : b = m
        · subst n
          rw [upd_same, ← e, hm.dc]
        · rw [upd_ne n]
          exact k1 b o e n
      generalize upd H' m (.dK (tv u)) = H1 at s1 hq
      have s2 : Same H1 (upd H1 q (.lst (ws.map V.str))) := Same.new hq
      have hqn : H q = none := s1.free hq
      have s3 := s1.trans s2
      have h3 : (upd H1 q (.lst (ws.map V.str))) q = some (.lst (ws.map V.str)) := upd_same
      generalize upd H1 q (.lst (ws.map V.str)) = H3 at s3 h3
      have ha : Asc ws := asc_of_sorted hs (hp.nodup_iff.mpr hm.nd)
      have hmm : ∀ z, z ∈ ws ↔ z ∈ keys u := fun z => hp.mem_iff
      have hwl : ws.length = u.length := by rw [hp.length_eq, hkl]
      have hm3 := hm.same s3
      -- the second comprehension
      refine ⟨_, rfl, q, rfl, ⟨_, SqL.of h3⟩, fun D2 hD2 => ?_⟩
      refine lc_it (walk_list (xs := ws.map V.str)) (fun i H' => Same H3 H' ∧ ∃ xs, H' D2 = some (.lst xs) ∧ PrL H' xs (toldBy u (ws.take i))) ⟨Same.new hD2, [], upd_same, .nil⟩ (fun i H' _ h => SqL.of (h.1 _ _ h3)) ?_ ?_
      · rintro i x H' H2 hi ⟨s', xs, hD', hP'⟩ ⟨rfl, hx⟩
        rw [List.length_map] at hi
        have ex : x = V.str ws[i] := by
          rw [List.getElem?_map, List.getElem?_eq_getElem hi] at hx
          exact (Option.some.inj hx).symm
        subst ex
        obtain ⟨n, en, _⟩ := look_some ((hmm ws[i]).mp (List.getElem_mem hi))
        have ev : val u ws[i] = n := by unfold val; rw [en]; rfl
        have hd' := s' _ _ hm3.dc
        have hg : DGet H2 m (V.str ws[i]) (some (V.int n)) := by
          have := DGet.k (k := Sum.inr ws[i]) hd'
          rw [tv_val, en] at this
          exact this
        have et : toldBy u (ws.take (i + 1)) = toldBy u (ws.take i) ++ (if n ≠ 0 then [(ws[i], n)] else []) := by
          unfold toldBy
          rw [List.take_succ, List.getElem?_eq_getElem hi, List.filter_append, List.map_append]
          congr 1
          show List.map _ (List.filter _ [ws[i]]) = _
          rw [List.filter_cons, ev]
          by_cases c : n ≠ 0
          · rw [if_pos (decide_eq_true c), if_pos c]
            show [(ws[i], val u ws[i])] = _
            rw [ev]
          · rw [if_neg (by simpa using c), if_neg c]
            rfl
        have hxl : xs.length ≤ i := by
          rw [hP'.length]
          unfold toldBy
          rw [List.length_map]
          refine Nat.le_trans (List.length_filter_le _ _) ?_
          rw [List.length_take]
          omega
        refine ⟨rfl, _, rfl, _, rfl, m, _, rfl, hg, rfl, _, rfl, ?_⟩
        by_cases c : n = 0
        · rw [decide_eq_true (show V.int n = V.int 0 by rw [c])]
          rw [if_neg (by simpa using c), List.append_nil] at et
          refine iteF ?_
          rw [et]
          exact ⟨s', xs, hD', hP'⟩
        · rw [decide_eq_false (show ¬ V.int n = V.int 0 from fun q => c (V.int.inj q))]
          rw [if_pos c] at et
          refine iteT ?_
          refine ⟨_, rfl, _, rfl, _, rfl, m, _, rfl, hg, by show 2 ≤ sizeLine; decide, fun T2 hT2 => ?_⟩
          have nTD : D2 ≠ T2 := ne_of_none hD' hT2
          have sT : Same H2 (upd H2 T2 (.tup [.str ws[i], .int n])) := Same.new hT2
          refine ⟨xs, by rw [upd_ne nTD]; exact hD', Nat.lt_of_le_of_lt (show xs.length ≤ 1000 by omega) (by decide), fun b o q => ?_, xs ++ [.ref T2], upd_same, ?_⟩
          · rw [upd_ne (ne_of_none q hD2)]
            exact sT _ _ (s' _ _ q)
          · rw [et]
            refine PrL.snoc (hP'.mono fun c a b e => ?_) (by rw [upd_ne nTD.symm]; exact upd_same)
            have cD : c ≠ D2 := by
              rintro rfl
              rw [hD'] at e
              cases e
            rw [upd_ne cD]
            exact sT _ _ e
      · rintro H' ⟨s', xs, hD', hP'⟩
        rw [List.length_map, List.take_length] at hP'
        refine k D2 H' xs _ (s3.free hD2) (s3.trans s') hD' hP' (told_of hm.nd ha hmm) (fun r mr => ?_) ?_
        · obtain ⟨z, hz, e⟩ := List.mem_map.mp mr
          rw [← e]
          exact hm.wd z ((hmm z).mp (List.mem_filter.mp hz).1)
        · unfold toldBy
          rw [List.length_map, ← hwl]
          exact List.length_filter_le _ _
theorem ok_lint {f : Addr} {fd : FuncData} (F : Fun K "_law_is_integer" "_law_is_integer" s_l_is_integer f fd) (g : Bi mg) : FnOk P w K mg base CX0 1 f fd ["_law_thing"] (spIsInteger K) := by
  refine F.ok sc_l_is_integer (fun vs H Q E h => ?_) (fun cdv A outer s H vs Q E hr h => ?_)
  · rcases h with ⟨_, rfl, _⟩ | ⟨_, rfl, _⟩ <;> rfl
  · refine ⟨_, (pss_one (ps_ret (pe_and (pe_callB call_isi (by rfl) g.isinstance (by decide +kernel) (pa_cons (pv 0) (pa_cons (pe_bltn (v := .ty "int") (by rfl) g.int (by decide +kernel) rfl) pa_nil))) (pe_one (pe_not (pe_callB call_isi (by rfl) g.isinstance (by decide +kernel) (pa_cons (pv 0) (pa_cons (pe_bltn (v := .ty "bool") (by rfl) g.bool (by decide +kernel) rfl) pa_nil)))))))), ?_⟩
    rcases h with ⟨n, rfl, q⟩ | ⟨x, rfl, ⟨ty, ht, hc⟩, q⟩
    · refine ⟨_, rfl, _, _, _, _, true, rfl, .ty "int", .base (.int n), kit_ty (by decide +kernel), _, rfl, iteT ?_⟩
      exact ⟨_, rfl, _, _, _, _, false, rfl, .ty "bool", .base (.int n), kit_ty (by decide +kernel), _, rfl, q⟩
    · rcases hc with e | e
      · subst e
        refine ⟨_, rfl, _, _, _, _, true, rfl, .ty "int", ht, kit_ty (by decide +kernel), _, rfl, iteT ?_⟩
        exact ⟨_, rfl, _, _, _, _, true, rfl, .ty "bool", ht, kit_ty (by decide +kernel), _, rfl, q⟩
      · exact ⟨_, rfl, _, _, _, _, false, rfl, .ty "int", ht, kit_ty e, _, rfl, iteF q⟩
theorem ok_equal {C f fPa fTo fLi : Addr} {fd fdPa fdTo fdLi : FuncData} {fI : Addr} (F : Fun K "_law_equal" "_law_equal" s_l_equal f fd) (g : Bi mg) (T : CT P w K mg base C fI) (MPa : MDef P w K mg base CX0 3 C "pairs" ["self"] (spPairsM C) fPa fdPa)
    (FTo : Def P w K mg base CX0 1 "_law_told" ["_law_model_here"] spTold fTo fdTo) (FLi : Def P w K mg base CX0 1 "_law_is_integer" ["_law_thing"] (spIsInteger K) fLi fdLi) :
    FnOk P w K mg base CX0 4 f fd ["_law_counts", "_law_model_here"] (spEqual C) := by
  obtain ⟨GTo, mTo, _, bTo⟩ := id FTo
  obtain ⟨GLi, mLi, _, bLi⟩ := id FLi
  refine F.ok sc_l_equal (fun vs H Q E h => ?_) (fun cdv A outer s H vs Q E hr h => ?_)
  · obtain ⟨_, _, _, _, _, rfl, _⟩ := h
    rfl
  · obtain ⟨p, d, m, t, u, rfl, hc, hl, hm, hlu, hv, k⟩ := h
    have hrPa : Room 3 _ := hr.mono (by decide)
    have hrTo : Room 1 _ := hr.mono (by decide)
    have hrLi : Room 1 _ := hr.mono (by decide)
    obtain ⟨⟨dx, hp⟩, hd, hh, hw⟩ := id hc
    refine ⟨_, (pss_cons (ps_set (i := 2) sc_l_equal.nd rfl (Or.inl rfl) (pe_meth0 (pv 0) T.cl MPa.me MPa.ok hrPa MPa.b .nil pass0))
      (pss_cons (ps_if (PW.pt (pw_or (pt_not (pt_val (pe_callB call_isi (by rfl) g.isinstance (by decide +kernel) (pa_cons (pv 2) (pa_cons (pe_bltn (v := .ty "list") (by rfl) g.list (by decide +kernel) rfl) pa_nil))))) (pw_or1 (pt_cmpR (op_neD hr.units) (pv 2) (pe_call GTo hrTo rfl mTo FTo.kp bTo .nil pass0 (pa_cons (pv 1) pa_nil)) (nomark _))))) (pss_one (ps_ret pe_bl)) pss_nil)
      (pss_cons (ps_for PassesOwn.never rfl (pi_list (pv 2)) (pg_name (i := 3) sc_l_equal.nd rfl (Or.inl rfl)) (pss_one (ps_if (PW.pt (pw_or (pt_not (pt_val (pe_callB call_isi (by rfl) g.isinstance (by decide +kernel) (pa_cons (pv 3) (pa_cons (pe_bltn (v := .ty "tuple") (by rfl) g.tuple (by decide +kernel) rfl) pa_nil))))) (pw_or1 (pt_not (pt_val (pe_call GLi hrLi rfl mLi FLi.kp bLi .nil pass0 (pa_cons (pe_ix ix_tup (pv 3) pe_int (fun _ _ => rfl)) pa_nil))))))) (pss_one (ps_ret pe_bl)) pss_nil)))
      (pss_one (ps_ret pe_bl))))), ?_⟩
    refine ⟨_, rfl, p, dx, _, rfl, hp, rfl, p, d, t, rfl, hc, hl, fun q H1 xs l hq s1 h1 hP ht hwl hle => ?_⟩
    refine ⟨_, rfl, _, _, _, _, true, rfl, .ty "list", .base (.lst h1), kit_ty (by decide +kernel), _, rfl, iteF ?_⟩
    refine ⟨_, rfl, _, rfl, m, u, rfl, hm.same s1, hlu, fun q2 H2 xs2 l2 hq2 s2 h2 hP2 ht2 hwl2 hle2 => ?_⟩
    obtain rfl : l = l2 := told_eq ht ht2 hv
    have hP' : PrL H2 xs l := hP.mono fun c a b e => s2 _ _ e
    refine ⟨pd l, pd l, .lst (SqL.of (s2 _ _ h1)) hP'.dp, .lst (SqL.of h2) hP2.dp, pd_shaped hwl, pd_shaped hwl, _, rfl, ?_⟩
    rw [pd_refl hwl]
    refine iteF ?_
    refine ⟨_, rfl, q, rfl, ⟨_, SqL.of (s2 _ _ h1)⟩, for_list (K := K) (a := q) (xs := xs) (fun i σ' H' => ∃ x3 : Option V, σ' = [some (.ref p), some (.ref m), some (.ref q), x3] ∧ Same H2 H') ⟨_, rfl, Same.refl _⟩ (fun i σ' H' _ ⟨_, _, h⟩ => SqL.of (h _ _ (s2 _ _ h1))) ?_ ?_⟩
    · rintro i y σ' H' hy ⟨x3, rfl, s'⟩
      have hi : i < l.length := by
        have := (List.getElem?_eq_some_iff.mp hy).1
        rw [hP.length] at this
        exact this
      obtain ⟨t2, et, ht3⟩ := hP'.at (List.getElem?_eq_getElem hi)
      rw [et] at hy
      obtain rfl := Option.some.inj hy
      have ht4 := s' _ _ ht3
      refine ⟨_, rfl, _, _, _, _, true, rfl, .ty "tuple", .base (.tup ht4), kit_ty (by decide +kernel), _, rfl, iteF ?_⟩
      refine ⟨_, rfl, t2, _, 1, _, rfl, rfl, SqT.of ht4, rfl, .inl ⟨_, rfl, _, rfl, iteF ?_⟩⟩
      exact ⟨_, rfl, s'⟩
    · rintro σ' H' ⟨x3, rfl, s'⟩
      exact k H' ((s1.trans s2).trans s')
end
end Cs

set_option Elab.async false
set_option linter.all false
set_option maxRecDepth 100000
set_option maxHeartbeats 4000000
/-! Counts: differences, smaller and greater integers, distances, multiples from the left, changes in place. -/
namespace Cs
open PySem L2
structure TDef (P : Program) (w : World) (K : PySem.W.Frag) (mg : Str → Option Value) (base : Heap) (CX : CXT) (k : Nat) (C : Addr) (nm : String) (ps : List Str) (sp : Sp) (f h : Addr) (fd : FuncData) : Prop where
  c : OpT K C nm f h
  i1 : PySem.W.findIn K (.type "int") (PySem.dunder nm) = some (some (.builtin "int.__mul__"))
  i2 : PySem.W.findIn K (.type "int") (dunderR nm) = some (some (.builtin "int.__rmul__"))
  ok : FnOk P w K mg base CX k f fd ps sp
  b : Binds K fd ps []
/-- a op= b: the object itself is changed; its dict is a new one -/
def spIn (C : Addr) (G : Int → Int → Int) : Sp := fun vs H Q _ => ∃ (p d q e : Addr) (t u : Tab), vs = [.ref p, .ref q] ∧ Cnt C H p d t ∧ Cnt C H q e u ∧ t.length ≤ 400 ∧ u.length ≤ 400 ∧
  ∀ (d' : Addr) (H' : Hp) (v : Tab), H d' = none → Cnt C H' p d' v → (∀ z, val v z = G (val t z) (val u z)) → v.length ≤ t.length + u.length → (∀ b o, H b = some o → b ≠ p → H' b = some o) → Q (.ref p) H'
def spImul (C : Addr) : Sp := fun vs H Q _ => ∃ (p d : Addr) (t : Tab) (n : Int), vs = [.ref p, .int n] ∧ Cnt C H p d t ∧ t.length ≤ 1000 ∧ (∀ z, n.natAbs.log2 + (val t z).natAbs.log2 < 1000000) ∧
  ∀ (d' : Addr) (H' : Hp) (v : Tab), H d' = none → Cnt C H' p d' v → (∀ z, val v z = n * val t z) → v.length ≤ t.length → (∀ b o, H b = some o → b ≠ p → H' b = some o) → Q (.ref p) H'
theorem putF_held (d e : Addr) : putF "held" (V.ref e) ([("held", .ref d)] : List (Str × V)) = ([("held", .ref e)] : List (Str × V)) := by
  show (if ("held" : Str) = "held" then ([("held", V.ref e)] : List (Str × V)) else _) = ([("held", V.ref e)] : List (Str × V))
  rw [if_pos rfl]
section
variable {P : Program} {w : World} {K : PySem.W.Frag} {mg : Str → Option Value} {base : Heap}
theorem ok_sub {C f fGe fJw : Addr} {fd fdGe fdJw : FuncData} {fI : Addr} (F : Fun K "__sub__" "Counts.__sub__" s_Counts_sub f fd) (g : Bj mg) (T : CT P w K mg base C fI) (ci : CI K C) (SGe : GDef P w K mg base CX0 2 C "__getitem__" ["self", "word"] (spGet C) fGe fdGe)
    (FJw : Def P w K mg base CX0 3 "joint_words" ["one", "other"] (spJoint C) fJw fdJw) : FnOk P w K mg base CX0 4 f fd ["self", "other"] (spBin C fun a b => a - b) := by
  obtain ⟨GJw, mJw, _, bJw⟩ := id FJw
  refine F.ok sc_Counts_sub (fun vs H Q E h => ?_) (fun cdv A outer s H vs Q E hr h => ?_)
  · obtain ⟨_, _, _, _, _, _, rfl, _⟩ := h
    rfl
  · obtain ⟨p, d, q, e, t, u, rfl, hc, hc2, hl, hl2, k⟩ := h
    have hrJw : Room 3 _ := hr.mono (by decide)
    have hrGe : Room 3 _ := hr.mono (by decide)
    have hrI : Room 2 _ := hr.mono (by decide)
    refine ⟨_, (pss_cons (ps_if (pt_not (pt_val (pe_callB call_isi (by rfl) g.isinstance (by decide +kernel) (pa_cons (pv 1) (pa_cons (pe_glob (v := .ref C) rfl T.mgC rfl) pa_nil))))) (pss_one (ps_never)) pss_nil)
      (pss_cons (ps_setLc (i := 2) (own := [("word", 3)]) (g := gName 3)  (by rfl) sc_Counts_sub.nd rfl rfl (sw_true rfl rfl rfl (by decide +kernel)) (pi_list (pe_call GJw hrJw rfl mJw FJw.kp bJw .nil pass0 (pa_cons (pv 0) (pa_cons (pv 1) pa_nil)))) (blkOk_by (own := [("word", 3)]) (N := ["self", "other", "pairs", "word"]) (sc := defScope s_Counts_sub) (by decide +kernel)) (fun _ _ _ _ _ => (pg_name (i := 3) sc_Counts_sub.nd rfl (Or.inl rfl))) (fun _ _ _ _ _ => pts_nil) (fun _ _ _ _ _ => (pe_tup (pa_cons (pv 3) (pa_cons (pe_op op_sub (pe_ixO SGe.c SGe.fi SGe.ok hrGe SGe.b pass0 (pv 0) (pv 3)) (pe_ixO SGe.c SGe.fi SGe.ok hrGe SGe.b pass0 (pv 1) (pv 3))) pa_nil)))))
      (pss_one (ps_ret (pe_mkS T.mke T.ini hrI rfl T.mgC pass0 (pv 2)))))), ?_⟩
    obtain ⟨⟨dx, hp⟩, _⟩ := id hc
    obtain ⟨⟨dx2, hq⟩, _⟩ := id hc2
    refine ⟨_, rfl, _, _, _, _, true, rfl, .own C, ci.ty hq, kit_self, _, rfl, iteF ?_⟩
    refine ⟨_, rfl, _, rfl, p, d, q, e, t, u, rfl, hc, hc2, hl, hl2, fun l H1 ws hl' s1 h1 ha hm hle => ⟨l, rfl, ⟨_, SqL.of h1⟩, fun D hD => ?_⟩⟩
    have hww : ∀ z ∈ ws, Word z := fun z hz => ((hm z).mp hz).elim (hc.wd z) (hc2.wd z)
    refine lc_pairs (G := fun z => val t z - val u z) h1 hD (by omega) (fun _ => rfl) (fun z hz H' s' Qe qk => ?_) fun H' xs s' hD' hP' => ?_
    · have hcA := (hc.same s1).same s'
      obtain ⟨⟨dxA, hpA⟩, _⟩ := id hcA
      refine ⟨_, rfl, _, rfl, _, rfl, p, dxA, _, rfl, hpA, p, d, t, z, rfl, hww z hz, hcA, fun H2 s2 => ?_⟩
      have hcB := ((hc2.same s1).same s').same s2
      obtain ⟨⟨dxB, hqB⟩, _⟩ := id hcB
      refine ⟨_, rfl, _, rfl, q, dxB, _, rfl, hqB, q, e, u, z, rfl, hww z hz, hcB, fun H3 s3 => ⟨_, _, rfl, rfl, ?_⟩⟩
      
      exact ⟨by show 2 ≤ sizeLine; decide, fun T2 hT2 => qk T2 _ ((s2.trans s3).free hT2) ((s2.trans s3).trans (Same.new hT2)) upd_same⟩
    · refine ⟨_, rfl, D, xs, rfl, .inr (SqL.of hD'), mk_pairs hP' (wd_map hww _) (by rw [List.length_map]; omega) (by rw [List.length_map]; exact hle) (fun z => ?_) (k.later (s1.trans s'))⟩
      rw [sumOf_map ha]
      by_cases c : z ∈ ws
      · rw [if_pos c]
      · have c1 : ¬ (z ∈ keys t ∨ z ∈ keys u) := mt (hm z).mpr c
        rw [if_neg c, val_out (fun m => c1 (.inl m)), val_out (fun m => c1 (.inr m))]
        rfl
theorem ok_and {C f fGe fJw : Addr} {fd fdGe fdJw : FuncData} {fI : Addr} (F : Fun K "__and__" "Counts.__and__" s_Counts_and f fd) (g : Bj mg) (T : CT P w K mg base C fI) (ci : CI K C) (SGe : GDef P w K mg base CX0 2 C "__getitem__" ["self", "word"] (spGet C) fGe fdGe)
    (FJw : Def P w K mg base CX0 3 "joint_words" ["one", "other"] (spJoint C) fJw fdJw) : FnOk P w K mg base CX0 4 f fd ["self", "other"] (spBin C fun a b => if b < a then b else a) := by
  obtain ⟨GJw, mJw, _, bJw⟩ := id FJw
  refine F.ok sc_Counts_and (fun vs H Q E h => ?_) (fun cdv A outer s H vs Q E hr h => ?_)
  · obtain ⟨_, _, _, _, _, _, rfl, _⟩ := h
    rfl
  · obtain ⟨p, d, q, e, t, u, rfl, hc, hc2, hl, hl2, k⟩ := h
    have hrJw : Room 3 _ := hr.mono (by decide)
    have hrGe : Room 3 _ := hr.mono (by decide)
    have hrI : Room 2 _ := hr.mono (by decide)
    refine ⟨_, (pss_cons (ps_if (pt_not (pt_val (pe_callB call_isi (by rfl) g.isinstance (by decide +kernel) (pa_cons (pv 1) (pa_cons (pe_glob (v := .ref C) rfl T.mgC rfl) pa_nil))))) (pss_one (ps_never)) pss_nil)
      (pss_cons (ps_setLc (i := 2) (own := [("word", 3)]) (g := gName 3)  (by rfl) sc_Counts_and.nd rfl rfl (sw_true rfl rfl rfl (by decide +kernel)) (pi_list (pe_call GJw hrJw rfl mJw FJw.kp bJw .nil pass0 (pa_cons (pv 0) (pa_cons (pv 1) pa_nil)))) (blkOk_by (own := [("word", 3)]) (N := ["self", "other", "pairs", "word"]) (sc := defScope s_Counts_and) (by decide +kernel)) (fun _ _ _ _ _ => (pg_name (i := 3) sc_Counts_and.nd rfl (Or.inl rfl))) (fun _ _ _ _ _ => pts_nil) (fun _ _ _ _ _ => (pe_tup (pa_cons (pv 3) (pa_cons (pe_callB (call_min2 rfl) (by rfl) g.min (by decide +kernel) (pa_cons (pe_callTy call_int1 (by rfl) g.int (by decide +kernel) (pa_cons (pe_ixO SGe.c SGe.fi SGe.ok hrGe SGe.b pass0 (pv 0) (pv 3)) pa_nil)) (pa_cons (pe_callTy call_int1 (by rfl) g.int (by decide +kernel) (pa_cons (pe_ixO SGe.c SGe.fi SGe.ok hrGe SGe.b pass0 (pv 1) (pv 3)) pa_nil)) pa_nil))) pa_nil)))))
      (pss_one (ps_ret (pe_mkS T.mke T.ini hrI rfl T.mgC pass0 (pv 2)))))), ?_⟩
    obtain ⟨⟨dx, hp⟩, _⟩ := id hc
    obtain ⟨⟨dx2, hq⟩, _⟩ := id hc2
    refine ⟨_, rfl, _, _, _, _, true, rfl, .own C, ci.ty hq, kit_self, _, rfl, iteF ?_⟩
    refine ⟨_, rfl, _, rfl, p, d, q, e, t, u, rfl, hc, hc2, hl, hl2, fun l H1 ws hl' s1 h1 ha hm hle => ⟨l, rfl, ⟨_, SqL.of h1⟩, fun D hD => ?_⟩⟩
    have hww : ∀ z ∈ ws, Word z := fun z hz => ((hm z).mp hz).elim (hc.wd z) (hc2.wd z)
    refine lc_pairs (G := fun z => if val u z < val t z then val u z else val t z) h1 hD (by omega) (fun _ => rfl) (fun z hz H' s' Qe qk => ?_) fun H' xs s' hD' hP' => ?_
    · have hcA := (hc.same s1).same s'
      obtain ⟨⟨dxA, hpA⟩, _⟩ := id hcA
      refine ⟨_, rfl, _, rfl, _, rfl, p, dxA, _, rfl, hpA, p, d, t, z, rfl, hww z hz, hcA, fun H2 s2 => ?_⟩
      have hcB := ((hc2.same s1).same s').same s2
      obtain ⟨⟨dxB, hqB⟩, _⟩ := id hcB
      refine Or.inl ⟨_, rfl, _, rfl, _, rfl, q, dxB, _, rfl, hqB, q, e, u, z, rfl, hww z hz, hcB, fun H3 s3 => Or.inl ⟨_, rfl, _, _, rfl, ?_⟩⟩
      
      exact ⟨by show 2 ≤ sizeLine; decide, fun T2 hT2 => qk T2 _ ((s2.trans s3).free hT2) ((s2.trans s3).trans (Same.new hT2)) upd_same⟩
    · refine ⟨_, rfl, D, xs, rfl, .inr (SqL.of hD'), mk_pairs hP' (wd_map hww _) (by rw [List.length_map]; omega) (by rw [List.length_map]; exact hle) (fun z => ?_) (k.later (s1.trans s'))⟩
      rw [sumOf_map ha]
      by_cases c : z ∈ ws
      · rw [if_pos c]
      · have c1 : ¬ (z ∈ keys t ∨ z ∈ keys u) := mt (hm z).mpr c
        rw [if_neg c, val_out (fun m => c1 (.inl m)), val_out (fun m => c1 (.inr m))]
        rfl
theorem ok_or {C f fGe fJw : Addr} {fd fdGe fdJw : FuncData} {fI : Addr} (F : Fun K "__or__" "Counts.__or__" s_Counts_or f fd) (g : Bj mg) (T : CT P w K mg base C fI) (ci : CI K C) (SGe : GDef P w K mg base CX0 2 C "__getitem__" ["self", "word"] (spGet C) fGe fdGe)
    (FJw : Def P w K mg base CX0 3 "joint_words" ["one", "other"] (spJoint C) fJw fdJw) : FnOk P w K mg base CX0 4 f fd ["self", "other"] (spBin C fun a b => if b > a then b else a) := by
  obtain ⟨GJw, mJw, _, bJw⟩ := id FJw
  refine F.ok sc_Counts_or (fun vs H Q E h => ?_) (fun cdv A outer s H vs Q E hr h => ?_)
  · obtain ⟨_, _, _, _, _, _, rfl, _⟩ := h
    rfl
  · obtain ⟨p, d, q, e, t, u, rfl, hc, hc2, hl, hl2, k⟩ := h
    have hrJw : Room 3 _ := hr.mono (by decide)
    have hrGe : Room 3 _ := hr.mono (by decide)
    have hrI : Room 2 _ := hr.mono (by decide)
    refine ⟨_, (pss_cons (ps_if (pt_not (pt_val (pe_callB call_isi (by rfl) g.isinstance (by decide +kernel) (pa_cons (pv 1) (pa_cons (pe_glob (v := .ref C) rfl T.mgC rfl) pa_nil))))) (pss_one (ps_never)) pss_nil)
      (pss_cons (ps_setLc (i := 2) (own := [("word", 3)]) (g := gName 3)  (by rfl) sc_Counts_or.nd rfl rfl (sw_true rfl rfl rfl (by decide +kernel)) (pi_list (pe_call GJw hrJw rfl mJw FJw.kp bJw .nil pass0 (pa_cons (pv 0) (pa_cons (pv 1) pa_nil)))) (blkOk_by (own := [("word", 3)]) (N := ["self", "other", "pairs", "word"]) (sc := defScope s_Counts_or) (by decide +kernel)) (fun _ _ _ _ _ => (pg_name (i := 3) sc_Counts_or.nd rfl (Or.inl rfl))) (fun _ _ _ _ _ => pts_nil) (fun _ _ _ _ _ => (pe_tup (pa_cons (pv 3) (pa_cons (pe_callB (call_max2 rfl) (by rfl) g.max (by decide +kernel) (pa_cons (pe_callTy call_int1 (by rfl) g.int (by decide +kernel) (pa_cons (pe_ixO SGe.c SGe.fi SGe.ok hrGe SGe.b pass0 (pv 0) (pv 3)) pa_nil)) (pa_cons (pe_callTy call_int1 (by rfl) g.int (by decide +kernel) (pa_cons (pe_ixO SGe.c SGe.fi SGe.ok hrGe SGe.b pass0 (pv 1) (pv 3)) pa_nil)) pa_nil))) pa_nil)))))
      (pss_one (ps_ret (pe_mkS T.mke T.ini hrI rfl T.mgC pass0 (pv 2)))))), ?_⟩
    obtain ⟨⟨dx, hp⟩, _⟩ := id hc
    obtain ⟨⟨dx2, hq⟩, _⟩ := id hc2
    refine ⟨_, rfl, _, _, _, _, true, rfl, .own C, ci.ty hq, kit_self, _, rfl, iteF ?_⟩
    refine ⟨_, rfl, _, rfl, p, d, q, e, t, u, rfl, hc, hc2, hl, hl2, fun l H1 ws hl' s1 h1 ha hm hle => ⟨l, rfl, ⟨_, SqL.of h1⟩, fun D hD => ?_⟩⟩
    have hww : ∀ z ∈ ws, Word z := fun z hz => ((hm z).mp hz).elim (hc.wd z) (hc2.wd z)
    refine lc_pairs (G := fun z => if val u z > val t z then val u z else val t z) h1 hD (by omega) (fun _ => rfl) (fun z hz H' s' Qe qk => ?_) fun H' xs s' hD' hP' => ?_
    · have hcA := (hc.same s1).same s'
      obtain ⟨⟨dxA, hpA⟩, _⟩ := id hcA
      refine ⟨_, rfl, _, rfl, _, rfl, p, dxA, _, rfl, hpA, p, d, t, z, rfl, hww z hz, hcA, fun H2 s2 => ?_⟩
      have hcB := ((hc2.same s1).same s').same s2
      obtain ⟨⟨dxB, hqB⟩, _⟩ := id hcB
      refine Or.inl ⟨_, rfl, _, rfl, _, rfl, q, dxB, _, rfl, hqB, q, e, u, z, rfl, hww z hz, hcB, fun H3 s3 => Or.inl ⟨_, rfl, _, _, rfl, ?_⟩⟩
      
      exact ⟨by show 2 ≤ sizeLine; decide, fun T2 hT2 => qk T2 _ ((s2.trans s3).free hT2) ((s2.trans s3).trans (Same.new hT2)) upd_same⟩
    · refine ⟨_, rfl, D, xs, rfl, .inr (SqL.of hD'), mk_pairs hP' (wd_map hww _) (by rw [List.length_map]; omega) (by rw [List.length_map]; exact hle) (fun z => ?_) (k.later (s1.trans s'))⟩
      rw [sumOf_map ha]
      by_cases c : z ∈ ws
      · rw [if_pos c]
      · have c1 : ¬ (z ∈ keys t ∨ z ∈ keys u) := mt (hm z).mpr c
        rw [if_neg c, val_out (fun m => c1 (.inl m)), val_out (fun m => c1 (.inr m))]
        rfl
theorem ok_xor {C f fSu fAb : Addr} {fd fdSu fdAb : FuncData} {fI : Addr} (F : Fun K "__xor__" "Counts.__xor__" s_Counts_xor f fd) (g : Bj mg) (T : CT P w K mg base C fI) (ci : CI K C) (OSu : ODef P w K mg base CX0 4 C (PySem.dunder "sub") ["self", "other"] (spBin C fun a b => a - b) fSu fdSu)
    (SAb : GDef P w K mg base CX0 3 C "__abs__" ["self"] (spUn C fun a => if a < 0 then -a else a) fAb fdAb) : FnOk P w K mg base CX0 5 f fd ["self", "other"] (spBin C fun a b => if a - b < 0 then -(a - b) else a - b) := by
  refine F.ok sc_Counts_xor (fun vs H Q E h => ?_) (fun cdv A outer s H vs Q E hr h => ?_)
  · obtain ⟨_, _, _, _, _, _, rfl, _⟩ := h
    rfl
  · obtain ⟨p, d, q, e, t, u, rfl, hc, hc2, hl, hl2, k⟩ := h
    have hrSu : Room 4 _ := hr.mono (by decide)
    have hrAb : Room 4 _ := hr.mono (by decide)
    refine ⟨_, (pss_cons (ps_if (pt_not (pt_val (pe_callB call_isi (by rfl) g.isinstance (by decide +kernel) (pa_cons (pv 1) (pa_cons (pe_glob (v := .ref C) rfl T.mgC rfl) pa_nil))))) (pss_one (ps_never)) pss_nil)
      (pss_one (ps_ret (pe_callB (call_absO SAb.c SAb.ok hrAb SAb.b pass0) (by rfl) g.abs (by decide +kernel) (pa_cons (pe_op (op_own OSu.c OSu.ok hrSu OSu.b pass0) (pv 0) (pv 1)) pa_nil))))), ?_⟩
    obtain ⟨⟨dx, hp⟩, _⟩ := id hc
    obtain ⟨⟨dx2, hq⟩, _⟩ := id hc2
    refine ⟨_, rfl, _, _, _, _, true, rfl, .own C, ci.ty hq, kit_self, _, rfl, iteF ?_⟩
    refine ⟨_, rfl, _, rfl, p, q, dx, dx2, _, _, rfl, rfl, hp, hq, p, d, q, e, t, u, rfl, hc, hc2, hl, hl2, fun r1 e1 H1 t1 hr1 he1 s1 hc1 hv1 hl1 => ?_⟩
    obtain ⟨⟨dx3, hr3⟩, _⟩ := id hc1
    refine ⟨r1, dx3, _, rfl, hr3, r1, e1, t1, rfl, hc1, by omega, fun r2 e2 H2 t2 hr2 he2 s2 hc2' hv2 hl2' => ?_⟩
    refine k r2 e2 H2 t2 (s1.free hr2) (s1.free he2) (s1.trans s2) hc2' (fun z => ?_) (by omega)
    rw [hv2]
    dsimp only
    rw [hv1]
theorem ok_rmul {C f fMu fRm : Addr} {fd fdMu : FuncData} {fI : Addr} (F : Fun K "__rmul__" "Counts.__rmul__" s_Counts_rmul f fd) (g : Bj mg) (T : CT P w K mg base C fI) (OMu : TDef P w K mg base CX0 3 C "mul" ["self", "times"] (spMul C) fMu fRm fdMu) : FnOk P w K mg base CX0 4 f fd ["self", "times"] (spMul C) := by
  refine F.ok sc_Counts_rmul (fun vs H Q E h => ?_) (fun cdv A outer s H vs Q E hr h => ?_)
  · obtain ⟨_, _, _, _, rfl, _⟩ := h
    rfl
  · obtain ⟨p, d, t, n, rfl, hc, hl, hb, k⟩ := h
    have hrMu : Room 3 _ := hr.mono (by decide)
    refine ⟨_, (pss_one (ps_ret (pe_op (op_ownI OMu.c OMu.i1 OMu.i2 OMu.ok hrMu OMu.b pass0) (pv 0) (pv 1)))), ?_⟩
    obtain ⟨⟨dx, hp⟩, _⟩ := id hc
    exact ⟨_, rfl, _, rfl, p, dx, _, n, rfl, rfl, hp, p, d, t, n, rfl, hc, hl, hb, k⟩
theorem ok_iadd {C f fOp : Addr} {fd fdOp : FuncData} {fI : Addr} (F : Fun K "__iadd__" "Counts.__iadd__" s_Counts_iadd f fd) (g : Bj mg) (T : CT P w K mg base C fI) (OAd : ODef P w K mg base CX0 4 C (PySem.dunder "add") ["self", "other"] (spBin C fun a b => a + b) fOp fdOp) : FnOk P w K mg base CX0 5 f fd ["self", "other"] (spIn C fun a b => a + b) := by
  refine F.ok sc_Counts_iadd (fun vs H Q E h => ?_) (fun cdv A outer s H vs Q E hr h => ?_)
  · obtain ⟨_, _, _, _, _, _, rfl, _⟩ := h
    rfl
  · obtain ⟨p, d, q, e, t, u, rfl, hc, hc2, hl, hl2, k⟩ := h
    have hrAd : Room 4 _ := hr.mono (by decide)
    refine ⟨_, (pss_cons (ps_set (i := 2) sc_Counts_iadd.nd rfl (Or.inl rfl) (pe_op (op_own OAd.c OAd.ok hrAd OAd.b pass0) (pv 0) (pv 1)))
      (pss_cons (ps_fld (pv 0) (pe_fld (pv 2) rfl) rfl)
      (pss_one (ps_ret (pv 0))))), ?_⟩
    obtain ⟨⟨dx, hp⟩, _⟩ := id hc
    obtain ⟨⟨dx2, hq⟩, _⟩ := id hc2
    refine ⟨_, rfl, _, rfl, p, q, dx, dx2, _, _, rfl, rfl, hp, hq, p, d, q, e, t, u, rfl, hc, hc2, hl, hl2, fun r1 e1 H1 t1 hr1 he1 s1 hc1 hv1 hl1 => ?_⟩
    obtain ⟨⟨dx3, hr3⟩, hd3, hh3, hw3⟩ := id hc1
    have npr : p ≠ r1 := ne_of_none hp hr1
    refine ⟨_, rfl, r1, C, dx3, _, _, rfl, hr3, T.cl, T.nH, flds_held e1, _, rfl, p, C, dx, _, rfl, s1 _ _ hp, T.cl, T.nH, (by show 1 < 1000; decide), ?_⟩
    rw [putF_held]
    refine ⟨_, rfl, k e1 _ t1 he1 ⟨⟨dx, upd_same⟩, by rw [upd_ne (ne_of hd3 (s1 _ _ hp) (by intro z; cases z))]; exact hd3, hh3, hw3⟩ hv1 hl1 fun b o eb nb => ?_⟩
    rw [upd_ne nb]
    exact s1 _ _ eb
theorem ok_isub {C f fOp : Addr} {fd fdOp : FuncData} {fI : Addr} (F : Fun K "__isub__" "Counts.__isub__" s_Counts_isub f fd) (g : Bj mg) (T : CT P w K mg base C fI) (OSu : ODef P w K mg base CX0 4 C (PySem.dunder "sub") ["self", "other"] (spBin C fun a b => a - b) fOp fdOp) : FnOk P w K mg base CX0 5 f fd ["self", "other"] (spIn C fun a b => a - b) := by
  refine F.ok sc_Counts_isub (fun vs H Q E h => ?_) (fun cdv A outer s H vs Q E hr h => ?_)
  · obtain ⟨_, _, _, _, _, _, rfl, _⟩ := h
    rfl
  · obtain ⟨p, d, q, e, t, u, rfl, hc, hc2, hl, hl2, k⟩ := h
    have hrSu : Room 4 _ := hr.mono (by decide)
    refine ⟨_, (pss_cons (ps_set (i := 2) sc_Counts_isub.nd rfl (Or.inl rfl) (pe_op (op_own OSu.c OSu.ok hrSu OSu.b pass0) (pv 0) (pv 1)))
      (pss_cons (ps_fld (pv 0) (pe_fld (pv 2) rfl) rfl)
      (pss_one (ps_ret (pv 0))))), ?_⟩
    obtain ⟨⟨dx, hp⟩, _⟩ := id hc
    obtain ⟨⟨dx2, hq⟩, _⟩ := id hc2
    refine ⟨_, rfl, _, rfl, p, q, dx, dx2, _, _, rfl, rfl, hp, hq, p, d, q, e, t, u, rfl, hc, hc2, hl, hl2, fun r1 e1 H1 t1 hr1 he1 s1 hc1 hv1 hl1 => ?_⟩
    obtain ⟨⟨dx3, hr3⟩, hd3, hh3, hw3⟩ := id hc1
    have npr : p ≠ r1 := ne_of_none hp hr1
    refine ⟨_, rfl, r1, C, dx3, _, _, rfl, hr3, T.cl, T.nH, flds_held e1, _, rfl, p, C, dx, _, rfl, s1 _ _ hp, T.cl, T.nH, (by show 1 < 1000; decide), ?_⟩
    rw [putF_held]
    refine ⟨_, rfl, k e1 _ t1 he1 ⟨⟨dx, upd_same⟩, by rw [upd_ne (ne_of hd3 (s1 _ _ hp) (by intro z; cases z))]; exact hd3, hh3, hw3⟩ hv1 hl1 fun b o eb nb => ?_⟩
    rw [upd_ne nb]
    exact s1 _ _ eb
theorem ok_iand {C f fOp : Addr} {fd fdOp : FuncData} {fI : Addr} (F : Fun K "__iand__" "Counts.__iand__" s_Counts_iand f fd) (g : Bj mg) (T : CT P w K mg base C fI) (OAn : ODef P w K mg base CX0 4 C (PySem.dunder "and") ["self", "other"] (spBin C fun a b => if b < a then b else a) fOp fdOp) : FnOk P w K mg base CX0 5 f fd ["self", "other"] (spIn C fun a b => if b < a then b else a) := by
  refine F.ok sc_Counts_iand (fun vs H Q E h => ?_) (fun cdv A outer s H vs Q E hr h => ?_)
  · obtain ⟨_, _, _, _, _, _, rfl, _⟩ := h
    rfl
  · obtain ⟨p, d, q, e, t, u, rfl, hc, hc2, hl, hl2, k⟩ := h
    have hrAn : Room 4 _ := hr.mono (by decide)
    refine ⟨_, (pss_cons (ps_set (i := 2) sc_Counts_iand.nd rfl (Or.inl rfl) (pe_op (op_own OAn.c OAn.ok hrAn OAn.b pass0) (pv 0) (pv 1)))
      (pss_cons (ps_fld (pv 0) (pe_fld (pv 2) rfl) rfl)
      (pss_one (ps_ret (pv 0))))), ?_⟩
    obtain ⟨⟨dx, hp⟩, _⟩ := id hc
    obtain ⟨⟨dx2, hq⟩, _⟩ := id hc2
    refine ⟨_, rfl, _, rfl, p, q, dx, dx2, _, _, rfl, rfl, hp, hq, p, d, q, e, t, u, rfl, hc, hc2, hl, hl2, fun r1 e1 H1 t1 hr1 he1 s1 hc1 hv1 hl1 => ?_⟩
    obtain ⟨⟨dx3, hr3⟩, hd3, hh3, hw3⟩ := id hc1
    have npr : p ≠ r1 := ne_of_none hp hr1
    refine ⟨_, rfl, r1, C, dx3, _, _, rfl, hr3, T.cl, T.nH, flds_held e1, _, rfl, p, C, dx, _, rfl, s1 _ _ hp, T.cl, T.nH, (by show 1 < 1000; decide), ?_⟩
    rw [putF_held]
    refine ⟨_, rfl, k e1 _ t1 he1 ⟨⟨dx, upd_same⟩, by rw [upd_ne (ne_of hd3 (s1 _ _ hp) (by intro z; cases z))]; exact hd3, hh3, hw3⟩ hv1 hl1 fun b o eb nb => ?_⟩
    rw [upd_ne nb]
    exact s1 _ _ eb
theorem ok_ior {C f fOp : Addr} {fd fdOp : FuncData} {fI : Addr} (F : Fun K "__ior__" "Counts.__ior__" s_Counts_ior f fd) (g : Bj mg) (T : CT P w K mg base C fI) (OOr : ODef P w K mg base CX0 4 C (PySem.dunder "or") ["self", "other"] (spBin C fun a b => if b > a then b else a) fOp fdOp) : FnOk P w K mg base CX0 5 f fd ["self", "other"] (spIn C fun a b => if b > a then b else a) := by
  refine F.ok sc_Counts_ior (fun vs H Q E h => ?_) (fun cdv A outer s H vs Q E hr h => ?_)
  · obtain ⟨_, _, _, _, _, _, rfl, _⟩ := h
    rfl
  · obtain ⟨p, d, q, e, t, u, rfl, hc, hc2, hl, hl2, k⟩ := h
    have hrOr : Room 4 _ := hr.mono (by decide)
    refine ⟨_, (pss_cons (ps_set (i := 2) sc_Counts_ior.nd rfl (Or.inl rfl) (pe_op (op_own OOr.c OOr.ok hrOr OOr.b pass0) (pv 0) (pv 1)))
      (pss_cons (ps_fld (pv 0) (pe_fld (pv 2) rfl) rfl)
      (pss_one (ps_ret (pv 0))))), ?_⟩
    obtain ⟨⟨dx, hp⟩, _⟩ := id hc
    obtain ⟨⟨dx2, hq⟩, _⟩ := id hc2
    refine ⟨_, rfl, _, rfl, p, q, dx, dx2, _, _, rfl, rfl, hp, hq, p, d, q, e, t, u, rfl, hc, hc2, hl, hl2, fun r1 e1 H1 t1 hr1 he1 s1 hc1 hv1 hl1 => ?_⟩
    obtain ⟨⟨dx3, hr3⟩, hd3, hh3, hw3⟩ := id hc1
    have npr : p ≠ r1 := ne_of_none hp hr1
    refine ⟨_, rfl, r1, C, dx3, _, _, rfl, hr3, T.cl, T.nH, flds_held e1, _, rfl, p, C, dx, _, rfl, s1 _ _ hp, T.cl, T.nH, (by show 1 < 1000; decide), ?_⟩
    rw [putF_held]
    refine ⟨_, rfl, k e1 _ t1 he1 ⟨⟨dx, upd_same⟩, by rw [upd_ne (ne_of hd3 (s1 _ _ hp) (by intro z; cases z))]; exact hd3, hh3, hw3⟩ hv1 hl1 fun b o eb nb => ?_⟩
    rw [upd_ne nb]
    exact s1 _ _ eb
theorem ok_imul {C f fMu fRm : Addr} {fd fdMu : FuncData} {fI : Addr} (F : Fun K "__imul__" "Counts.__imul__" s_Counts_imul f fd) (g : Bj mg) (T : CT P w K mg base C fI) (OMu : TDef P w K mg base CX0 3 C "mul" ["self", "times"] (spMul C) fMu fRm fdMu) : FnOk P w K mg base CX0 4 f fd ["self", "times"] (spImul C) := by
  refine F.ok sc_Counts_imul (fun vs H Q E h => ?_) (fun cdv A outer s H vs Q E hr h => ?_)
  · obtain ⟨_, _, _, _, rfl, _⟩ := h
    rfl
  · obtain ⟨p, d, t, n, rfl, hc, hl, hb, k⟩ := h
    have hrMu : Room 3 _ := hr.mono (by decide)
    refine ⟨_, (pss_cons (ps_set (i := 2) sc_Counts_imul.nd rfl (Or.inl rfl) (pe_op (op_ownI OMu.c OMu.i1 OMu.i2 OMu.ok hrMu OMu.b pass0) (pv 0) (pv 1)))
      (pss_cons (ps_fld (pv 0) (pe_fld (pv 2) rfl) rfl)
      (pss_one (ps_ret (pv 0))))), ?_⟩
    obtain ⟨⟨dx, hp⟩, _⟩ := id hc
    refine ⟨_, rfl, _, rfl, p, dx, _, n, rfl, rfl, hp, p, d, t, n, rfl, hc, hl, hb, fun r1 e1 H1 t1 hr1 he1 s1 hc1 hv1 hl1 => ?_⟩
    obtain ⟨⟨dx3, hr3⟩, hd3, hh3, hw3⟩ := id hc1
    refine ⟨_, rfl, r1, C, dx3, _, _, rfl, hr3, T.cl, T.nH, flds_held e1, _, rfl, p, C, dx, _, rfl, s1 _ _ hp, T.cl, T.nH, (by show 1 < 1000; decide), ?_⟩
    rw [putF_held]
    refine ⟨_, rfl, k e1 _ t1 he1 ⟨⟨dx, upd_same⟩, by rw [upd_ne (ne_of hd3 (s1 _ _ hp) (by intro z; cases z))]; exact hd3, hh3, hw3⟩ hv1 hl1 fun b o eb nb => ?_⟩
    rw [upd_ne nb]
    exact s1 _ _ eb
end
end Cs

set_option Elab.async false
set_option linter.all false
set_option maxRecDepth 100000
set_option maxHeartbeats 4000000
/-! Methods, properties and the like as their callers have them; more plain laws. -/
namespace Cs
open PySem L2
/-- an own special method, a property, a classmethod, a def with a star, as callers have them -/
structure SDef (P : Program) (w : World) (K : PySem.W.Frag) (mg : Str → Option Value) (base : Heap) (CX : CXT) (k : Nat) (C : Addr) (m : Str) (ps : List Str) (sp : Sp) (f : Addr) (fd : FuncData) : Prop where
  c : Spc K C m f
  ns : PySem.W.noSeq K C = true
  ok : FnOk P w K mg base CX k f fd ps sp
  b : Binds K fd ps []
structure PDef (P : Program) (w : World) (K : PySem.W.Frag) (mg : Str → Option Value) (base : Heap) (CX : CXT) (k : Nat) (C : Addr) (m : Str) (sp : Sp) (q f : Addr) (fd : FuncData) : Prop where
  p : PropOf K C m q f
  ok : FnOk P w K mg base CX k f fd ["self"] sp
  b : Binds K fd ["self"] []
structure KDef (P : Program) (w : World) (K : PySem.W.Frag) (mg : Str → Option Value) (base : Heap) (CX : CXT) (k : Nat) (C : Addr) (mc : Value) (m : Str) (sp : Sp) (q f : Addr) : Prop where
  r : ClX.CRead K C mc
  c : ClX.CMet K C mc m q f
  ok : FnR P w K mg base CX k f sp
structure RDef (P : Program) (w : World) (K : PySem.W.Frag) (mg : Str → Option Value) (base : Heap) (CX : CXT) (k : Nat) (C : Addr) (m : Str) (sp : Sp) (f : Addr) : Prop where
  me : Meth K C m f
  ok : FnR P w K mg base CX k f sp
theorem nodup_of_map {α β : Type} {f : α → β} {l : List α} (h : (l.map f).Nodup) : l.Nodup := by
  unfold List.Nodup at h ⊢
  rw [List.pairwise_map] at h
  exact h.imp fun n e => n (by rw [e])
theorem told_perm {t l : Tab} (h : Held t) (k : Told (val t) l) : l.Perm t := by
  have n1 : l.Nodup := by
    have := k.asc.nodup
    unfold keys at this
    exact nodup_of_map this
  have n2 : t.Nodup := by
    have := h.nd
    unfold keys at this
    exact nodup_of_map this
  rw [List.perm_ext_iff_of_nodup n1 n2]
  rintro ⟨z, n⟩
  rw [k.mem]
  constructor
  · rintro ⟨e, q⟩
    have hz : z ∈ keys t := (h.keys_iff z).mpr (e ▸ q)
    obtain ⟨n', a, b⟩ := look_some hz
    have : n = n' := by rw [e]; unfold val; rw [a]; rfl
    rw [this]
    exact b
  · intro m
    refine ⟨?_, h.nz _ m⟩
    unfold val
    rw [look_mem h.nd m]
    rfl
theorem sum_perm {l m : List Int} (h : l.Perm m) : l.sum = m.sum := by
  induction h with
  | nil => rfl
  | cons x _ ih => rw [List.sum_cons, List.sum_cons, ih]
  | swap x y l => rw [List.sum_cons, List.sum_cons, List.sum_cons, List.sum_cons]; omega
  | trans _ _ a b => exact a.trans b
theorem total_told {t l : Tab} (h : Held t) (k : Told (val t) l) : (t.map (·.2)).sum = (l.map (·.2)).sum := (sum_perm ((told_perm h k).map _)).symm
theorem Told.congr {f g : Str → Int} {l : Tab} (h : Told f l) (e : ∀ z, f z = g z) : Told g l := by
  obtain rfl : f = g := funext e
  exact h
theorem cut_last (xs : List V) (x : V) : cutV (xs ++ [x]) none (some (-1)) = xs := by
  unfold cutV
  show ((xs ++ [x]).drop 0).take ((-1 + ((xs ++ [x]).length : Int)).toNat - 0) = xs
  rw [List.length_append, List.drop_zero]
  have : (-1 + ((xs.length + [x].length : Nat) : Int)).toNat - 0 = xs.length := by
    simp only [List.length_singleton]
    omega
  rw [this]
  simp
def pds (zs : List Str) : PyData := .list (zs.map .str)
theorem pds_can : ∀ {zs : List Str}, (∀ z ∈ zs, Word z) → PyData.canLayAll0 (zs.map .str) = true
  | [], _ => rfl
  | z :: zs, h => by
    rw [List.map_cons, PyData.canLayAll0, pds_can fun y m => h y (List.mem_cons_of_mem _ m), PyData.canLay0, word_ok (h z List.mem_cons_self)]
    rfl
theorem pds_depth : ∀ zs : List Str, PyData.depthAll (zs.map .str) = 0
  | [] => rfl
  | z :: zs => by
    rw [List.map_cons, PyData.depthAll, pds_depth zs, PyData.depth]
    rfl
theorem pds_shaped {zs : List Str} (h : ∀ z ∈ zs, Word z) : SeqAt.shaped (pds zs) = true := by
  unfold SeqAt.shaped pds
  rw [Bool.and_eq_true]
  refine ⟨by rw [PyData.canLay0]; exact pds_can h, decide_eq_true ?_⟩
  rw [PyData.depth, pds_depth]
  decide
theorem pds_refl {zs : List Str} (h : ∀ z ∈ zs, Word z) : PyData.eqv (pds zs) (pds zs) = true := SeqAt.eqv_refl _ (SeqAt.canLay_of_shaped (pds_shaped h))
theorem dp_strs {K : PySem.W.Frag} {H : Hp} : ∀ zs : List Str, DpAll K H (zs.map V.str) (zs.map .str)
  | [] => .nil
  | z :: zs => .cons (.str z) (dp_strs zs)
theorem four {α : Type} {l : List α} (h : l.length = 4) : ∃ a b c d, l = [a, b, c, d] := by
  match l, h with
  | [a, b, c, d], _ => exact ⟨a, b, c, d, rfl⟩
def spLaw (K : PySem.W.Frag) : Sp := fun vs H Q _ => ∃ (a : Addr) (ns : List Int), vs = [.ref a] ∧ SqL K H a (ns.map V.int) ∧ ns.length ≤ 63 ∧ ∀ H', Q (.bl true) H'
end Cs

set_option Elab.async false
set_option linter.all false
set_option maxRecDepth 100000
set_option maxHeartbeats 4000000
/-! Plain laws for models made word by word; rows of counts and their models. -/
namespace Cs
open PySem L2
/-- the table of G at the words ws -/
def byT (G : Str → Int) (ws : List Str) : Tab := ws.foldl (fun t z => put t z (G z)) []
theorem byT_snoc (G : Str → Int) (ws : List Str) (z : Str) : byT G (ws ++ [z]) = put (byT G ws) z (G z) := by
  unfold byT
  rw [List.foldl_append]
  rfl
theorem byT_nd (G : Str → Int) : ∀ ws, (keys (byT G ws)).Nodup := snoc_rec List.nodup_nil fun l a h => by
  rw [byT_snoc]
  exact nd_put h
theorem byT_keys (G : Str → Int) (z : Str) : ∀ ws, z ∈ keys (byT G ws) ↔ z ∈ ws := snoc_rec ⟨(fun h => nomatch h), fun h => nomatch h⟩ fun l a h => by
  rw [byT_snoc, mem_keys_put, h, List.mem_append, List.mem_singleton]
theorem byT_val (G : Str → Int) (z : Str) : ∀ ws, val (byT G ws) z = if z ∈ ws then G z else 0 := snoc_rec rfl fun l a h => by
  rw [byT_snoc, val_put (byT_nd G l), h]
  by_cases e : z = a
  · subst e
    rw [if_pos rfl, if_pos (by simp)]
  · rw [if_neg e]
    by_cases m : z ∈ l
    · rw [if_pos m, if_pos (by simp [m])]
    · rw [if_neg m, if_neg (by simp [m, e])]
theorem byT_len (G : Str → Int) : ∀ ws, (byT G ws).length ≤ ws.length := snoc_rec (Nat.le_refl _) fun l a h => by
  rw [byT_snoc, List.length_append]
  have := len_put (byT G l) a (G a)
  simp only [List.length_singleton]
  omega
theorem val_outK {t : Tab} {z : Str} (h : z ∉ keys t) : val t z = 0 := by
  unfold val
  rw [look_none h]
  rfl
theorem keys_len (t : Tab) : (keys t).length = t.length := List.length_map _
theorem keys_at {t : Tab} {i : Nat} (h : i < t.length) : (keys t)[i]? = some t[i].1 := by
  unfold keys
  rw [List.getElem?_map, List.getElem?_eq_getElem h]
  rfl
/-- keys as values -/
theorem tv_keys (t : Tab) : (tv t).map (fun q => kV q.1) = (keys t).map V.str := by
  unfold tv keys
  rw [List.map_map, List.map_map]
  rfl
/-! sizes -/
def Bd (n : Int) : Prop := n.natAbs < 2 ^ 1000
theorem log_of {n : Int} (h : Bd n) : n.natAbs.log2 ≤ 1000 := by
  by_cases e : n.natAbs = 0
  · rw [e]
    decide
  · exact Nat.le_of_lt ((Nat.log2_lt e).mpr h)
theorem logs_of {n m : Int} (h : Bd n) (k : Bd m) : n.natAbs.log2 + m.natAbs.log2 < 1000000 := by
  have := log_of h
  have := log_of k
  omega
theorem Small.bd {n : Int} (h : Small n) : Bd n := by
  have h1 := h.1
  have h2 := h.2
  have h3 : n.natAbs < 10 ^ 30 := by omega
  exact Nat.lt_trans h3 (by decide +kernel)
theorem sumOf_small (z : Str) : ∀ {ps : List (Str × Int)}, GoodPs ps → -(10 ^ 30 * (ps.length : Int)) ≤ sumOf ps z ∧ sumOf ps z ≤ 10 ^ 30 * (ps.length : Int)
  | [], _ => ⟨Int.le_refl _, Int.le_refl _⟩
  | q :: ps, h => by
    obtain ⟨a, b⟩ := sumOf_small z (ps := ps) fun r m => h r (List.mem_cons_of_mem _ m)
    obtain ⟨c, d⟩ := (h q List.mem_cons_self).2
    have e : sumOf (q :: ps) z = (if q.1 = z then q.2 else 0) + sumOf ps z := by
      unfold sumOf
      rw [List.filter_cons]
      by_cases e : q.1 = z
      · rw [if_pos (decide_eq_true e), if_pos e, List.map_cons, List.sum_cons]
      · rw [if_neg (by simpa using e), if_neg e, Int.zero_add]
    rw [e, List.length_cons]
    by_cases e : q.1 = z
    · rw [if_pos e]
      omega
    · rw [if_neg e]
      omega
theorem sumOf_bd {ps : List (Str × Int)} (h : GoodPs ps) (hl : ps.length ≤ 1000) (z : Str) : Bd (sumOf ps z) := by
  obtain ⟨a, b⟩ := sumOf_small z h
  have : (sumOf ps z).natAbs ≤ 10 ^ 30 * 1000 := by omega
  exact Nat.lt_of_le_of_lt this (by decide +kernel)
/-! rows -/
def RowOk (C : Addr) (H : Hp) (x : V) (a : Addr × Addr) : Prop := ∃ (T r : Addr) (t u : Tab), x = .ref T ∧ H T = some (.tup [.ref r, .ref a.2]) ∧ Cnt C H r a.1 t ∧ t.length ≤ 50 ∧ Mdl H a.2 u ∧ u.length ≤ 50 ∧ ∀ z, val t z = val u z
theorem RowOk.same {C : Addr} {H H' : Hp} {x : V} {a : Addr × Addr} (s : Same H H') (h : RowOk C H x a) : RowOk C H' x a := by
  obtain ⟨T, r, t, u, e, hT, hc, hl, hm, hlu, hv⟩ := h
  exact ⟨T, r, t, u, e, s _ _ hT, hc.same s, hl, hm.same s, hlu, hv⟩
theorem pair_snoc {α β : Type} {R : α → β → Prop} : ∀ {xs : List α} {ys : List β} {x : α} {y : β}, Paired R xs ys → R x y → Paired R (xs ++ [x]) (ys ++ [y])
  | _, _, _, _, .nil, h => .cons h .nil
  | _, _, _, _, .cons r t, h => .cons r (pair_snoc t h)
theorem pair_len {α β : Type} {R : α → β → Prop} : ∀ {xs : List α} {ys : List β}, Paired R xs ys → xs.length = ys.length
  | _, _, .nil => rfl
  | _, _, .cons _ t => congrArg (· + 1) (pair_len t)
/-- rows whose results' dicts are apart from each other, from all models of rows and from S -/
structure RWs (C : Addr) (S : List Addr) (H : Hp) (xs : List V) (as : List (Addr × Addr)) : Prop where
  ok : Paired (RowOk C H) xs as
  pw : as.Pairwise fun a b => a.1 ≠ b.1
  mx : ∀ a ∈ as, ∀ b ∈ as, a.1 ≠ b.2
  own : ∀ a ∈ as, a.1 ∉ S
  ex : ∀ s ∈ S, ∃ o, H s = some o
theorem rows_at {C : Addr} {H : Hp} : ∀ {xs : List V} {as : List (Addr × Addr)}, Paired (RowOk C H) xs as → ∀ a ∈ as, (∃ o, H a.1 = some o) ∧ ∃ o, H a.2 = some o
  | _, _, .nil, a, h => nomatch h
  | _, _, .cons r t, a, h => by
    rcases List.mem_cons.mp h with e | e
    · subst e
      obtain ⟨T, r, t, u, _, _, hc, _, hm, _⟩ := r
      exact ⟨⟨_, hc.dc⟩, ⟨_, hm.dc⟩⟩
    · exact rows_at t a e
theorem RWs.same {C : Addr} {S : List Addr} {H H' : Hp} {xs : List V} {as : List (Addr × Addr)} (s : Same H H') (h : RWs C S H xs as) : RWs C S H' xs as := ⟨L2.Paired.mapP h.ok fun _ _ r => r.same s, h.pw, h.mx, h.own, fun b m => by
  obtain ⟨o, e⟩ := h.ex b m
  exact ⟨o, s _ _ e⟩⟩
theorem RWs.snoc {C : Addr} {S : List Addr} {H H' : Hp} {xs : List V} {as : List (Addr × Addr)} {x : V} {e m : Addr} (h : RWs C S H xs as) (s : Same H H') (f1 : H e = none) (f2 : H m = none ∨ m ∈ S) (ne : e ≠ m) (r : RowOk C H' x (e, m)) : RWs C S H' (xs ++ [x]) (as ++ [(e, m)]) := by
  have hS := h.same s
  refine ⟨pair_snoc hS.ok r, ?_, ?_, ?_, hS.ex⟩
  · rw [List.pairwise_append]
    refine ⟨h.pw, List.pairwise_singleton _ _, fun a ha b hb => ?_⟩
    rw [List.mem_singleton.mp hb]
    obtain ⟨⟨_, h1⟩, _⟩ := rows_at h.ok a ha
    exact ne_of_none h1 f1
  · intro a ha b hb
    rcases List.mem_append.mp ha with qa | qa <;> rcases List.mem_append.mp hb with qb | qb
    · exact h.mx a qa b qb
    · rw [List.mem_singleton.mp qb]
      obtain ⟨⟨_, h1⟩, _⟩ := rows_at h.ok a qa
      rcases f2 with f2 | f2
      · exact ne_of_none h1 f2
      · exact fun q => h.own a qa (by rw [q]; exact f2)
    · rw [List.mem_singleton.mp qa]
      obtain ⟨_, ⟨_, h2⟩⟩ := rows_at h.ok b qb
      exact (ne_of_none h2 f1).symm
    · rw [List.mem_singleton.mp qa, List.mem_singleton.mp qb]
      exact ne
  · intro a ha
    rcases List.mem_append.mp ha with qa | qa
    · exact h.own a qa
    · rw [List.mem_singleton.mp qa]
      intro q
      obtain ⟨o, e'⟩ := h.ex _ q
      exact ne_of_none e' f1 rfl
theorem RWs.nil {C : Addr} {S : List Addr} {H : Hp} (h : ∀ s ∈ S, ∃ o, H s = some o) : RWs C S H [] [] := ⟨.nil, .nil, (fun _ h => nomatch h), (fun _ h => nomatch h), h⟩
/-- what stays of rows when the dict at aa.1 is changed -/
theorem rows_step {C : Addr} {H H3 : Hp} {e : Addr} {t0 : List (Key × V)} (he : H e = some (.dK t0)) (kk : ∀ b o, H b = some o → b ≠ e → H3 b = some o) : ∀ {ys : List V} {bs : List (Addr × Addr)}, Paired (RowOk C H) ys bs → (∀ b ∈ bs, e ≠ b.1 ∧ e ≠ b.2) → Paired (RowOk C H3) ys bs
  | _, _, .nil, _ => .nil
  | _, _, .cons hr tl, hd => by
    refine .cons ?_ (rows_step he kk tl fun b hb => hd b (List.mem_cons_of_mem _ hb))
    obtain ⟨Tb, rb, tb, ub, eb, hTb, ⟨⟨dx, h1⟩, h2, h3, h4⟩, hlb, hmb, hlub, hvb⟩ := hr
    obtain ⟨q1, q2⟩ := hd _ List.mem_cons_self
    have dif : ∀ {b : Addr} {o : HO}, H b = some o → (∀ kvs, o ≠ .dK kvs) → H3 b = some o := fun {b o} e1 nn => kk b o e1 (by rintro rfl; rw [he] at e1; exact nn _ (Option.some.inj e1).symm)
    exact ⟨Tb, rb, tb, ub, eb, dif hTb (fun _ q => by cases q), ⟨⟨dx, dif h1 (fun _ q => by cases q)⟩, kk _ _ h2 q1.symm, h3, h4⟩, hlb, ⟨kk _ _ hmb.dc q2.symm, hmb.nd, hmb.wd⟩, hlub, hvb⟩
theorem Cnt.keep {C : Addr} {H H3 : Hp} {e : Addr} {t0 : List (Key × V)} {r d : Addr} {t : Tab} (he : H e = some (.dK t0)) (kk : ∀ b o, H b = some o → b ≠ e → H3 b = some o) (h : Cnt C H r d t) (n : d ≠ e) : Cnt C H3 r d t := by
  obtain ⟨⟨dx, h1⟩, h2, h3, h4⟩ := h
  exact ⟨⟨dx, kk _ _ h1 (by rintro rfl; rw [he] at h1; cases h1)⟩, kk _ _ h2 n, h3, h4⟩
theorem Mdl.keep {H H3 : Hp} {e : Addr} {m : Addr} {u : Tab} (kk : ∀ b o, H b = some o → b ≠ e → H3 b = some o) (h : Mdl H m u) (n : m ≠ e) : Mdl H3 m u := ⟨kk _ _ h.dc n, h.nd, h.wd⟩
end Cs

set_option Elab.async false
set_option linter.all false
set_option maxRecDepth 100000
set_option maxHeartbeats 4000000
/-! Boxes that change: what stays when the source draws, sizes that grow, lengths by a set of words. -/
namespace Cs
open PySem L2
theorem Cnt.kp {C : Addr} {H H' : Hp} {p c r d : Addr} {t : Tab} (S : Src H p c) (k : Kp p H H') (h : Cnt C H r d t) : Cnt C H' r d t := by
  obtain ⟨⟨dx, h1⟩, h2, h3, h4⟩ := h
  obtain ⟨_, _, _, _, e, _⟩ := id S
  exact ⟨⟨dx, k _ _ h1 (by rintro rfl; rw [e] at h1; cases h1)⟩, k _ _ h2 (by rintro rfl; rw [e] at h2; cases h2), h3, h4⟩
theorem Mdl.kp {H H' : Hp} {p c m : Addr} {u : Tab} (S : Src H p c) (k : Kp p H H') (h : Mdl H m u) : Mdl H' m u := by
  obtain ⟨_, _, _, _, e, _⟩ := id S
  exact ⟨k _ _ h.dc (by rintro rfl; have := h.dc; rw [e] at this; cases this), h.nd, h.wd⟩
def BN (k : Nat) (n : Int) : Prop := n.natAbs < 2 ^ k
theorem BN.log {k : Nat} {n : Int} (h : BN k n) : n.natAbs.log2 ≤ k := by
  by_cases e : n.natAbs = 0
  · rw [e]
    exact Nat.zero_le _
  · exact Nat.le_of_lt ((Nat.log2_lt e).mpr h)
theorem BN.logs {j k : Nat} {n m : Int} (h : BN j n) (h2 : BN k m) (l : j + k < 1000000) : n.natAbs.log2 + m.natAbs.log2 < 1000000 := by
  have := h.log
  have := h2.log
  omega
theorem BN.up {j k : Nat} {n : Int} (h : BN j n) (l : j ≤ k) : BN k n := Nat.lt_of_lt_of_le h (Nat.pow_le_pow_right (by decide) l)
theorem BN.add {k : Nat} {n m : Int} (h : BN k n) (h2 : BN k m) : BN (k + 1) (n + m) := by
  unfold BN at *
  rw [Nat.pow_succ]
  omega
theorem BN.neg {k : Nat} {n : Int} (h : BN k n) : BN k (-n) := by
  unfold BN at *
  rw [Int.natAbs_neg]
  exact h
theorem BN.sub {k : Nat} {n m : Int} (h : BN k n) (h2 : BN k m) : BN (k + 1) (n - m) := by
  rw [Int.sub_eq_add_neg]
  exact h.add h2.neg
theorem BN.mul {j k : Nat} {n m : Int} (h : BN j n) (h2 : BN k m) : BN (j + k) (n * m) := by
  unfold BN at *
  rw [Int.natAbs_mul, Nat.pow_add]
  exact Nat.mul_lt_mul'' h h2
theorem Small.bn {n : Int} (h : Small n) : BN 100 n := by
  have h1 := h.1
  have h2 := h.2
  have h3 : n.natAbs < 10 ^ 30 := by omega
  exact Nat.lt_trans h3 (by decide +kernel)
theorem sumOf_bn {ps : List (Str × Int)} (h : GoodPs ps) (hl : ps.length ≤ 1000) (z : Str) : BN 110 (sumOf ps z) := by
  obtain ⟨a, b⟩ := sumOf_small z h
  have : (sumOf ps z).natAbs ≤ 10 ^ 30 * 1000 := by omega
  exact Nat.lt_of_le_of_lt this (by decide +kernel)
theorem nodup_len : ∀ {zs W : List Str}, zs.Nodup → (∀ z ∈ zs, z ∈ W) → zs.length ≤ W.length
  | [], _, _, _ => Nat.zero_le _
  | z :: zs, W, nd, hs => by
    obtain ⟨n1, n2⟩ := List.nodup_cons.mp nd
    have hz := hs z List.mem_cons_self
    have ih := nodup_len (zs := zs) (W := W.erase z) n2 fun y hy => (List.mem_erase_of_ne (by rintro rfl; exact n1 hy)).mpr (hs y (List.mem_cons_of_mem _ hy))
    rw [List.length_erase_of_mem hz] at ih
    have : 0 < W.length := List.length_pos_of_mem hz
    rw [List.length_cons]
    omega
theorem tab_len {W : List Str} {u : Tab} (nd : (keys u).Nodup) (h : ∀ z ∈ keys u, z ∈ W) : u.length ≤ W.length := by
  rw [← keys_len]
  exact nodup_len nd h
/-- the words of counts are among those of their model -/
theorem held_in {t u : Tab} (h : Held t) (e : ∀ z, val t z = val u z) : ∀ z ∈ keys t, z ∈ keys u := fun z m => by
  have := (h.keys_iff z).mp m
  rw [e] at this
  exact Classical.byContradiction fun q => this (val_outK q)
/-- the five changes -/
def opM (mode n a b : Int) : Int := if mode = 0 then a + b else if mode = 1 then a - b else if mode = 2 then (if b < a then b else a) else if mode = 3 then (if b > a then b else a) else n * a
theorem opM_bn {k : Nat} {mode n a b : Int} (hn : BN 100 n) (ha : BN k a) (hb : BN k b) : BN (k + 100) (opM mode n a b) := by
  unfold opM
  split
  · exact (ha.add hb).up (by omega)
  split
  · exact (ha.sub hb).up (by omega)
  split
  · split
    · exact hb.up (by omega)
    · exact ha.up (by omega)
  split
  · split
    · exact hb.up (by omega)
    · exact ha.up (by omega)
  · rw [Nat.add_comm]
    exact hn.mul ha
theorem opM_zero (mode n : Int) : opM mode n 0 0 = 0 := by
  unfold opM
  split
  · rfl
  split
  · rfl
  split
  · rfl
  split
  · rfl
  · exact Int.mul_zero n
end Cs

set_option Elab.async false
set_option linter.all false
set_option maxRecDepth 100000
set_option maxHeartbeats 4000000
/-! Comparisons of an own class: == by its own __eq__, != by object.__ne__; dicts of words and integers compared. -/
namespace Cs
open PySem PySem.Spec PyProof.Rows L2
section
variable {M : Model} {prog : Program} {w : World} {A : Around} {E : Value → Shared → Prop} {s : Shared} {K : PySem.W.Frag} {x C f : Addr} {ox : Obj} {od : Option Obj}
theorem ifBound_objNe {args : List Value} {Q : Option Value → Shared → Prop} (X : K.In s.heap) (I : PySem.W.InstAt s.heap x ox C od) (hs : PySem.W.findIn K (.ref C) "__ne__" = some (some (.builtin "object.__ne__")))
    (h : wpAny M A (call (.builtin "object.__ne__") (.ref x :: args)) (fun v => Q (some v)) E s) : wpAny M A (callSpecialIfBound? (.ref x) "__ne__" args) Q E s := by
  simp only [callSpecialIfBound?, bindSpecialIfBound?]
  refine wpAny_holding (wpAny_bind (wpAny_bind (wpAny_bind (I.type.here ((PySem.W.looks_findIn X hs).here ?_)))))
  refine wpAny_bind (wpAny_askSetting (wpAny_ite ?_))
  have fin : wpAny M A (call (.builtin "object.__ne__") ([.ref x] ++ args) >>= fun v => pure (some v)) Q E s := wpAny_bind (wpAny_mono h (fun v s' h' => wpAny_pure h') fun _ _ h' => h')
  split
  · exact wpAny_bind (wpAny_of_eq (F.cmp_object.ne.bind _) (wpAny_pure (by exact fin)))
  · exact wpAny_tryCatch (wpAny_bind (wpAny_of_eq (F.cmp_object.ne.bind _) (wpAny_pure (by exact fin))))
theorem objNe_own {b : Value} {Q : Fin → Shared → Prop} (hu : A.units < cLine) (X : K.In s.heap) (I : PySem.W.InstAt s.heap x ox C od) (hs : PySem.W.findIn K (.ref C) "__eq__" = some (some (.ref f))) (hf : PySem.W.isFn K (.ref f) = true)
    (h : wpAny (model prog w) A (call (.ref f) [.ref x, b]) (fun v s' => ∃ k, v = .bool k ∧ Q (.done (.ret (.bool (!k)))) s') E s) : wpAny (model prog w) A (Builtin.«object.__ne__» ⟨[.ref x, b], []⟩) Q E s := by
  unfold Builtin.«object.__ne__»
  repeat (first
    | with_reducible refine wpAny_cRoomFor hu ?_
    | (refine wpAny_bind (m := callSpecialIfBound? (.ref x) (Str.ofString "__eq__") [b])
        (PySem.W.ifBound_K X I hs hf (wpAny_mono h (fun r s' hr => by
          obtain ⟨b, rfl, hq⟩ := hr
          repeat (first | exact hq | exact wpAny_pure hq | exact wpAny_truthy_bool hq | (refine wpAny_bind (m := truthy (.bool _)) (wpAny_truthy_bool ?_)) | wp_step)) fun _ _ e => e)))
    | wp_step)
theorem call_objNe {b : Value} {Q : Value → Shared → Prop} (hu : A.units + 1 < cLine) (X : K.In s.heap) (I : PySem.W.InstAt s.heap x ox C od) (hm : PySem.W.mroIn K C (.type "object") = some true) (hs : PySem.W.findIn K (.ref C) "__eq__" = some (some (.ref f))) (hf : PySem.W.isFn K (.ref f) = true)
    (h : wpAny (model prog w) A.in1 (call (.ref f) [.ref x, b]) (fun v s' => ∃ k, v = .bool k ∧ Q (.bool (!k)) s') E s) : wpAny (model prog w) A (call (.builtin "object.__ne__") [.ref x, b]) Q E s :=
  wpAny_call (codeAny_call_builtin F.cmp_object.ne.plain F.cmpEntry_ne (PySem.W.check_slot F.cmpKind_ne F.cmpSplit_ne (I.type.andThen (PySem.W.looks_mroIn X hm)) (F.cmpArgs_ne _ _) (objNe_own (A := A.in1) hu X I hs hf (wpAny_mono h (fun v s' z => by
    obtain ⟨k, rfl, q⟩ := z
    exact ⟨k, rfl, q⟩) fun _ _ e => e))))
theorem ne_own {b tb : Value} {Q : Value → Shared → Prop} (hu : A.units + 1 < cLine) (X : K.In s.heap) (I : PySem.W.InstAt s.heap x ox C od) (hb : PySem.W.Looks (model prog w) s.heap (typeOf b) tb) (hn : PySem.W.notFirst K C tb = true)
    (hm : PySem.W.mroIn K C (.type "object") = some true) (hne : PySem.W.findIn K (.ref C) "__ne__" = some (some (.builtin "object.__ne__"))) (hs : PySem.W.findIn K (.ref C) "__eq__" = some (some (.ref f))) (hf : PySem.W.isFn K (.ref f) = true)
    (h : wpAny (model prog w) A.in1 (call (.ref f) [.ref x, b]) (fun v s' => ∃ k, v = .bool k ∧ Q (.bool (!k)) s') E s) : wpAny (model prog w) A (compareOp .NotEq (.ref x) b) Q E s := by
  have one : wpAny (model prog w) A (tryCompare (.ref x) "__ne__" b) (fun r s' => ∃ v, r = some v ∧ Q v s') E s := by
    unfold tryCompare
    refine wpAny_bind (ifBound_objNe X I hne (call_objNe hu X I hm hs hf (wpAny_mono h (fun v s' z => ?_) fun _ _ e => e)))
    obtain ⟨k, rfl, q⟩ := z
    exact ⟨k, rfl, wpAny_pure ⟨_, rfl, q⟩⟩
  show wpAny (model prog w) A (richCompare .NotEq (.ref x) b) Q E s
  unfold richCompare
  simp only [oneThing_ref]
  refine wpAny_holding (wpAny_bind (wpAny_cRoomFor (Nat.lt_of_succ_lt hu) ?_))
  refine wpAny_bind (I.type.here (wpAny_bind (hb.here ?_)))
  split
  · rename_i q
    have e : PySem.W.subIn K tb (.ref C) = some false := by
      rcases Bool.or_eq_true_iff.mp hn with e | e
      · rw [beq_iff_eq.mp e] at q; simp at q
      · exact beq_iff_eq.mp e
    refine wpAny_bind ((PySem.W.looks_subIn X e).here ?_)
    simp only [Bool.false_eq_true, if_false]
    refine wpAny_bind (wpAny_mono one (fun r s' z => ?_) fun _ _ e => e)
    obtain ⟨v, rfl, hq⟩ := z
    exact wpAny_pure hq
  · refine wpAny_bind (wpAny_pure ?_)
    simp only [Bool.false_eq_true, if_false]
    refine wpAny_bind (wpAny_mono one (fun r s' z => ?_) fun _ _ e => e)
    obtain ⟨v, rfl, hq⟩ := z
    exact wpAny_pure hq
end
section
variable {X : Cx} {CX : CXT} {k : Nat} {f C : Addr} {fd : FuncData} {ps : List Str} {sp : Sp} {E : XK}
/-- what == and != ask of the class -/
structure EqC (K : PySem.W.Frag) (C f : Addr) : Prop where
  at_ : PySem.W.findIn K (.ref C) "__eq__" = some (some (.ref f))
  fn : PySem.W.isFn K (.ref f) = true
  ne : PySem.W.findIn K (.ref C) "__ne__" = some (some (.builtin "object.__ne__"))
  hm : PySem.W.mroIn K C (.type "object") = some true
theorem first_self {K : PySem.W.Frag} : PySem.W.notFirst K C (.ref C) = true := by simp [PySem.W.notFirst]
def rEqO (C : Addr) (sp : Sp) (E : XK) : R2 := fun x y H Q => ∃ p q dp dq fp fq, x = .ref p ∧ y = .ref q ∧ H p = some (.ins C dp fp) ∧ H q = some (.ins C dq fq) ∧ sp [.ref p, .ref q] H Q E
def rNeO (C : Addr) (sp : Sp) (E : XK) : R2 := fun x y H Q => ∃ p q dp dq fp fq, x = .ref p ∧ y = .ref q ∧ H p = some (.ins C dp fp) ∧ H q = some (.ins C dq fq) ∧ sp [.ref p, .ref q] H (fun v H' => ∃ b, v = .bl b ∧ Q (.bl (!b)) H') E
theorem op_eqO (c : EqC X.K C f) (F : FnOk X.prog X.w X.K X.mg X.base CX k f fd ps sp) (hr : Room k X.A) (hb : Binds X.K fd ps []) (hx : Passes CX X E) : OpR X (compareOp .Eq) (rEqO C sp E) := by
  intro pins s σ H x y v u Q I rx ry h
  obtain ⟨p, q, dp, dq, fp, fq, rfl, rfl, hp, hq, k⟩ := h
  cases rx
  cases ry
  obtain ⟨ox, od, J, _⟩ := ins_inst I hp
  obtain ⟨oy, oe, J2, _⟩ := ins_inst I hq
  obtain ⟨m, Fr⟩ := I.fr
  show wpAny _ _ (richCompare .Eq (.ref p) (.ref q)) _ _ _
  refine PySem.W.cmp_K (op := .Eq) (tb := .ref C) hr.units0 Fr I.ok.mod.kin J J2.type first_self c.at_ c.fn ?_
  exact wpAny_mono (run_fn (us := [.ref p, .ref q]) (vs := [.ref p, .ref q]) (dvs := []) F hr hb .nil hx I (.cons rfl (.cons rfl .nil)) k) (fun v s' z => back_of z) fun _ _ z => z
theorem op_neO (c : EqC X.K C f) (F : FnOk X.prog X.w X.K X.mg X.base CX k f fd ps sp) (hr : Room (k + 1) X.A) (hb : Binds X.K fd ps []) (hx : Passes CX X E) : OpR X (compareOp .NotEq) (rNeO C sp E) := by
  intro pins s σ H x y v u Q I rx ry h
  obtain ⟨p, q, dp, dq, fp, fq, rfl, rfl, hp, hq, k⟩ := h
  cases rx
  cases ry
  obtain ⟨ox, od, J, _⟩ := ins_inst I hp
  obtain ⟨oy, oe, J2, _⟩ := ins_inst I hq
  refine ne_own (hu_of hr) I.kIn J J2.type first_self c.hm c.ne c.at_ c.fn ?_
  refine wpAny_mono (run_fn1 (us := [.ref p, .ref q]) (vs := [.ref p, .ref q]) F hr hb hx I (.cons rfl (.cons rfl .nil)) k) (fun v s' z => ?_) fun _ _ z => z
  obtain ⟨v', H', I', rv, b, rfl, qq⟩ := z
  cases rv
  exact ⟨b, rfl, .bl (!b), H', I', rfl, qq⟩
end
/-! ### dicts of words and integers -/
def allIn (t u : Tab) : Bool := t.all fun q => decide (look u q.1 = some q.2)
theorem hits_tab {A : Around} {s : Shared} {u : Tab} {vb : List (Key × Value)} (rb : KV (tv u) vb) : ∀ {t : Tab} {va : List (Key × Value)}, KV (tv t) va → PySem.W.KeqHits A s vb va (allIn t u)
  | [], _, .nil => .nil
  | q :: t, (k, v) :: va, .cons ⟨h1, h2⟩ r => by
    have h1' : (Sum.inr q.1 : Key) = k := h1
    obtain ⟨tk, rfl⟩ : ∃ tk, v = Value.int q.2 tk := h2
    subst h1'
    have rr : RelO (valV (tv u) (Sum.inr q.1)) (valueAt vb (Sum.inr q.1)) := rb.val _
    rw [tv_val] at rr
    have e : allIn (q :: t) u = (decide (look u q.1 = some q.2) && allIn t u) := rfl
    rw [e]
    cases hl : look u q.1 with
    | none =>
      rw [hl] at rr
      rw [show decide ((none : Option Int) = some q.2) = false from rfl, Bool.false_and]
      exact .miss (by cases hv : valueAt vb (Sum.inr q.1 : Key) with
        | none => rfl
        | some y => rw [hv] at rr; exact absurd rr (by intro z; cases z))
    | some n =>
      rw [hl] at rr
      obtain ⟨y, hy, ry⟩ := RelO.some_of rr
      obtain ⟨tk2, rfl⟩ : ∃ tk, y = Value.int n tk := ry
      have e2 : decide (some n = some q.2) = (q.2 == n) := by
        by_cases c : q.2 = n
        · rw [c]
          simp
        · rw [decide_eq_false (fun z => c (Option.some.inj z).symm)]
          exact (beq_eq_false_iff_ne.mpr c).symm
      rw [e2]
      exact .hit hy (SeqAt.EqAt.int_int _ _ _ _) (hits_tab rb r)
section
variable {X : Cx}
def rEqT : R2 := fun x y H Q => ∃ a b t u, x = .ref a ∧ y = .ref b ∧ H a = some (.dK (tv t)) ∧ H b = some (.dK (tv u)) ∧ Q (.bl (t.length == u.length && allIn t u)) H
def rNeT : R2 := fun x y H Q => ∃ a b t u, x = .ref a ∧ y = .ref b ∧ H a = some (.dK (tv t)) ∧ H b = some (.dK (tv u)) ∧ Q (.bl (!(t.length == u.length && allIn t u))) H
theorem op_eqT (hu : X.A.units < cLine) : OpR X (compareOp .Eq) rEqT := by
  intro pins s σ H x y v u Q I rx ry h
  obtain ⟨a, b, t, u', rfl, rfl, ea, eb, q⟩ := h
  obtain rfl : v = Value.ref a := rx
  obtain rfl : u = Value.ref b := ry
  obtain ⟨_, ya, va, ra, da⟩ := (show ObjOk X.prog X.w H s.heap a (.dK (tv t)) from I.hok a _ ea)
  obtain ⟨_, yb, vb, rb, db⟩ := (show ObjOk X.prog X.w H s.heap b (.dK (tv u')) from I.hok b _ eb)
  have h1 : va.length = t.length := by rw [← ra.length]; exact tv_len t
  have h2 : vb.length = u'.length := by rw [← rb.length]; exact tv_len u'
  exact PySem.W.keq_eq (knd := mixKind X.prog X.w) (r := allIn t u') ya yb da db hu (fun _ => hits_tab rb ra) (fin_bl I q (by rw [h1, h2]))
theorem op_neT (hu : X.A.units < cLine) : OpR X (compareOp .NotEq) rNeT := by
  intro pins s σ H x y v u Q I rx ry h
  obtain ⟨a, b, t, u', rfl, rfl, ea, eb, q⟩ := h
  obtain rfl : v = Value.ref a := rx
  obtain rfl : u = Value.ref b := ry
  obtain ⟨_, ya, va, ra, da⟩ := (show ObjOk X.prog X.w H s.heap a (.dK (tv t)) from I.hok a _ ea)
  obtain ⟨_, yb, vb, rb, db⟩ := (show ObjOk X.prog X.w H s.heap b (.dK (tv u')) from I.hok b _ eb)
  have h1 : va.length = t.length := by rw [← ra.length]; exact tv_len t
  have h2 : vb.length = u'.length := by rw [← rb.length]; exact tv_len u'
  exact PySem.W.keq_ne (knd := mixKind X.prog X.w) (r := allIn t u') ya yb da db hu (fun _ => hits_tab rb ra) (fin_bl I q (by rw [h1, h2]))
end
end Cs

set_option Elab.async false
set_option linter.all false
set_option maxRecDepth 100000
set_option maxHeartbeats 4000000
/-! Counts compared. -/
namespace Cs
open PySem L2
theorem same_tab {t u : Tab} (ht : Held t) (hu : Held u) : ((t.length == u.length && allIn t u) = true) ↔ ∀ z, val t z = val u z := by
  rw [Bool.and_eq_true, beq_iff_eq]
  unfold allIn
  rw [List.all_eq_true]
  constructor
  · rintro ⟨hl, ha⟩ z
    have sub : ∀ z ∈ keys t, z ∈ keys u := fun z hz => by
      obtain ⟨n, _, hm⟩ := look_some hz
      have := of_decide_eq_true (ha _ hm)
      exact Classical.byContradiction fun q => by rw [look_none q] at this; cases this
    by_cases c : z ∈ keys t
    · obtain ⟨n, hn, hm⟩ := look_some c
      have := of_decide_eq_true (ha _ hm)
      unfold val
      rw [hn, this]
    · have c2 : z ∉ keys u := fun q => by
        have := nodup_len (zs := z :: keys t) (W := keys u) (List.nodup_cons.mpr ⟨c, ht.nd⟩) fun y hy => (List.mem_cons.mp hy).elim (fun e => e ▸ q) (sub y)
        rw [List.length_cons, keys_len, keys_len] at this
        omega
      rw [val_outK c, val_outK c2]
  · intro h
    refine ⟨?_, fun q hq => decide_eq_true ?_⟩
    · have h1 := nodup_len (zs := keys t) (W := keys u) ht.nd fun z hz => (hu.keys_iff z).mpr (h z ▸ (ht.keys_iff z).mp hz)
      have h2 := nodup_len (zs := keys u) (W := keys t) hu.nd fun z hz => (ht.keys_iff z).mpr ((h z).symm ▸ (hu.keys_iff z).mp hz)
      rw [keys_len, keys_len] at h1 h2
      omega
    · have hz : q.1 ∈ keys u := by
        rw [hu.keys_iff, ← h]
        exact (ht.keys_iff _).mp (List.mem_map.mpr ⟨q, hq, rfl⟩)
      obtain ⟨n, hn, _⟩ := look_some hz
      have h1 := look_mem ht.nd (show (q.1, q.2) ∈ t from hq)
      have h2 := h q.1
      unfold val at h2
      rw [h1, hn] at h2
      rw [hn]
      exact congrArg some (show n = q.2 from h2.symm)
structure EDef (P : Program) (w : World) (K : PySem.W.Frag) (mg : Str → Option Value) (base : Heap) (CX : CXT) (k : Nat) (C : Addr) (ps : List Str) (sp : Sp) (f : Addr) (fd : FuncData) : Prop where
  c : EqC K C f
  ok : FnOk P w K mg base CX k f fd ps sp
  b : Binds K fd ps []
def spEq (C : Addr) : Sp := fun vs H Q _ => ∃ (p d q e : Addr) (t u : Tab), vs = [.ref p, .ref q] ∧ Cnt C H p d t ∧ Cnt C H q e u ∧ ∀ b : Bool, (b = true ↔ ∀ z, val t z = val u z) → Q (.bl b) H
section
variable {P : Program} {w : World} {K : PySem.W.Frag} {mg : Str → Option Value} {base : Heap}
theorem ok_eq {C f : Addr} {fd : FuncData} {fI : Addr} (F : Fun K "__eq__" "Counts.__eq__" s_Counts_eq f fd) (g : Bi mg) (T : CT P w K mg base C fI) (ci : CI K C) : FnOk P w K mg base CX0 1 f fd ["self", "other"] (spEq C) := by
  refine F.ok sc_Counts_eq (fun vs H Q E h => ?_) (fun cdv A outer s H vs Q E hr h => ?_)
  · obtain ⟨_, _, _, _, _, _, rfl, _⟩ := h
    rfl
  · obtain ⟨p, d, q, e, t, u, rfl, hc, hc2, k⟩ := h
    have hu := hu_of hr
    have hu0 := Nat.lt_of_succ_lt hu
    refine ⟨_, (pss_one (ps_ret (pe_and (pe_callB call_isi (by rfl) g.isinstance (by decide +kernel) (pa_cons (pv 1) (pa_cons (pe_glob (v := .ref C) rfl T.mgC rfl) pa_nil))) (pe_one (pe_cmpR (op_eqT hu0) (pe_fld (pv 0) rfl) (pe_fld (pv 1) rfl) (nomark _)))))), ?_⟩
    obtain ⟨⟨dx, hp⟩, hd, hh, _⟩ := id hc
    obtain ⟨⟨dx2, hq⟩, hd2, hh2, _⟩ := id hc2
    refine ⟨_, rfl, _, _, _, _, true, rfl, .own C, ci.ty hq, kit_self, _, rfl, iteT ?_⟩
    refine ⟨_, rfl, p, C, dx, _, _, rfl, hp, T.cl, T.nH, flds_held d, _, rfl, q, C, dx2, _, _, rfl, hq, T.cl, T.nH, flds_held e, ?_⟩
    exact ⟨d, e, t, u, rfl, rfl, hd, hd2, k _ (same_tab hh hh2)⟩
end
end Cs

set_option Elab.async false
set_option linter.all false
set_option maxRecDepth 100000
set_option maxHeartbeats 4000000
/-! Counts and models by their values alone; the operators at that level; rows of counts. -/
namespace Cs
open PySem L2
/-- counts at r with their dict at e: values F, at most n words -/
def Cv (n : Nat) (C : Addr) (H : Hp) (r e : Addr) (F : Str → Int) : Prop := ∃ t, Cnt C H r e t ∧ t.length ≤ n ∧ ∀ z, val t z = F z
def Mv (n : Nat) (H : Hp) (m : Addr) (F : Str → Int) : Prop := ∃ u, Mdl H m u ∧ u.length ≤ n ∧ ∀ z, val u z = F z
section
variable {n m : Nat} {C : Addr} {H H' : Hp} {p q d e r x : Addr} {F F1 F2 : Str → Int} {E : XK} {Q : VK} {G : Int → Int → Int} {G1 : Int → Int}
theorem Cv.same (s : Same H H') (h : Cv n C H r e F) : Cv n C H' r e F := by
  obtain ⟨t, a, b, c⟩ := h
  exact ⟨t, a.same s, b, c⟩
theorem Mv.same (s : Same H H') (h : Mv n H x F) : Mv n H' x F := by
  obtain ⟨t, a, b, c⟩ := h
  exact ⟨t, a.same s, b, c⟩
theorem Cv.up (h : Cv n C H r e F) (l : n ≤ m) : Cv m C H r e F := by
  obtain ⟨t, a, b, c⟩ := h
  exact ⟨t, a, Nat.le_trans b l, c⟩
theorem Cv.congr (h : Cv n C H r e F1) (k : ∀ z, F1 z = F2 z) : Cv n C H r e F2 := by
  obtain ⟨t, a, b, c⟩ := h
  exact ⟨t, a, b, fun z => (c z).trans (k z)⟩
theorem Mv.congr (h : Mv n H x F1) (k : ∀ z, F1 z = F2 z) : Mv n H x F2 := by
  obtain ⟨t, a, b, c⟩ := h
  exact ⟨t, a, b, fun z => (c z).trans (k z)⟩
theorem Cv.kp {c : Addr} (S : Src H p c) (k : Kp p H H') (h : Cv n C H r e F) : Cv n C H' r e F := by
  obtain ⟨t, a, b, c⟩ := h
  exact ⟨t, a.kp S k, b, c⟩
theorem Mv.kp {c : Addr} (S : Src H p c) (k : Kp p H H') (h : Mv n H x F) : Mv n H' x F := by
  obtain ⟨t, a, b, c⟩ := h
  exact ⟨t, a.kp S k, b, c⟩
theorem Cv.at (h : Cv n C H r e F) : ∃ o, H e = some (.dK o) := by
  obtain ⟨t, a, _⟩ := h
  exact ⟨_, a.dc⟩
theorem Cv.ob (h : Cv n C H r e F) : ∃ dx fs, H r = some (.ins C dx fs) := by
  obtain ⟨t, ⟨⟨dx, a⟩, _⟩, _⟩ := h
  exact ⟨dx, _, a⟩
theorem Mv.at (h : Mv n H x F) : ∃ o, H x = some (.dK o) := by
  obtain ⟨t, a, _⟩ := h
  exact ⟨_, a.dc⟩
/-- what stays when the dict at e is changed -/
theorem Cv.keep {o : List (Key × V)} (he : H e = some (.dK o)) (kk : ∀ b o, H b = some o → b ≠ e → H' b = some o) (h : Cv n C H r d F) (n1 : d ≠ e) : Cv n C H' r d F := by
  obtain ⟨t, a, b, c⟩ := h
  exact ⟨t, Cnt.keep he kk a n1, b, c⟩
theorem Mv.keep (kk : ∀ b o, H b = some o → b ≠ e → H' b = some o) (h : Mv n H x F) (n1 : x ≠ e) : Mv n H' x F := by
  obtain ⟨t, a, b, c⟩ := h
  exact ⟨t, Mdl.keep kk a n1, b, c⟩
def NewV (n : Nat) (C : Addr) (H : Hp) (Q : VK) (F : Str → Int) : Prop := ∀ (r e : Addr) (H' : Hp), H r = none → H e = none → Same H H' → Cv n C H' r e F → Q (.ref r) H'
theorem NewV.of (k : NewV n C H Q F) : NewC C H Q F n := fun r e H' u hr he s hc hv hl => k r e H' hr he s ⟨u, hc, hl, hv⟩
theorem cv_bin (h1 : Cv n C H p d F1) (h2 : Cv m C H q e F2) (hn : n ≤ 400) (hm : m ≤ 400) (k : NewV (n + m) C H Q (fun z => G (F1 z) (F2 z))) : rBinO C (spBin C G) E (.ref p) (.ref q) H Q := by
  obtain ⟨t, a, b, c⟩ := h1
  obtain ⟨t2, a2, b2, c2⟩ := h2
  obtain ⟨⟨dx, hp⟩, _⟩ := id a
  obtain ⟨⟨dx2, hq⟩, _⟩ := id a2
  refine ⟨p, q, _, _, _, _, rfl, rfl, hp, hq, p, d, q, e, t, t2, rfl, a, a2, by omega, by omega, fun r e' H' u hr he s hc hv hl => k r e' H' hr he s ⟨u, hc, by omega, fun z => ?_⟩⟩
  rw [hv]
  dsimp only
  rw [c, c2]
theorem cv_neg (h1 : Cv n C H p d F1) (hn : n ≤ 1000) (k : NewV n C H Q (fun z => G1 (F1 z))) : rNegO C (spUn C G1) E (.ref p) H Q := by
  obtain ⟨t, a, b, c⟩ := h1
  obtain ⟨⟨dx, hp⟩, _⟩ := id a
  refine ⟨p, _, _, rfl, hp, p, d, t, rfl, a, by omega, fun r e' H' u hr he s hc hv hl => k r e' H' hr he s ⟨u, hc, by omega, fun z => ?_⟩⟩
  rw [hv]
  dsimp only
  rw [c]
theorem cv_abs (h1 : Cv n C H p d F1) (hn : n ≤ 1000) (k : NewV n C H Q (fun z => G1 (F1 z))) : rAbsO C (spUn C G1) E [.ref p] H Q := by
  obtain ⟨t, a, b, c⟩ := h1
  obtain ⟨⟨dx, hp⟩, _⟩ := id a
  refine ⟨p, _, _, rfl, hp, p, d, t, rfl, a, by omega, fun r e' H' u hr he s hc hv hl => k r e' H' hr he s ⟨u, hc, by omega, fun z => ?_⟩⟩
  rw [hv]
  dsimp only
  rw [c]
theorem cv_mul {i : Int} (h1 : Cv n C H p d F1) (hn : n ≤ 1000) (hb : ∀ z, i.natAbs.log2 + (F1 z).natAbs.log2 < 1000000) (k : NewV n C H Q (fun z => i * F1 z)) : rBinI C (spMul C) E (.ref p) (.int i) H Q := by
  obtain ⟨t, a, b, c⟩ := h1
  obtain ⟨⟨dx, hp⟩, _⟩ := id a
  refine ⟨p, _, _, i, rfl, rfl, hp, p, d, t, i, rfl, a, by omega, fun z => by rw [c]; exact hb z, fun r e' H' u hr he s hc hv hl => k r e' H' hr he s ⟨u, hc, by omega, fun z => ?_⟩⟩
  rw [hv]
  dsimp only
  rw [c]
theorem cv_mulR {i : Int} (h1 : Cv n C H p d F1) (hn : n ≤ 1000) (hb : ∀ z, i.natAbs.log2 + (F1 z).natAbs.log2 < 1000000) (k : NewV n C H Q (fun z => i * F1 z)) : rMulR C (spMul C) E (.int i) (.ref p) H Q := by
  obtain ⟨t, a, b, c⟩ := h1
  obtain ⟨⟨dx, hp⟩, _⟩ := id a
  refine ⟨p, _, _, i, rfl, rfl, hp, p, d, t, i, rfl, a, by omega, fun z => by rw [c]; exact hb z, fun r e' H' u hr he s hc hv hl => k r e' H' hr he s ⟨u, hc, by omega, fun z => ?_⟩⟩
  rw [hv]
  dsimp only
  rw [c]
theorem cv_equal (h1 : Cv n C H p d F1) (h2 : Mv m H x F2) (hn : n ≤ 1000) (hm : m ≤ 63) (hF : ∀ z, F1 z = F2 z) (k : ∀ H', Same H H' → Q (.bl true) H') : spEqual C [.ref p, .ref x] H Q E := by
  obtain ⟨t, a, b, c⟩ := h1
  obtain ⟨u, a2, b2, c2⟩ := h2
  exact ⟨p, d, x, t, u, rfl, a, by omega, a2, by omega, fun z => by rw [c, c2, hF], k⟩
theorem cv_ne (h1 : Cv n C H p d F1) (h2 : Cv m C H q e F2) (hF : ∀ z, F1 z = F2 z) (k : Q (.bl false) H) : rNeO C (spEq C) E (.ref p) (.ref q) H Q := by
  obtain ⟨t, a, b, c⟩ := h1
  obtain ⟨u, a2, b2, c2⟩ := h2
  obtain ⟨⟨dx, hp⟩, _⟩ := id a
  obtain ⟨⟨dx2, hq⟩, _⟩ := id a2
  refine ⟨p, q, _, _, _, _, rfl, rfl, hp, hq, p, d, q, e, t, u, rfl, a, a2, fun b hb => ⟨b, rfl, ?_⟩⟩
  rw [hb.mpr fun z => by rw [c, c2, hF]]
  exact k
theorem cv_eq (h1 : Cv n C H p d F1) (h2 : Cv m C H q e F2) (k : ∀ b : Bool, (b = true ↔ ∀ z, F1 z = F2 z) → Q (.bl b) H) : rEqO C (spEq C) E (.ref p) (.ref q) H Q := by
  obtain ⟨t, a, b, c⟩ := h1
  obtain ⟨u, a2, b2, c2⟩ := h2
  obtain ⟨⟨dx, hp⟩, _⟩ := id a
  obtain ⟨⟨dx2, hq⟩, _⟩ := id a2
  refine ⟨p, q, _, _, _, _, rfl, rfl, hp, hq, p, d, q, e, t, u, rfl, a, a2, fun b hb => k b ?_⟩
  rw [hb]
  exact ⟨fun h z => by rw [← c, ← c2, h], fun h z => by rw [c, c2, h]⟩
/-- C() -/
theorem cv_empty (x dx : Addr) (hx : H x = none) (hdx : H dx = none) (k : ∀ e H', H e = none → Same H H' → Cv 0 C H' x e (fun _ => 0) → Q .non H') : spInit C [.ref x] (upd (upd H dx (.own x)) x (.ins C dx [])) Q E := by
  have sMk := made (C := C) hx hdx
  refine ⟨x, dx, [], [], rfl, upd_same, .nil, by show 0 ≤ 1000; decide, (fun _ h => nomatch h), fun e H' he hc kp => ?_⟩
  exact k e H' (sMk.free he) (fun b o e1 => kp b o (sMk _ _ e1) (ne_of_none e1 hx)) ⟨_, hc, Nat.zero_le _, fun _ => rfl⟩
end
theorem tNil_it {σ : L2.St} {H : Hp} {k : List V → Hp → Prop} (h : k [] H) : tNil σ H k := h
/-! rows of counts -/
def RcOk (n : Nat) (C : Addr) (H : Hp) (x : V) (e : Addr) : Prop := ∃ r F, x = .ref r ∧ Cv n C H r e F
structure RCs (n : Nat) (C : Addr) (S : List Addr) (H : Hp) (xs : List V) (es : List Addr) : Prop where
  ok : Paired (RcOk n C H) xs es
  pw : es.Pairwise (· ≠ ·)
  own : ∀ e ∈ es, e ∉ S
  ex : ∀ s ∈ S, ∃ o, H s = some o
section
variable {n : Nat} {C : Addr} {S : List Addr} {H H' : Hp} {xs : List V} {es : List Addr}
theorem RcOk.same {x : V} {e : Addr} (s : Same H H') (h : RcOk n C H x e) : RcOk n C H' x e := by
  obtain ⟨r, F, a, b⟩ := h
  exact ⟨r, F, a, b.same s⟩
theorem RCs.same (s : Same H H') (h : RCs n C S H xs es) : RCs n C S H' xs es := ⟨L2.Paired.mapP h.ok fun _ _ r => r.same s, h.pw, h.own, fun b m => by
  obtain ⟨o, e⟩ := h.ex b m
  exact ⟨o, s _ _ e⟩⟩
theorem rcs_at : ∀ {xs : List V} {es : List Addr}, Paired (RcOk n C H) xs es → ∀ e ∈ es, ∃ o, H e = some o
  | _, _, .nil, _, h => nomatch h
  | _, _, .cons r t, e, h => by
    rcases List.mem_cons.mp h with q | q
    · subst q
      obtain ⟨r, F, _, c⟩ := r
      obtain ⟨o, a⟩ := c.at
      exact ⟨_, a⟩
    · exact rcs_at t e q
theorem RCs.nil (h : ∀ s ∈ S, ∃ o, H s = some o) : RCs n C S H [] [] := ⟨.nil, .nil, (fun _ h => nomatch h), h⟩
theorem RCs.snoc {r e : Addr} {F : Str → Int} (h : RCs n C S H xs es) (s : Same H H') (f1 : H e = none) (c : Cv n C H' r e F) : RCs n C S H' (xs ++ [.ref r]) (es ++ [e]) := by
  have hS := h.same s
  refine ⟨pair_snoc hS.ok ⟨r, F, rfl, c⟩, ?_, ?_, hS.ex⟩
  · rw [List.pairwise_append]
    refine ⟨h.pw, List.pairwise_singleton _ _, fun a ha b hb => ?_⟩
    rw [List.mem_singleton.mp hb]
    obtain ⟨_, h1⟩ := rcs_at h.ok a ha
    exact ne_of_none h1 f1
  · intro a ha
    rcases List.mem_append.mp ha with qa | qa
    · exact h.own a qa
    · rw [List.mem_singleton.mp qa]
      intro q
      obtain ⟨o, e'⟩ := h.ex _ q
      exact ne_of_none e' f1 rfl
theorem rcs_step {e : Addr} {o : List (Key × V)} (he : H e = some (.dK o)) (kk : ∀ b o, H b = some o → b ≠ e → H' b = some o) : ∀ {xs : List V} {es : List Addr}, Paired (RcOk n C H) xs es → (∀ b ∈ es, e ≠ b) → Paired (RcOk n C H') xs es
  | _, _, .nil, _ => .nil
  | _, _, .cons hr tl, hd => by
    refine .cons ?_ (rcs_step he kk tl fun b hb => hd b (List.mem_cons_of_mem _ hb))
    obtain ⟨r, F, a, c⟩ := hr
    exact ⟨r, F, a, c.keep he kk (hd _ List.mem_cons_self).symm⟩
end
end Cs

set_option Elab.async false
set_option linter.all false
set_option maxRecDepth 100000
set_option maxHeartbeats 4000000
/-! Own errors with one field. -/
namespace Cs
open PySem PySem.Spec PyProof.Rows L2
/-- __init__ of an own error: self.fld = y -/
def spXi (C : Addr) (fld : Str) : Sp := fun vs H Q _ => ∃ (a : Addr) (y : V), vs = [.ref a, y] ∧ H a = some (exo a C none) ∧ ∀ dx, H dx = none → dx ≠ a → Q .non (upd (upd H dx (exd dx [(fld, y)])) a (exo a C (some dx)))
theorem upd_back {H : Hp} {a dx : Addr} {o1 o2 o3 o4 : HO} (ha : H a = none) (n : dx ≠ a) : upd (del (upd (upd (upd H a o1) dx o2) a o3) a) dx o4 = upd H dx o4 := by
  funext b
  by_cases c : b = dx
  · subst c
    rw [upd_same, upd_same]
  · rw [upd_ne c, upd_ne c]
    by_cases e : b = a
    · subst e
      rw [del_same, ha]
    · rw [del_ne e, upd_ne e, upd_ne c, upd_ne e]
theorem xmk {C : Addr} {fld : Str} {y : V} {H1 : Hp} {Q : XK} (k : ∀ dx, H1 dx = none → Q (.ref C) (some dx) (upd H1 dx (.xd [(fld, y)]))) :
    ([y] : List V).length ≤ 1000 ∧ ∀ a, H1 a = none → spXi C fld (.ref a :: ([y] ++ [])) (upd H1 a (exo a C none)) (fun v H2 => v = .non ∧ ∃ (d : Addr) (fs : List (Str × V)), H2 a = some (exo a C (some d)) ∧ H2 d = some (exd d fs) ∧ H1 d = none ∧ Q (.ref C) (some d) (upd (del H2 a) d (.xd fs))) (fun _ _ _ => False) := by
  refine ⟨by show 1 ≤ 1000; decide, fun a ha => ⟨a, y, rfl, upd_same, fun dx hdx ne => ⟨rfl, dx, _, upd_same, by rw [upd_ne ne]; exact upd_same, ?_, ?_⟩⟩⟩
  · rw [upd_ne ne] at hdx
    exact hdx
  · rw [upd_back ha ne]
    exact k dx (by rw [upd_ne ne] at hdx; exact hdx)
/-- an error of the class at S is caught by its own name -/
theorem exm_self {K : PySem.W.Frag} {S : Addr} (h1 : PySem.W.subIn K (.ref S) (.type "BaseException") = some true) (h2 : PySem.W.isClsIn K S = true) (h3 : PySem.W.typeIn K (.ref S) = some (.type "type")) (h4 : PySem.W.subIn K (.ref S) (.ref S) = some true) : PySem.W.exmOne K (.ref S) (.ref S) = some true := by
  have h2' : (PySem.W.clsIn K S).isSome = true := h2
  unfold PySem.W.exmOne PySem.W.kitCls
  simp [h1, h2', h3, h4]
/-- an own error as those have it that raise it -/
structure XDef (P : Program) (w : World) (K : PySem.W.Frag) (mg : Str → Option Value) (base : Heap) (x : Str) (C fI : Addr) (fld : Str) (ps : List Str) (fd : FuncData) : Prop where
  c : OexC K C
  iC : PySem.W.findIn K (.ref C) "__init__" = some (some (.ref fI))
  tI : PySem.W.typeIn K (.ref fI) = some (.type "function")
  ok : FnOk P w K mg base CX0 1 fI fd ps (spXi C fld)
  b : Binds K fd ps []
  mg_ : mg x = some (.ref C)
  te : PySem.W.exmOne K (.ref C) (.ref C) = some true
end Cs

set_option Elab.async false
set_option linter.all false
set_option maxRecDepth 100000
set_option maxHeartbeats 4000000
/-! isinstance(e, C) of a caught error that has its own dict; defs that let nothing out after all. -/
namespace Cs
open PySem PySem.Spec PyProof.Rows L2
section
variable {prog : Program} {w : World} {A : Around} {E : Value → Shared → Prop} {s : Shared} {K : PySem.W.Frag} {x D : Addr} {ox od : Obj}
/-- e.__class__ of an error with a dict -/
theorem exd_class {Q : Option Value → Shared → Prop} (C : ExcC K D) (X : K.In s.heap) (I : PySem.W.InstAt s.heap x ox D (some od)) (h : Q (some (.ref D)) { s with toks := s.toks + 1 }) : wpAny (model prog w) A (getAttr? (.ref x) "__class__") Q E s := by
  have hf : PySem.W.findObj K D (some od) "__class__" = some (.bind (.builtin "getset_descriptor.__get__") (.builtin "object.__class__")) := PySem.W.findObj_data (by obtain ⟨cd, hc, _⟩ := PySem.W.any_some C.hd; rw [hc]; rfl) C.ha C.hn C.ht
  obtain ⟨hp, g, d, t, os⟩ := s
  have T0 := I.type (M := model prog w)
  have T1 := PySem.W.looks_findIn (M := model prog w) X C.hg
  have T2 := PySem.W.looks_findIn (M := model prog w) X C.hk
  have T3 := PySem.W.looks_find (M := model prog w) X I hf
  have up : PySem.W.Looks (model prog w) hp (isInstance (.ref x) (.type "BaseException")) true := T0.andThen (PySem.W.looks_subIn X C.hs)
  have e2 : (Value.builtin "BaseException.__getattribute__" == Value.builtin "object.__getattribute__") = false := by decide +kernel
  have e1 : (onTheHeap (Value.ref D) && Value.builtin "BaseException.__getattribute__" == Value.builtin "object.__getattribute__") = false := by rw [e2]; rfl
  unfold getAttr?; unfold getAttrBy?; unfold getAttrBy
  refine wpAny_bind (wpAny_mkText (wpAny_bind (wpAny_attempt (wpAny_holding (wpAny_bind (T0.at (wpAny_bind (T1.at ?_))))))))
  show wpAny _ _ (if (onTheHeap (Value.ref D) && Value.builtin "BaseException.__getattribute__" == Value.builtin "object.__getattribute__") = true then _ else _) _ _ _
  rw [e1, if_neg Bool.false_ne_true]; unfold getAttrByItsOwn; unfold hookBefore
  refine wpAny_bind ?_; rw [if_pos (show onTheHeap (Value.ref D) = true from rfl)]
  refine T2.at (wpAny_bind (wpAny_attempt (wpAny_holding ?_)))
  unfold callGetattribute; rw [show (false && onTheHeap (Value.builtin "BaseException.__getattribute__")) = false from rfl, if_neg Bool.false_ne_true]; unfold boundAndCalled
  rw [PySem.F.excAttr_ValueError.ga.bind (.ref x)]; refine wpAny_bind (wpAny_pure ?_)
  show wpAny _ _ (call (.builtin "BaseException.__getattribute__") [.ref x, .str "__class__" t]) _ _ _
  refine wpAny_call (codeAny_call_builtin PySem.F.excAttr_ValueError.ga.plain PySem.F.entry_bexc_ga (@PySem.W.check_slot (model prog w) _ _ ⟨hp, g, d, t + 1, os⟩ "BaseException.__getattribute__" "BaseException" "__getattribute__" (.ref x) [.str "__class__" t] [] _ (by decide +kernel) (by decide +kernel) up (PySem.F.args_bexc_ga (.ref x) (.str "__class__" t)) ?_))
  unfold Builtin.«object.__getattribute__»; refine wpAny_bind (wpAny_of_eq (a := ((Value.ref x : Value), [Value.str "__class__" t])) (by first | rfl | (simp only [slotArgs]; rfl)) ?_)
  refine wpAny_bind (wpAny_pure (wpAny_bind (T0.at (wpAny_bind (T3.at ?_))))); show wpAny _ _ (holding [Value.builtin "object.__class__"] (call (.builtin "getset_descriptor.__get__") [.builtin "object.__class__", .ref x, .ref D]) >>= ret) _ _ _
  refine wpAny_bind (wpAny_holding (wpAny_call (PySem.W.class_get (s := ⟨hp, g, d, t + 1, os⟩) (ox := ox) (od := some od) X I C.hm (wpAny_pure ?_)))); show wpAny _ _ (handedOut (.ref D)) _ _ _
  rw [PySem.W.handedOut_of (v := .ref D) rfl]; first | exact wpAny_pure (wpAny_pure h) | exact wpAny_pure h | exact wpAny_pure (wpAny_bind (wpAny_pure (wpAny_pure h)))
theorem exd_kit (C : ExcC K D) : PySem.W.KitX K (.ref x) (.ref D) (fun h => PySem.W.InstAt h x ox D (some od)) := by
  have hc : ∃ c' d' cd' sl', K.lookup D = some ⟨c', d', .cls cd', sl'⟩ := by
    obtain ⟨cdD, hcD, _⟩ := PySem.W.any_some C.hd
    unfold PySem.W.clsIn at hcD
    split at hcD
    · rename_i c' d' cd' sl' ho
      exact ⟨c', d', _, sl', ho⟩
    · cases hcD
  obtain ⟨c', d', cd', sl', ho⟩ := hc
  have h3 : ∀ (h : Heap) (tp : Addr) (dd : Option Addr) (its : Array Value) (n : Nat) (sl : Array (Option Value)), K.In h → h.get? tp = some ⟨.type "tuple", dd, .seq its n, sl⟩ → (Value.ref D == Value.ref tp) = false := fun h tp dd its n sl X htp => by
    refine Bool.eq_false_iff.mpr fun q => ?_
    have e : D = tp := Value.ref.inj (beq_iff_eq.mp q)
    subst e
    have z := (X _ _ ho).symm.trans htp
    cases z
  refine ⟨fun _ _ _ I => I.type, fun _ _ X _ A1 Q1 E1 s1 k q => ?_, fun h tp dd its => h3 h tp dd its.toArray, fun X I k => exd_class C X I k⟩
  unfold isType; unfold loadHead; exact wpAny_bind (wpAny_loadPart (k _ _ (X _ _ ho)) (wpAny_pure q))
end
/-- isinstance(e, c), e the error that the suite holds -/
def rIsD (K : PySem.W.Frag) (a : Addr) (cls : Value) (d : Option Addr) : List V → Hp → VK → Prop := fun xs H Q => ∃ (D dd : Addr) (fs : List (Str × V)) (c : V) (cv : Value) (b : Bool), ExcC K D ∧ cls = .ref D ∧ d = some dd ∧ H dd = some (.xd fs) ∧ xs = [.ref a, c] ∧ (∀ u, RelV c u → u = cv) ∧ PySem.W.kitOne K (.ref D) cv = some b ∧ Q (.bl b) H
theorem call_isD {X : Cx} {a : Addr} {oe : Obj} {cls : Value} {d : Option Addr} {pn : List (Addr × Obj)} (hz : Zc cls d oe) (hf : ∃ vs, oe.data = .fields vs) : CallR (X.suite a ((a, oe) :: pn)) (.builtin "isinstance") (rIsD X.K a cls d) := by
  intro pins s σ H xs us Q I r h
  obtain ⟨D, dd, fs, c, cv, b, C, rfl, rfl, hdd, rfl, hcv, e, q⟩ := h
  cases r with
  | cons rx rr =>
    cases rr with
    | cons rt rr =>
      cases rr
      cases rx
      have ec := hcv _ rt
      subst ec
      obtain ⟨hget, _⟩ := I.pin (a, oe) (List.mem_append.mpr (.inl List.mem_cons_self))
      obtain ⟨vs, hv⟩ := hf
      have hx : ObjOk X.prog X.w H s.heap dd (.xd fs) := I.hok dd _ hdd
      obtain ⟨mA, hns, hr⟩ := hx
      obtain ⟨od, ho, hl⟩ := lookIn_ns hns
      have J : PySem.W.InstAt s.heap a oe D (some od) := ⟨hget, hz.1, by unfold PySem.W.notCls; rw [hv] <;> rfl, by rw [hz.2]; exact ho⟩
      exact PySem.W.kia_one (exd_kit C) I.kIn J e (fun z => nomatch z) fun tk => ⟨.bl b, H, I.kept (t' := tk) fun _ _ z => z, rfl, q⟩
/-- a def whose promise lets nothing out -/
theorem FnR.calm {P : Program} {w : World} {K : PySem.W.Frag} {mg : Str → Option Value} {base : Heap} {k : Nat} {f : Addr} {sp : Sp} (F : FnR P w K mg base (L2.CX P w) k f sp) : FnR P w K mg base CX0 k f (fun vs H Q _ => sp vs H Q fun _ _ _ => False) := by
  intro A outer s H us vs Q E hr e0 r hs
  refine codeAny_mono (F A outer s H us vs Q _ hr e0 r hs) fun r s' h => ?_
  cases r with
  | ok fl => cases fl <;> exact h
  | error e =>
    obtain ⟨_, _, _, _, _, _, _, _, _, _, _, _, z⟩ := h
    exact z.elim
theorem FnOk.calm {P : Program} {w : World} {K : PySem.W.Frag} {mg : Str → Option Value} {base : Heap} {k : Nat} {f : Addr} {fd : FuncData} {ps : List Str} {sp : Sp} (F : FnOk P w K mg base (L2.CX P w) k f fd ps sp) : FnOk P w K mg base CX0 k f fd ps (fun vs H Q _ => sp vs H Q fun _ _ _ => False) := by
  refine ⟨fun vs H Q E h => F.len vs H Q _ h, fun A outer s H args us vs Q E hr e0 b r hs => ?_⟩
  refine codeAny_mono (F.run A outer s H args us vs Q _ hr e0 b r hs) fun r s' h => ?_
  cases r with
  | ok fl => cases fl <;> exact h
  | error e =>
    obtain ⟨_, _, _, _, _, _, _, _, _, _, _, _, z⟩ := h
    exact z.elim
end Cs

set_option Elab.async false
set_option linter.all false
set_option maxRecDepth 100000
set_option maxHeartbeats 4000000
/-! Own errors over LookupError, RuntimeError, ZeroDivisionError (or ValueError): made, with fields. -/
namespace Cs
open PySem PySem.Spec PyProof.Rows L2
open Builtin Builtin.ObjectAttr
/-- own classes, then the tail of a built-in base -/
def refsT (tl : List Value) : List Value → Bool
  | .ref _ :: r => refsT tl r
  | l => l == tl
def isRf : Value → Bool
  | .ref _ => true
  | _ => false
/-- what must be known of a base -/
structure BaseT (B newId initId : String) (tl : List Value) : Prop where
  F : ExcBaseFacts B newId initId tl
  pass : ∀ self : Value, refuseLoop self "__setattr__" tl = pure ()
  obj : tl.contains (.type "object") = true
  nr : tl.any isRf = false
theorem base_V : BaseT "ValueError" "ValueError.__new__" "ValueError.__init__" PySem.HandSPX.veTail := ⟨F.excBase_ValueError, PySem.F.store_ValueError.passes, by decide +kernel, rfl⟩
theorem base_Z : BaseT "ZeroDivisionError" "ZeroDivisionError.__new__" "ZeroDivisionError.__init__" [.type "ZeroDivisionError", .type "ArithmeticError", .type "Exception", .type "BaseException", .type "object"] := ⟨F.excBase_ZeroDivisionError, fun self => by kernel_rfl, by decide +kernel, rfl⟩
theorem base_L : BaseT "LookupError" "LookupError.__new__" "LookupError.__init__" [.type "LookupError", .type "Exception", .type "BaseException", .type "object"] := ⟨F.excBase_LookupError, fun self => by kernel_rfl, by decide +kernel, rfl⟩
theorem base_R : BaseT "RuntimeError" "RuntimeError.__new__" "RuntimeError.__init__" [.type "RuntimeError", .type "Exception", .type "BaseException", .type "object"] := ⟨F.excBase_RuntimeError, fun self => by kernel_rfl, by decide +kernel, rfl⟩
section
variable {B newId initId : String} {tl : List Value}
theorem refsT_cases : ∀ l : List Value, refsT tl l = true → (∃ c r, l = .ref c :: r ∧ refsT tl r = true) ∨ l = tl
  | .ref c :: r, e => .inl ⟨c, r, rfl, e⟩
  | [], e => .inr (beq_iff_eq.mp e)
  | .none :: _, e => .inr (beq_iff_eq.mp e)
  | .ellipsis :: _, e => .inr (beq_iff_eq.mp e)
  | .notImplemented :: _, e => .inr (beq_iff_eq.mp e)
  | .bool _ :: _, e => .inr (beq_iff_eq.mp e)
  | .int _ _ :: _, e => .inr (beq_iff_eq.mp e)
  | .float _ _ :: _, e => .inr (beq_iff_eq.mp e)
  | .str _ _ :: _, e => .inr (beq_iff_eq.mp e)
  | .bytes _ _ :: _, e => .inr (beq_iff_eq.mp e)
  | .type _ :: _, e => .inr (beq_iff_eq.mp e)
  | .builtin _ :: _, e => .inr (beq_iff_eq.mp e)
theorem refsT_pass (T : BaseT B newId initId tl) (self : Value) : ∀ l : List Value, refsT tl l = true → refuseLoop self "__setattr__" l = pure () := by
  intro l
  induction l with
  | nil =>
    intro e
    rcases refsT_cases [] e with ⟨c, r, q, _⟩ | q
    · cases q
    · rw [q]; exact T.pass self
  | cons a r ih =>
    intro e
    rcases refsT_cases (a :: r) e with ⟨c, r', q, h⟩ | q
    · obtain ⟨rfl, rfl⟩ := List.cons.inj q
      rw [PySem.refuseLoop_ref]; exact ih h
    · rw [q]; exact T.pass self
theorem refsT_contains (X : String) : ∀ l : List Value, refsT tl l = true → l.contains (.type X) = tl.contains (.type X) := by
  intro l
  induction l with
  | nil =>
    intro e
    rcases refsT_cases [] e with ⟨c, r, q, _⟩ | q
    · cases q
    · rw [q]
  | cons a r ih =>
    intro e
    rcases refsT_cases (a :: r) e with ⟨c, r', q, h⟩ | q
    · obtain ⟨rfl, rfl⟩ := List.cons.inj q
      rw [List.contains_cons, ih h]; rfl
    · rw [q]
end
section
variable {prog : Program} {w : World} {A : Around} {E : Value → Shared → Prop} {R : Result → Shared → Prop} {hp : Heap} {g : Array GenState} {d : Drawn} {t : Nat} {os : OsState} {B newId initId : String} {tl : List Value}
open PySem.HandSPX
/-- the first field of such an exception -/
theorem osa_newT {K : W.Frag} {name : Str} {tk : Tok} {v : Value} {x C : Addr} {fv : Array Value} {cd : ClassData} (T : BaseT B newId initId tl)
    (X : K.In hp) (hx : hp.get? x = some { cls := .ref C, data := .fields fv }) (hcd : W.clsIn K C = some cd) (hm : refsT tl cd.mro = true) (hh : cd.hasDict = true) (ha : W.findIn K (.ref C) name = some none)
    (hq : ∀ h' tk' dx, (∀ b o, b ≠ x → hp.get? b = some o → h'.get? b = some o) → hp.objs.size ≤ dx → dx ≠ x → h'.get? x = some { cls := .ref C, dict := some dx, data := .fields fv } →
      h'.Ns1 dx (fun y => if y = name then some v else none) → R (.ok (.ret .none)) ⟨h', g, d, tk', os⟩) :
    codeAny (model prog w) A (.call (.builtin "object.__setattr__") ⟨[.ref x, .str name tk, v], []⟩) R ⟨hp, g, d, t, os⟩ := by
  have I : W.InstAt hp x { cls := .ref C, data := .fields fv } C none := ⟨hx, rfl, rfl, trivial⟩
  have SF := F.store_object
  have hob : cd.mro.contains (.type "object") = true := (refsT_contains "object" _ hm).trans T.obj
  have ne : cd.mro.isEmpty = false := by
    cases h : cd.mro with
    | nil => rw [h] at hob; cases hob
    | cons _ _ => rfl
  have hxs : x ≠ hp.objs.size := Nat.ne_of_lt (Heap.lt_size hx)
  have sub : W.Looks (model prog w) hp (isInstance (.ref x) (.type "object")) true := I.type.andThen (W.looks_mroIn X (by unfold W.mroIn; rw [hcd, Option.bind_some, if_neg (by rw [ne]; decide), hob]))
  refine codeAny_call_builtin SF.slot.plain SF.entry (@W.check_slot (model prog w) _ _ ⟨hp, g, d, t, os⟩ "object.__setattr__" "object" "__setattr__" (.ref x) [.str name tk, v] [] _ SF.kind SF.split sub (SF.args (.ref x) (.str name tk) v) ?_)
  have hmr : W.Looks (model prog w) hp (mroOf (.ref C)) cd.mro := (W.looks_clsIn X hcd).andThen .now
  have L3 : W.Looks (model prog w) hp (storeTaker? none) none := .now
  have hcls : W.Looks (model prog w) hp (classData C) cd := W.looks_clsIn X hcd
  rw [W.osa_eq, refuse_eq]
  refine wpAny_bind (wpAny_bind (I.type.at (wpAny_bind (hmr.at ?_))))
  rw [refsT_pass T _ _ hm]
  refine wpAny_pure (wpAny_bind (I.type.at (wpAny_bind ((W.looks_findIn X ha).at (wpAny_bind (L3.at ?_))))))
  show wpAny _ _ (storeInOwnDict (.ref x) (.ref C) (.str name tk) name v false) _ _ _
  obtain ⟨nm, bs, mro, ns, qn, hd, sn, sb, ab, col, del⟩ := cd
  dsimp only at hh
  subst hh
  unfold storeInOwnDict ownDictForStores
  repeat (first | with_reducible refine store_in_new ?_ ?_ | with_reducible refine wpAny_loadPart_at hx ?_ | with_reducible refine hcls.at ?_ | wp_step)
  · exact ⟨_, #[], _, (Heap.get?_update_ne _ _ _ _ hxs.symm).trans (Heap.get?_push_at rfl rfl), rfl, fun e he => absurd he (by simp), fun _ => rfl⟩
  · intro h' tk' hn' hs
    have hx₁ : (hp.push { cls := .type "dict", data := .dict #[] }).get? x = some { cls := .ref C, data := .fields fv } := Heap.get?_push_of_some _ hx
    refine hq h' tk' hp.objs.size (fun b o hb ho => ?_) (Nat.le_refl _) hxs.symm ?_ hn'
    · exact (hs.2 b (Nat.ne_of_lt (Heap.lt_size ho))).trans ((Heap.get?_update_ne _ _ _ _ hb).trans (Heap.get?_push_of_some _ ho))
    · exact (hs.2 x hxs).trans (Heap.get?_update_self _ hx₁ rfl)
/-- a further one -/
theorem osa_oldT {K : W.Frag} {name : Str} {tk : Tok} {v : Value} {x C dx : Addr} {fv : Array Value} {cd : ClassData} {m0 : Str → Option Value} {nl : List Str} (T : BaseT B newId initId tl)
    (X : K.In hp) (hx : hp.get? x = some { cls := .ref C, dict := some dx, data := .fields fv }) (hns : hp.Ns1 dx m0) (hw : Within m0 nl) (hz : nl.length ≤ 1000) (hcd : W.clsIn K C = some cd) (hm : refsT tl cd.mro = true) (hh : cd.hasDict = true)
    (ha : W.findIn K (.ref C) name = some none)
    (hq : ∀ h' tk', (∀ b o, b ≠ dx → hp.get? b = some o → h'.get? b = some o) → h'.Ns1 dx (fun y => if y = name then some v else m0 y) → R (.ok (.ret .none)) ⟨h', g, d, tk', os⟩) :
    codeAny (model prog w) A (.call (.builtin "object.__setattr__") ⟨[.ref x, .str name tk, v], []⟩) R ⟨hp, g, d, t, os⟩ := by
  obtain ⟨oD, esD, epD, hoD, hdD, _⟩ := hns.count hw
  have I : W.InstAt hp x { cls := .ref C, dict := some dx, data := .fields fv } C (some oD) := ⟨hx, rfl, rfl, hoD⟩
  have SF := F.store_object
  have hob : cd.mro.contains (.type "object") = true := (refsT_contains "object" _ hm).trans T.obj
  have ne : cd.mro.isEmpty = false := by
    cases h : cd.mro with
    | nil => rw [h] at hob; cases hob
    | cons _ _ => rfl
  have sub : W.Looks (model prog w) hp (isInstance (.ref x) (.type "object")) true := I.type.andThen (W.looks_mroIn X (by unfold W.mroIn; rw [hcd, Option.bind_some, if_neg (by rw [ne]; decide), hob]))
  refine codeAny_call_builtin SF.slot.plain SF.entry (@W.check_slot (model prog w) _ _ ⟨hp, g, d, t, os⟩ "object.__setattr__" "object" "__setattr__" (.ref x) [.str name tk, v] [] _ SF.kind SF.split sub (SF.args (.ref x) (.str name tk) v) ?_)
  have hmr : W.Looks (model prog w) hp (mroOf (.ref C)) cd.mro := (W.looks_clsIn X hcd).andThen .now
  have L3 : W.Looks (model prog w) hp (storeTaker? none) none := .now
  have hcls : W.Looks (model prog w) hp (classData C) cd := W.looks_clsIn X hcd
  rw [W.osa_eq, refuse_eq]
  refine wpAny_bind (wpAny_bind (I.type.at (wpAny_bind (hmr.at ?_))))
  rw [refsT_pass T _ _ hm]
  refine wpAny_pure (wpAny_bind (I.type.at (wpAny_bind ((W.looks_findIn X ha).at (wpAny_bind (L3.at ?_))))))
  show wpAny _ _ (storeInOwnDict (.ref x) (.ref C) (.str name tk) name v false) _ _ _
  obtain ⟨nm, bs, mro, ns, qn, hd, sn, sb, ab, col, del⟩ := cd
  dsimp only at hh
  subst hh
  unfold storeInOwnDict ownDictForStores
  repeat (first | with_reducible refine PySem.OEX.store_in_old hns hw hz ?_ | with_reducible refine wpAny_loadPart_at hx ?_ | with_reducible refine hcls.at ?_ | wp_step)
  intro h' tk' hn' hs
  exact hq h' tk' (fun b o hb ho => (hs.2 b hb).trans ho) hn'
end
/-- what the written part says of such a class -/
structure OexA (K : PySem.W.Frag) (C : Addr) : Prop where
  cls : ∃ B newId initId tl, BaseT B newId initId tl ∧ ∃ nm q N bs bm sn sub ab col dd k0 k1 k2 k3 k5, K.lookup C = some (excClassObj nm q C N bs bm true sn sub ab col dd k0 k1 k2 k3 k5 newId) ∧ refsT tl bm = true
  sa : PySem.W.findIn K (.ref C) "__setattr__" = some (some (.builtin "object.__setattr__"))
  exC : PySem.W.subIn K (.ref C) (.type "BaseException") = some true
  tyC : PySem.W.typeIn K (.ref C) = some (.type "type")
  kC : PySem.W.keepIn K (.ref C) = true
section
variable {X : Cx} {pins : List (Addr × Obj)} {σ : L2.St} {H : Hp} {s : Shared} {a C dx : Addr} {f : Str} {y : V} {u : Value} {fs : List (Str × V)} {Q : Unit → Shared → Prop} {E : Value → Shared → Prop} {A : Around}
/-- self.f = y, the first one -/
theorem ost_newA (T : OexA X.K C) (I : Inv X pins σ H s) (e : H a = some (exo a C none)) (hno : PySem.W.findIn X.K (.ref C) f = some none) (ry : RelV y u)
    (h : ∀ dx s', H dx = none → dx ≠ a → Inv X pins σ (upd (upd H dx (exd dx [(f, y)])) a (exo a C (some dx))) s' → Q () s') : wpAny (model X.prog X.w) A (setAttr (.ref a) f u) Q E s := by
  obtain ⟨_, _, _, tl, BT, nm, q, N, bs, bm, sn, sub, ab, col, dd, k0, k1, k2, k3, k5, hC, hbm⟩ := T.cls
  have hcl : PySem.W.clsIn X.K C = some { name := nm, bases := bs, mro := .ref C :: bm, ns := N, qualname := q, hasDict := true, slotNames := sn, subclasses := sub, abstract := ab, collection := col, hasDel := false } := by unfold PySem.W.clsIn; rw [hC] <;> rfl
  obtain ⟨t1, ho⟩ := exo_at I.hok e
  obtain ⟨hp, g, d, t, os⟩ := s
  refine PySem.W.set_plain I.kIn (ox := { cls := .ref C, dict := none, data := .fields #[.ref t1, .none, .none, .none, .bool false, .none] }) (od := none) ⟨ho, rfl, rfl, trivial⟩ T.sa ?_
  refine osa_newT BT I.kIn ho hcl (show refsT tl (.ref C :: bm) = true from hbm) rfl hno (fun h' tk' dx k dn dne hx hn => ?_)
  have hnd : H dx = none := I.hok.fresh dn
  have nd : ∀ {b : Addr} {o : Obj}, hp.get? b = some o → b ≠ dx := fun {b o} q => Nat.ne_of_lt (Nat.lt_of_lt_of_le (Heap.lt_size q) dn)
  have na : ∀ {b : Addr}, H b = none → b ≠ a := fun {b} n z => by
    rw [z, e] at n
    cases n
  have Un1 : Un X.fs [] H (upd (upd H dx (exd dx [(f, y)])) a (exo a C (some dx))) hp h' := {
    keep := fun b o q n _ _ => k b o (na n) q
    slot := fun b o q n _ _ => ⟨o.slots, k b o (na n) q⟩
    free := fun b o q n _ => by rw [upd_ne (na n), upd_ne (nd q)]; exact n
    there := fun b o q _ => by
      by_cases hb : b = a
      · exact ⟨_, by rw [hb]; exact hx⟩
      · exact ⟨o, k b o hb q⟩
    tups := fun b xs q => by rw [upd_ne (at_ne e q exo_tup), upd_ne (ne_of_none q hnd)]; exact q
    frzs := fun b o v q => by rw [upd_ne (at_ne e q exo_frz), upd_ne (ne_of_none q hnd)]; exact q
    tbls := fun b ps q => ⟨#[], by rw [upd_ne (at_ne e q exo_tbl), upd_ne (ne_of_none q hnd), q]; simp⟩ }
  refine h dx _ hnd dne (I.un (t' := tk') Un1 fun b o q => ?_)
  by_cases hb : b = a
  · subst hb
    rw [upd_same] at q
    cases q
    exact exo_ok hx
  · rw [upd_ne hb] at q
    by_cases hd : b = dx
    · subst hd
      rw [upd_same] at q
      cases q
      exact exd_ok hn (relO_put (fs := []) ry fun g => True.intro)
    · rw [upd_ne hd] at q
      exact (I.hok b o q).stay (fun c v hc z => k c v (by
          rcases hc with hc | hc
          · rw [hc]
            exact hb
          · exact at_ne e hc exo_own) z)
        (fun c hc => by rw [upd_ne (at_ne e hc exo_own), upd_ne (ne_of_none hc hnd)]; exact hc) (fun c xs hc => by rw [upd_ne (at_ne e hc exo_tup), upd_ne (ne_of_none hc hnd)]; exact hc)
/-- self.f = y, a further one -/
theorem ost_oldA (T : OexA X.K C) (I : Inv X pins σ H s) (e : H a = some (exo a C (some dx))) (ed : H dx = some (exd dx fs)) (hl : fs.length ≤ 900) (hno : PySem.W.findIn X.K (.ref C) f = some none) (ry : RelV y u)
    (h : ∀ s', Inv X pins σ (upd H dx (exd dx ((f, y) :: fs))) s' → Q () s') : wpAny (model X.prog X.w) A (setAttr (.ref a) f u) Q E s := by
  obtain ⟨_, _, _, tl, BT, nm, q, N, bs, bm, sn, sub, ab, col, dd, k0, k1, k2, k3, k5, hC, hbm⟩ := T.cls
  have hcl : PySem.W.clsIn X.K C = some { name := nm, bases := bs, mro := .ref C :: bm, ns := N, qualname := q, hasDict := true, slotNames := sn, subclasses := sub, abstract := ab, collection := col, hasDel := false } := by unfold PySem.W.clsIn; rw [hC] <;> rfl
  obtain ⟨t1, ho⟩ := exo_at I.hok e
  obtain ⟨mA, hns, rel⟩ := exd_at I.hok ed
  have hw := within_of rel
  obtain ⟨hp, g, d, t, os⟩ := s
  obtain ⟨oD, _, _, hoD, _, _⟩ := hns.count hw
  refine PySem.W.set_plain I.kIn (ox := { cls := .ref C, dict := some dx, data := .fields #[.ref t1, .none, .none, .none, .bool false, .none] }) (od := some oD) ⟨ho, rfl, rfl, hoD⟩ T.sa ?_
  refine osa_oldT BT I.kIn ho hns hw (by rw [List.length_map]; omega) hcl (show refsT tl (.ref C :: bm) = true from hbm) rfl hno (fun h' tk' k hn => ?_)
  have hd : ∃ o, h'.get? dx = some o := by
    obtain ⟨o, _, _, e', _⟩ := hn
    exact ⟨o, e'⟩
  exact h _ (I.write (t' := tk') (x := dx) (e := dx) (o := exd dx ((f, y) :: fs)) (by rw [ed]; exact True.intro) (.inl rfl) k hd (exd_ok hn (relO_put ry rel)))
end
/-- self.f = e -/
def tOstA (K : PySem.W.Frag) (f : Str) (to te : TE) : TS := fun D σ H => te σ H fun y H1 => to σ H1 fun x H2 => ∃ a C : Addr, x = .ref a ∧ OexA K C ∧ PySem.W.findIn K (.ref C) f = some none ∧
  ((H2 a = some (exo a C none) ∧ ∀ dx, H2 dx = none → dx ≠ a → D.nx σ (upd (upd H2 dx (exd dx [(f, y)])) a (exo a C (some dx)))) ∨
    ∃ (dx : Addr) (fs : List (Str × V)), H2 a = some (exo a C (some dx)) ∧ H2 dx = some (exd dx fs) ∧ fs.length ≤ 900 ∧ D.nx σ (upd H2 dx (exd dx ((f, y) :: fs))))
section
variable {X : Cx} {o e : Expr} {es : List Expr} {to te : TE} {ta : TA} {f : Str} {p p' p1 p2 pos : Pos}
theorem ps_ostA (ho : PE X o to) (he : PE X e te) (hs : swapsWith e (some (.Attribute o f p')) pos.line X.env = pure false := by rfl) : PS X (.Assign [.Attribute o f p'] e pos) (tOstA X.K f to te) := by
  refine ⟨fun pins s σ H D I h => ?_⟩
  refine plainObj_wpAny_Assign_Attribute (thn (he.run pins s σ H _ I h) fun v s1 ⟨y, H1, I1, r1, q1⟩ => thn (ho.run pins s1 σ H1 _ I1 q1) fun u s2 ⟨x, H2, I2, r2, a, C, ex, T, hno, q⟩ => ?_) hs
  subst ex
  obtain rfl : u = Value.ref a := r2
  rcases q with ⟨ea, q⟩ | ⟨dx, fs, ea, ed, hl, q⟩
  · exact ost_newA T I2 ea hno r1 fun dx s' n ne J => ⟨σ, _, J, q dx n ne⟩
  · exact ost_oldA T I2 ea ed hl hno r1 fun s' J => ⟨σ, _, J, q⟩
/-- C(e, ..) of such a class -/
theorem pmk_oexA {CX : CXT} {x : Str} {C fI : Addr} {k : Nat} {fd : FuncData} {ps : List Str} {sp : Sp} {ds : List Value} {dvs : List V} (T : OexA X.K C) (iC : PySem.W.findIn X.K (.ref C) "__init__" = some (some (.ref fI))) (tI : PySem.W.typeIn X.K (.ref fI) = some (.type "function"))
    (F1 : FnOk X.prog X.w X.K X.mg X.base CX k fI fd ps sp) (hr : Room (k + 1) X.A) (hb : Binds X.K fd ps ds) (hd : Vals dvs ds) (hx : Passes CX X (fun _ _ _ => False)) (hg : Gl X x) (hm : X.mg x = some (.ref C)) (ha : PA X (e :: es) ta)
    (hdb : (x == ("__debug__" : Str)) = false := by decide) (he : starEach (e :: es) X.env = (false, eval e X.env) :: starEach es X.env := by rfl) (hpl : (backTo pos (starEach es X.env)).any (·.1) = false := by rfl) :
    PMk X (.Call (.Name x p) (e :: es) [] pos) (tMkO C sp dvs ta) := by
  intro pins s σ H Q I h
  obtain ⟨_, _, _, tl, BT, nm, q, N, bs, bm, sn, sub, ab, col, dd, k0, k1, k2, k3, k5, hC, hbm⟩ := T.cls
  refine wpAny_Call_Name_kw (ld_glob I hg hm ?_ hdb)
  refine PySem.W.callWith_K (h₀ := X.base) I.ok.mod.kin T.kC (thn (ha.run pos pins s σ H _ I h) fun us s1 ⟨vs, H1, I1, r1, hz, q1⟩ => ⟨I1.kIn, ?_⟩) he hpl
  show wpAny _ _ (call (.ref C) us) _ _ _
  obtain ⟨hp, g, dr, tk, os⟩ := s1
  have hsz : hp.objs.size ≤ hp.objs.size + 1 := Nat.le_succ _
  have hn : H1 (hp.objs.size + 1) = none := I1.hok.fresh hsz
  have hq := q1 (hp.objs.size + 1) hn
  have kk : ∀ b o, hp.get? b = some o → ((hp.push (PySem.W.kdv_tup us)).push (PySem.HandSPX.excO C hp.objs.size)).get? b = some o := fun b o e => Heap.get?_push_of_some _ (Heap.get?_push_of_some _ e)
  have hget : ((hp.push (PySem.W.kdv_tup us)).push (PySem.HandSPX.excO C hp.objs.size)).get? (hp.objs.size + 1) = some (PySem.HandSPX.excO C hp.objs.size) := by heap_get
  have I2 : Inv X pins σ (upd H1 (hp.objs.size + 1) (exo (hp.objs.size + 1) C none)) ⟨(hp.push (PySem.W.kdv_tup us)).push (PySem.HandSPX.excO C hp.objs.size), g, dr, tk, os⟩ :=
    I1.laid (t' := tk) (a := hp.objs.size + 1) (o := exo (hp.objs.size + 1) C none) (h' := (hp.push (PySem.W.kdv_tup us)).push (PySem.HandSPX.excO C hp.objs.size)) kk hsz (exo_ok hget)
  have r2 : Vals (V.ref (hp.objs.size + 1) :: (vs ++ dvs)) (Value.ref (hp.objs.size + 1) :: (us ++ ds)) := .cons rfl (r1.append hd)
  have hl : (Value.ref (hp.objs.size + 1) :: us ++ ds).length = ps.length := by
    have e := r2.length
    rw [F1.len _ _ _ _ hq] at e
    exact e.symm
  have hus : us.length ≤ sizeLine := by
    rw [← Paired.length r1, sizeLine_eq]
    omega
  refine wpAny_call (PySem.HandSPX.call_own BT.F (fun Y => refsT_contains Y bm hbm) (I1.kIn _ _ hC) (PySem.W.looks_findIn I1.kIn iC) (fun self => PySem.W.bind_fn I1.kIn self tI) hus
    (codeAny_mono (F1.run _ X.stack _ _ ⟨Value.ref (hp.objs.size + 1) :: us, []⟩ (Value.ref (hp.objs.size + 1) :: (us ++ ds)) _ _ (fun _ _ _ => False) (hr.make C us []) (I2.env0.make C us []) (hb _ (Value.ref (hp.objs.size + 1) :: us) I2.kIn hl) r2 hq) fun r s' hq' => ?_))
  cases r with
  | error er => exact hx pins σ _ _ er s' I2 hq'
  | ok fl =>
    cases fl with
    | ret u =>
      obtain ⟨v, H2, os2, bare2, un2, hok2, rv, ev, d, fs, ea, ed, hd1, q2⟩ := hq'
      subst ev
      obtain ⟨h2, g2, d2, t2, os'⟩ := s'
      exact ⟨rv, mk_end (raises_own T.exC T.tyC) I1 hsz kk un2 hok2 os2 bare2 ea ed hd1 q2⟩
    | next => exact False.elim hq'
    | brk => exact False.elim hq'
    | cont => exact False.elim hq'
end
/-- an own error with one field as those have it that raise it -/
structure XDefA (P : Program) (w : World) (K : PySem.W.Frag) (mg : Str → Option Value) (base : Heap) (x : Str) (C fI : Addr) (fld : Str) (ps : List Str) (fd : FuncData) : Prop where
  c : OexA K C
  iC : PySem.W.findIn K (.ref C) "__init__" = some (some (.ref fI))
  tI : PySem.W.typeIn K (.ref fI) = some (.type "function")
  ok : FnOk P w K mg base CX0 1 fI fd ps (spXi C fld)
  b : Binds K fd ps []
  mg_ : mg x = some (.ref C)
  te : PySem.W.exmOne K (.ref C) (.ref C) = some true
end Cs

set_option Elab.async false
set_option linter.all false
set_option maxRecDepth 100000
set_option maxHeartbeats 4000000
/-! Order of an own class: <= < by its own methods, >= > by those of the other side; == and != with a value of a built-in type. -/
namespace Cs
open PySem PySem.Spec PyProof.Rows L2
section
variable {M : Model} {prog : Program} {w : World} {A : Around} {E : Value → Shared → Prop} {s : Shared} {K : PySem.W.Frag} {x y C f : Addr} {ox oy : Obj} {od oe : Option Obj}
theorem ifBound_obj {nm : Str} {id : String} {args : List Value} {Q : Option Value → Shared → Prop} (S : Slot "object" nm id) (X : K.In s.heap) (I : PySem.W.InstAt s.heap x ox C od) (hs : PySem.W.findIn K (.ref C) nm = some (some (.builtin id)))
    (h : wpAny M A (call (.builtin id) (.ref x :: args)) (fun v => Q (some v)) E s) : wpAny M A (callSpecialIfBound? (.ref x) nm args) Q E s := by
  simp only [callSpecialIfBound?, bindSpecialIfBound?]
  refine wpAny_holding (wpAny_bind (wpAny_bind (wpAny_bind (I.type.here ((PySem.W.looks_findIn X hs).here ?_)))))
  refine wpAny_bind (wpAny_askSetting (wpAny_ite ?_))
  have fin : wpAny M A (call (.builtin id) ([.ref x] ++ args) >>= fun v => pure (some v)) Q E s := wpAny_bind (wpAny_mono h (fun v s' h' => wpAny_pure h') fun _ _ h' => h')
  split
  · exact wpAny_bind (wpAny_of_eq (S.bind _) (wpAny_pure (by exact fin)))
  · exact wpAny_tryCatch (wpAny_bind (wpAny_of_eq (S.bind _) (wpAny_pure (by exact fin))))
theorem kind_ge : builtinKind "object.__ge__" = some .slot := by decide +kernel
theorem kind_gt : builtinKind "object.__gt__" = some .slot := by decide +kernel
theorem split_ge : splitId "object.__ge__" = some ("object", "__ge__") := by decide +kernel
theorem split_gt : splitId "object.__gt__" = some ("object", "__gt__") := by decide +kernel
theorem try_ge {b : Value} {Q : Option Value → Shared → Prop} (X : K.In s.heap) (I : PySem.W.InstAt s.heap x ox C od) (hm : PySem.W.mroIn K C (.type "object") = some true) (hs : PySem.W.findIn K (.ref C) "__ge__" = some (some (.builtin "object.__ge__"))) (h : Q none s) :
    wpAny (model prog w) A (tryCompare (.ref x) "__ge__" b) Q E s := by
  unfold tryCompare
  refine wpAny_bind (ifBound_obj PySem.F.slot_object_ge X I hs (wpAny_call (codeAny_call_builtin PySem.F.slot_object_ge.plain PySem.F.entry_object_ge (PySem.W.check_slot kind_ge split_ge (I.type.andThen (PySem.W.looks_mroIn X hm)) (PySem.F.args_object_ge_2 _ _) ?_))))
  show wpAny _ _ (slotArgs "__ge__" 1 ⟨[.ref x, b], []⟩ >>= fun _ => ret .notImplemented) _ _ _
  refine wpAny_bind (wpAny_of_eq (a := (.ref x, [b])) (by rfl) ?_)
  refine wpAny_pure ?_
  exact wpAny_pure h
theorem try_gt {b : Value} {Q : Option Value → Shared → Prop} (X : K.In s.heap) (I : PySem.W.InstAt s.heap x ox C od) (hm : PySem.W.mroIn K C (.type "object") = some true) (hs : PySem.W.findIn K (.ref C) "__gt__" = some (some (.builtin "object.__gt__"))) (h : Q none s) :
    wpAny (model prog w) A (tryCompare (.ref x) "__gt__" b) Q E s := by
  unfold tryCompare
  refine wpAny_bind (ifBound_obj PySem.F.slot_object_gt X I hs (wpAny_call (codeAny_call_builtin PySem.F.slot_object_gt.plain PySem.F.entry_object_gt (PySem.W.check_slot kind_gt split_gt (I.type.andThen (PySem.W.looks_mroIn X hm)) (PySem.F.args_object_gt_2 _ _) ?_))))
  show wpAny _ _ (slotArgs "__gt__" 1 ⟨[.ref x, b], []⟩ >>= fun _ => ret .notImplemented) _ _ _
  refine wpAny_bind (wpAny_of_eq (a := (.ref x, [b])) (by rfl) ?_)
  refine wpAny_pure ?_
  exact wpAny_pure h
/-- x >= y, x > y: the other side's own method answers -/
theorem refl_own {op : CmpOp} {Q : Value → Shared → Prop} (hu : A.units < cLine) (X : K.In s.heap) (I : PySem.W.InstAt s.heap x ox C od) (J : PySem.W.InstAt s.heap y oy C oe)
    (dec : ∀ Q' : Option Value → Shared → Prop, Q' none s → wpAny (model prog w) A (tryCompare (.ref x) (cmpInfo op).2.1 (.ref y)) Q' E s)
    (hs : PySem.W.findIn K (.ref C) (cmpInfo op).2.2 = some (some (.ref f))) (hf : PySem.W.isFn K (.ref f) = true)
    (h : wpAny (model prog w) A (call (.ref f) [.ref y, .ref x]) (PySem.W.CmpBack Q) E s) : wpAny (model prog w) A (richCompare op (.ref x) (.ref y)) Q E s := by
  have one : wpAny (model prog w) A (tryCompare (.ref y) (cmpInfo op).2.2 (.ref x)) (fun r s' => ∃ v, r = some v ∧ Q v s') E s := by
    unfold tryCompare
    refine wpAny_bind (PySem.W.ifBound_K X J hs hf (wpAny_mono h (fun v s' hv => ?_) fun _ _ e => e))
    cases v <;> first | exact hv.elim | exact wpAny_pure ⟨_, rfl, hv⟩
  unfold richCompare
  simp only [oneThing_ref]
  refine wpAny_holding (wpAny_bind (wpAny_cRoomFor hu ?_))
  refine wpAny_bind (I.type.here (wpAny_bind (J.type.here ?_)))
  have hne : (Value.ref C != Value.ref C) = false := by simp
  simp only [hne, Bool.false_eq_true, if_false]
  refine wpAny_bind (wpAny_pure ?_)
  simp only [Bool.false_eq_true, if_false]
  refine wpAny_bind (dec _ ?_)
  dsimp only
  simp only [Bool.not_false, if_true]
  refine wpAny_bind (wpAny_mono one (fun r s' z => ?_) fun _ _ e => e)
  obtain ⟨v, rfl, hq⟩ := z
  exact wpAny_pure hq
end
section
variable {X : Cx} {CX : CXT} {k : Nat} {f C : Addr} {fd : FuncData} {ps : List Str} {sp : Sp} {E : XK}
/-- what the order asks of the class -/
structure OrC (K : PySem.W.Frag) (C fle flt : Addr) : Prop where
  le : PySem.W.findIn K (.ref C) "__le__" = some (some (.ref fle))
  lef : PySem.W.isFn K (.ref fle) = true
  lt : PySem.W.findIn K (.ref C) "__lt__" = some (some (.ref flt))
  ltf : PySem.W.isFn K (.ref flt) = true
  ge : PySem.W.findIn K (.ref C) "__ge__" = some (some (.builtin "object.__ge__"))
  gt : PySem.W.findIn K (.ref C) "__gt__" = some (some (.builtin "object.__gt__"))
  hm : PySem.W.mroIn K C (.type "object") = some true
def rCmpR (C : Addr) (sp : Sp) (E : XK) : R2 := fun x y H Q => ∃ p q dp dq fp fq, x = .ref p ∧ y = .ref q ∧ H p = some (.ins C dp fp) ∧ H q = some (.ins C dq fq) ∧ sp [.ref q, .ref p] H Q E
theorem op_leO {g : Addr} (c : OrC X.K C f g) (F : FnOk X.prog X.w X.K X.mg X.base CX k f fd ps sp) (hr : Room k X.A) (hb : Binds X.K fd ps []) (hx : Passes CX X E) : OpR X (compareOp .LtE) (rEqO C sp E) := by
  intro pins s σ H x y v u Q I rx ry h
  obtain ⟨p, q, dp, dq, fp, fq, rfl, rfl, hp, hq, k⟩ := h
  cases rx
  cases ry
  obtain ⟨ox, od, J, _⟩ := ins_inst I hp
  obtain ⟨oy, oe, J2, _⟩ := ins_inst I hq
  obtain ⟨m, Fr⟩ := I.fr
  show wpAny _ _ (richCompare .LtE (.ref p) (.ref q)) _ _ _
  refine PySem.W.cmp_K (op := .LtE) (tb := .ref C) hr.units0 Fr I.ok.mod.kin J J2.type first_self c.le c.lef ?_
  exact wpAny_mono (run_fn (us := [.ref p, .ref q]) (vs := [.ref p, .ref q]) (dvs := []) F hr hb .nil hx I (.cons rfl (.cons rfl .nil)) k) (fun v s' z => back_of z) fun _ _ z => z
theorem op_ltO {g : Addr} (c : OrC X.K C g f) (F : FnOk X.prog X.w X.K X.mg X.base CX k f fd ps sp) (hr : Room k X.A) (hb : Binds X.K fd ps []) (hx : Passes CX X E) : OpR X (compareOp .Lt) (rEqO C sp E) := by
  intro pins s σ H x y v u Q I rx ry h
  obtain ⟨p, q, dp, dq, fp, fq, rfl, rfl, hp, hq, k⟩ := h
  cases rx
  cases ry
  obtain ⟨ox, od, J, _⟩ := ins_inst I hp
  obtain ⟨oy, oe, J2, _⟩ := ins_inst I hq
  obtain ⟨m, Fr⟩ := I.fr
  show wpAny _ _ (richCompare .Lt (.ref p) (.ref q)) _ _ _
  refine PySem.W.cmp_K (op := .Lt) (tb := .ref C) hr.units0 Fr I.ok.mod.kin J J2.type first_self c.lt c.ltf ?_
  exact wpAny_mono (run_fn (us := [.ref p, .ref q]) (vs := [.ref p, .ref q]) (dvs := []) F hr hb .nil hx I (.cons rfl (.cons rfl .nil)) k) (fun v s' z => back_of z) fun _ _ z => z
theorem op_geO {g : Addr} (c : OrC X.K C f g) (F : FnOk X.prog X.w X.K X.mg X.base CX k f fd ps sp) (hr : Room k X.A) (hb : Binds X.K fd ps []) (hx : Passes CX X E) : OpR X (compareOp .GtE) (rCmpR C sp E) := by
  intro pins s σ H x y v u Q I rx ry h
  obtain ⟨p, q, dp, dq, fp, fq, rfl, rfl, hp, hq, k⟩ := h
  cases rx
  cases ry
  obtain ⟨ox, od, J, _⟩ := ins_inst I hp
  obtain ⟨oy, oe, J2, _⟩ := ins_inst I hq
  show wpAny _ _ (richCompare .GtE (.ref p) (.ref q)) _ _ _
  refine refl_own (op := .GtE) hr.units0 I.kIn J J2 (fun Q' q => try_ge I.kIn J c.hm c.ge q) c.le c.lef ?_
  exact wpAny_mono (run_fn (us := [.ref q, .ref p]) (vs := [.ref q, .ref p]) (dvs := []) F hr hb .nil hx I (.cons rfl (.cons rfl .nil)) k) (fun v s' z => back_of z) fun _ _ z => z
theorem op_gtO {g : Addr} (c : OrC X.K C g f) (F : FnOk X.prog X.w X.K X.mg X.base CX k f fd ps sp) (hr : Room k X.A) (hb : Binds X.K fd ps []) (hx : Passes CX X E) : OpR X (compareOp .Gt) (rCmpR C sp E) := by
  intro pins s σ H x y v u Q I rx ry h
  obtain ⟨p, q, dp, dq, fp, fq, rfl, rfl, hp, hq, k⟩ := h
  cases rx
  cases ry
  obtain ⟨ox, od, J, _⟩ := ins_inst I hp
  obtain ⟨oy, oe, J2, _⟩ := ins_inst I hq
  show wpAny _ _ (richCompare .Gt (.ref p) (.ref q)) _ _ _
  refine refl_own (op := .Gt) hr.units0 I.kIn J J2 (fun Q' q => try_gt I.kIn J c.hm c.gt q) c.lt c.ltf ?_
  exact wpAny_mono (run_fn (us := [.ref q, .ref p]) (vs := [.ref q, .ref p]) (dvs := []) F hr hb .nil hx I (.cons rfl (.cons rfl .nil)) k) (fun v s' z => back_of z) fun _ _ z => z
/-- == and != with a value of a built-in type -/
def rEqY (K : PySem.W.Frag) (C : Addr) (sp : Sp) (E : XK) : R2 := fun x y H Q => ∃ p dp fp ty, x = .ref p ∧ H p = some (.ins C dp fp) ∧ TyX K H y (.type ty) ∧ PySem.W.subIn K (.type ty) (.ref C) = some false ∧ sp [.ref p, y] H Q E
def rNeY (K : PySem.W.Frag) (C : Addr) (sp : Sp) (E : XK) : R2 := fun x y H Q => ∃ p dp fp ty, x = .ref p ∧ H p = some (.ins C dp fp) ∧ TyX K H y (.type ty) ∧ PySem.W.subIn K (.type ty) (.ref C) = some false ∧ sp [.ref p, y] H (fun v H' => ∃ b, v = .bl b ∧ Q (.bl (!b)) H') E
theorem not_first {K : PySem.W.Frag} {ty : String} (h : PySem.W.subIn K (.type ty) (.ref C) = some false) : PySem.W.notFirst K C (.type ty) = true := by
  unfold PySem.W.notFirst
  rw [h]
  simp
theorem op_eqY (c : EqC X.K C f) (F : FnOk X.prog X.w X.K X.mg X.base CX k f fd ps sp) (hr : Room k X.A) (hb : Binds X.K fd ps []) (hx : Passes CX X E) : OpR X (compareOp .Eq) (rEqY X.K C sp E) := by
  intro pins s σ H x y v u Q I rx ry h
  obtain ⟨p, dp, fp, ty, rfl, hp, hy, hs, k⟩ := h
  cases rx
  obtain ⟨ox, od, J, _⟩ := ins_inst I hp
  obtain ⟨P, Z, hP, _⟩ := kit_of I ry hy
  obtain ⟨m, Fr⟩ := I.fr
  show wpAny _ _ (richCompare .Eq (.ref p) u) _ _ _
  refine PySem.W.cmp_K (op := .Eq) (tb := .type ty) hr.units0 Fr I.ok.mod.kin J (Z.ty _ _ I.kIn hP) (not_first hs) c.at_ c.fn ?_
  exact wpAny_mono (run_fn (us := [.ref p, u]) (vs := [.ref p, y]) (dvs := []) F hr hb .nil hx I (.cons rfl (.cons ry .nil)) k) (fun v s' z => back_of z) fun _ _ z => z
theorem op_neY (c : EqC X.K C f) (F : FnOk X.prog X.w X.K X.mg X.base CX k f fd ps sp) (hr : Room (k + 1) X.A) (hb : Binds X.K fd ps []) (hx : Passes CX X E) : OpR X (compareOp .NotEq) (rNeY X.K C sp E) := by
  intro pins s σ H x y v u Q I rx ry h
  obtain ⟨p, dp, fp, ty, rfl, hp, hy, hs, k⟩ := h
  cases rx
  obtain ⟨ox, od, J, _⟩ := ins_inst I hp
  obtain ⟨P, Z, hP, _⟩ := kit_of I ry hy
  refine ne_own (hu_of hr) I.kIn J (Z.ty _ _ I.kIn hP) (not_first hs) c.hm c.ne c.at_ c.fn ?_
  refine wpAny_mono (run_fn1 (us := [.ref p, u]) (vs := [.ref p, y]) F hr hb hx I (.cons rfl (.cons ry .nil)) k) (fun v s' z => ?_) fun _ _ z => z
  obtain ⟨v', H', I', rv, b, rfl, qq⟩ := z
  cases rv
  exact ⟨b, rfl, .bl (!b), H', I', rfl, qq⟩
end
end Cs

set_option Elab.async false
set_option linter.all false
set_option maxRecDepth 100000
set_option maxHeartbeats 4000000
/-! repr(o) by an own __repr__. -/
namespace Cs
open PySem PySem.Spec PyProof.Rows L2
/-- isinstance by the class's own facts -/
theorem kit_by {K : PySem.W.Frag} {C : Addr} {t : Value} {b : Bool} (h1 : PySem.W.isClsIn K C = true) (h2 : PySem.W.typeIn K (.ref C) = some (.type "type")) (h : PySem.W.subIn K t (.ref C) = some b) (hn : (t == Value.ref C) = false) : PySem.W.kitOne K t (.ref C) = some b := by
  have h1' : (PySem.W.clsIn K C).isSome = true := h1
  unfold PySem.W.kitOne PySem.W.kitCls
  simp [hn, h1', h2, h]
theorem kit_ty0 {K : PySem.W.Frag} {C : Addr} {ty : String} {b : Bool} (h1 : PySem.W.isClsIn K C = true) (h2 : PySem.W.typeIn K (.ref C) = some (.type "type")) (h : PySem.W.subIn K (.type ty) (.ref C) = some b) : PySem.W.kitOne K (.type ty) (.ref C) = some b :=
  kit_by h1 h2 h (beq_eq_false_iff_ne.mpr fun q => by cases q)
/-- an f-string's reading by a name -/
def tJn (ts : List TE) : TE := fun σ H Q => tJs ts Str.empty σ H fun out H1 => Q (.str out) H1
theorem pe_jn {X : Cx} {v1 v2 : Expr} {rest : List Expr} {ts : List TE} {pos : Pos} (h : PJ X (v1 :: v2 :: rest) ts) : PE X (.JoinedStr (v1 :: v2 :: rest) pos) (tJn ts) := pe_joined h
section
variable {X : Cx} {CX : CXT} {k : Nat} {f C : Addr} {fd : FuncData} {ps : List Str} {sp : Sp} {E : XK}
def rReprO (C : Addr) (sp : Sp) (E : XK) : List V → Hp → VK → Prop := fun xs H Q => ∃ a dx fs, xs = [.ref a] ∧ H a = some (.ins C dx fs) ∧ sp [.ref a] H (fun v H2 => ∃ z : Str, v = .str z ∧ Q (.str z) H2) E
theorem call_reprO (c : Spc X.K C "__repr__" f) (F : FnOk X.prog X.w X.K X.mg X.base CX k f fd ps sp) (hr : Room (k + 1) X.A) (hb : Binds X.K fd ps []) (hx : Passes CX X E) : CallR X (.builtin "repr") (rReprO C sp E) := by
  intro pins s σ H xs us Q I r h
  obtain ⟨a, dx, fs, rfl, ha, q⟩ := h
  rw [Vals.ref1 r]
  obtain ⟨ox, od, J, _⟩ := ins_inst I ha
  obtain ⟨m, Fr⟩ := I.fr
  refine PySem.W.repr_K (hu_of hr) Fr I.ok.mod.kin J c.at_ c.fn (wpAny_mono (run_fn1 (us := [.ref a]) (vs := [.ref a]) F hr hb hx I (.cons rfl .nil) q) (fun v s' z => ?_) fun _ _ z => z)
  obtain ⟨v0, H2, I2, rv, n, e, q2⟩ := z
  subst e
  obtain ⟨tk, rfl⟩ := rv
  exact ⟨.str n, H2, I2, ⟨tk, rfl⟩, q2⟩
end
end Cs

set_option Elab.async false
set_option linter.all false
set_option maxRecDepth 100000
set_option maxHeartbeats 4000000
/-! list(text); x in o, bool(o) by own methods; C(k1=v1, ..) where __init__ takes **d. -/
namespace Cs
open PySem PySem.Spec PyProof.Rows L2
/-- the signs of a text -/
def signsV (z : Str) : List V := z.cps.toList.map fun c => V.str ⟨#[c]⟩
theorem vals_pw : ∀ {xs : List V} {us : List Value}, xs.length = us.length → (∀ (i : Nat) x u, xs[i]? = some x → us[i]? = some u → RelV x u) → Vals xs us
  | [], [], _, _ => .nil
  | x :: xs, u :: us, hl, h => .cons (h 0 x u rfl rfl) (vals_pw (Nat.succ.inj hl) fun i a b ha hb => h (i + 1) a b ha hb)
  | [], _ :: _, hl, _ => by cases hl
  | _ :: _, [], hl, _ => by cases hl
section
variable {X : Cx} {CX : CXT} {k : Nat} {f C : Addr} {fd : FuncData} {ps : List Str} {sp : Sp} {E : XK}
theorem call_listS (hc : X.calm = true) : CallR X (.type "list") (fun xs H Q => ∃ z : Str, xs = [.str z] ∧ z.length ≤ sizeLine ∧ ∀ q, H q = none → Q (.ref q) (upd H q (.lst (signsV z)))) := by
  intro pins s σ H xs us Q I r h
  obtain ⟨z, rfl, hz, q⟩ := h
  obtain ⟨tk, rfl⟩ : ∃ tk, us = [Value.str z tk] := by
    cases r with
    | cons r rr =>
      cases rr
      obtain ⟨tk, rfl⟩ := r
      exact ⟨tk, rfl⟩
  refine call_list_str (I.ok.hd hc) z tk (hn := hz) fun h' tk' acc c' hk e' hi => ?_
  have hl : acc.toList.length = z.cps.size := by rw [Array.length_toList]; exact hi.1
  refine ⟨.ref s.heap.objs.size, upd H s.heap.objs.size (.lst (signsV z)), I.laid hk (Nat.le_refl _) (show ObjOk X.prog X.w _ _ _ (.lst (signsV z)) from ⟨?_, acc.toList, c', vals_pw ?_ fun i x u hx hu => ?_, ?_⟩), rfl, q _ (I.hok.fresh (Nat.le_refl _))⟩
  · unfold signsV
    rw [List.length_map, Array.length_toList]
    exact hz
  · unfold signsV
    rw [List.length_map, Array.length_toList]
    exact hl.symm
  · obtain ⟨c, u', hc', rfl⟩ := hi.2 i u (by rw [← Array.getElem?_toList]; exact hu)
    unfold signsV at hx
    rw [List.getElem?_map, Array.getElem?_toList, hc'] at hx
    cases hx
    exact ⟨u', rfl⟩
  · rw [Array.toArray_toList]
    exact e'
/-- x in o -/
def rInO (C : Addr) (sp : Sp) (E : XK) : R2 := fun x y H Q => ∃ p dp fp, y = .ref p ∧ H p = some (.ins C dp fp) ∧ sp [.ref p, x] H (fun v H2 => ∃ b, v = .bl b ∧ Q (.bl b) H2) E
theorem op_inO (c : Spc X.K C "__contains__" f) (F : FnOk X.prog X.w X.K X.mg X.base CX k f fd ps sp) (hr : Room k X.A) (hb : Binds X.K fd ps []) (hx : Passes CX X E) : OpR X (compareOp .In) (rInO C sp E) := by
  intro pins s σ H x y v u Q I rx ry h
  obtain ⟨p, dp, fp, rfl, hp, k⟩ := h
  cases ry
  obtain ⟨ox, od, J, _⟩ := ins_inst I hp
  obtain ⟨m, Fr⟩ := I.fr
  refine PySem.W.in_K Fr I.ok.mod.kin J c.at_ c.fn ?_
  refine wpAny_mono (run_fn (us := [.ref p, v]) (vs := [.ref p, x]) (dvs := []) F hr hb .nil hx I (.cons rfl (.cons rx .nil)) k) (fun v s' z => ?_) fun _ _ z => z
  obtain ⟨v0, H2, I2, rv, b, rfl, q2⟩ := z
  cases rv
  exact wpAny_truthy_bool ⟨.bl b, H2, I2, rfl, q2⟩
/-- bool(o) -/
def rBoolO (C : Addr) (sp : Sp) (E : XK) : List V → Hp → VK → Prop := fun xs H Q => ∃ a dx fs, xs = [.ref a] ∧ H a = some (.ins C dx fs) ∧ sp [.ref a] H (fun v H2 => ∃ b, v = .bl b ∧ Q (.bl b) H2) E
theorem meets_boolO {prog : Program} {w : World} (x : Addr) : MeetsIn prog w (Builtin.«bool.__new__» ⟨[.type "bool", .ref x], []⟩) (fun A R s => wpAny (model prog w) A.in1 (truthy (.ref x)) (fun b s' => R (.ok (.ret (.bool b))) s') (fun e s' => R (.error e) s') s) :=
  .of_wp fun A R s h => by
    have f1 := F.conv_sub_bool
    obtain ⟨hp, g, d, tk, os⟩ := s
    repeat (any_goals (first | assumption | (refine wpAny_bind (m := truthy (.ref x)) (wpAny_mono h (fun b s' z => ?_) fun _ _ z => z)) | wp_step))
    all_goals first | exact ⟨_, rfl, z⟩ | exact z | skip
theorem bool_own {prog : Program} {w : World} {A : Around} {E : Value → Shared → Prop} {s : Shared} {K : PySem.W.Frag} {h₀ : Heap} {L x C f : Addr} {m : Str → Option Value} {ox : Obj} {od : Option Obj} {Q : Value → Shared → Prop} (Fh : Fr h₀ L s.heap m) (X₀ : K.In h₀) (I : PySem.W.InstAt s.heap x ox C od)
    (hs : PySem.W.findIn K (.ref C) "__bool__" = some (some (.ref f))) (hf : PySem.W.isFn K (.ref f) = true) (h : wpAny (model prog w) A.in1.in1 (call (.ref f) [.ref x]) (PySem.W.BoolBack fun b s' => Q (.bool b) s') E s) : wpAny (model prog w) A (call (.type "bool") [.ref x]) Q E s := by
  refine callType_newIn F.called_bool F.newNe_bool (F.typeCall_bool_1 _) (F.newCall_bool_1 _) (fun obj => F.args_object_init_2 obj _) F.entry_bool_new (meets_boolO x) ?_
  refine wpAny_mono (PySem.W.truthy_K Fh X₀ I hs hf h) (fun b s' z => ?_) fun _ _ z => z
  exact ⟨rfl, z⟩
theorem run_fn2 {pins : List (Addr × Obj)} {σ : L2.St} {H : Hp} {s : Shared} {Q : VK} {us : List Value} {vs : List V} (F : FnOk X.prog X.w X.K X.mg X.base CX k f fd ps sp) (hr : Room (k + 2) X.A) (hb : Binds X.K fd ps []) (hx : Passes CX X E)
    (I : Inv X pins σ H s) (r : Vals vs us) (h : sp vs H Q E) : wpAny (model X.prog X.w) X.A.in1.in1 (call (.ref f) us) (EP X pins σ Q) X.xe s := by
  have hl : us.length = ps.length := by rw [← r.length]; exact F.len _ _ _ _ h
  have hb' := hb s us I.kIn (by rw [List.append_nil]; exact hl)
  rw [List.append_nil] at hb'
  refine wpAny_call (codeAny_mono (F.run X.A.in1.in1 X.stack s H ⟨us, []⟩ us vs Q E hr.in1.in1 I.env0.in1.in1 hb' r h) fun r s' hq => ?_)
  cases r with
  | error e => exact hx pins σ H s e s' I hq
  | ok fl =>
    cases fl with
    | ret u => exact I.after hq
    | next => exact False.elim hq
    | brk => exact False.elim hq
    | cont => exact False.elim hq
theorem call_boolO (c : Spc X.K C "__bool__" f) (F : FnOk X.prog X.w X.K X.mg X.base CX k f fd ps sp) (hr : Room (k + 2) X.A) (hb : Binds X.K fd ps []) (hx : Passes CX X E) : CallR X (.type "bool") (rBoolO C sp E) := by
  intro pins s σ H xs us Q I r h
  obtain ⟨a, dx, fs, rfl, ha, q⟩ := h
  rw [Vals.ref1 r]
  obtain ⟨ox, od, J, _⟩ := ins_inst I ha
  obtain ⟨m, Fr⟩ := I.fr
  refine bool_own Fr I.ok.mod.kin J c.at_ c.fn (wpAny_mono (run_fn2 (us := [.ref a]) (vs := [.ref a]) F hr hb hx I (.cons rfl .nil) q) (fun v s' z => ?_) fun _ _ z => z)
  obtain ⟨v0, H2, I2, rv, n, e, q2⟩ := z
  subst e
  cases rv
  exact ⟨.bl n, H2, I2, rfl, q2⟩
/-- bool(d), d a dict -/
theorem call_boolD : CallR X (.type "bool") (fun xs H Q => ∃ (a : Addr) (kvs : List (Key × V)), xs = [.ref a] ∧ H a = some (.dK kvs) ∧ Q (.bl (!kvs.isEmpty)) H) := by
  intro pins s σ H xs us Q I r h
  obtain ⟨a, kvs, rfl, ha, q⟩ := h
  rw [Vals.ref1 r]
  obtain ⟨hz, hs, vs, kv, dd⟩ := (show ObjOk X.prog X.w H s.heap a (.dK kvs) from I.hok a _ ha)
  have hl : kvs.length = vs.length := Paired.length kv
  refine callType_newIn F.called_bool F.newNe_bool (F.typeCall_bool_1 _) (F.newCall_bool_1 _) (fun obj => F.args_object_init_2 obj _) F.entry_bool_new (meets_boolO a) ?_
  have l63 := line63
  refine wpAny_truthy_dict (knd := mixKind X.prog X.w) hs dd (by omega) ?_
  refine ⟨rfl, .bl (!kvs.isEmpty), H, I.tok _, ?_, q⟩
  show Value.bool _ = Value.bool _
  congr 2
  cases kvs <;> cases vs <;> first | rfl | (simp at hl)
end
/-! ### keywords into a new dict -/
theorem push_update (h : Heap) (o : Obj) (g : Obj → Obj) : (h.push o).update h.objs.size g = h.push (g o) := by
  obtain ⟨objs, l⟩ := h
  show (⟨(objs.push o).modify objs.size g, l⟩ : Heap) = ⟨objs.push (g o), l⟩
  congr 1
  apply Array.ext
  · simp
  · intro i h1 h2
    rw [Array.getElem_modify]
    by_cases c : i = objs.size
    · subst c
      simp
    · have hi : i < objs.size := by simp at h2; omega
      rw [if_neg (fun q => c q.symm), Array.getElem_push_lt hi, Array.getElem_push_lt hi]
theorem nsSet_push {prog : Program} {w : World} {A : Around} {E : Value → Shared → Prop} {h : Heap} {g : Array GenState} {dr : Drawn} {t : Nat} {os : OsState} {es : List DictEntry} {n : Nat} {k : Str} {v : Value} {Q : Unit → Shared → Prop}
    (hs : ∀ e ∈ es, e.key.isStr k = false) (hr : ∀ e ∈ es, e.refKey = false)
    (hq : Q () ⟨h.push (PySem.W.dictOf (es ++ [⟨PyData.keyHash w.params k, .str k t, v⟩]) (n + 1)), g, dr, t + 1, os⟩) :
    wpAny (model prog w) A (nsSet h.objs.size k v) Q E ⟨h.push (PySem.W.dictOf es n), g, dr, t, os⟩ := by
  have e1 : es.any (·.key.isStr k) = false := List.any_eq_false.mpr fun e he => by rw [hs e he]; exact Bool.false_ne_true
  have e2 : es.any (·.refKey) = false := List.any_eq_false.mpr fun e he => by rw [hr e he]; exact Bool.false_ne_true
  have e : Obj.putName k (PyData.keyHash w.params k) (.str k t) v (PySem.W.dictOf es n) = PySem.W.dictOf (es ++ [⟨PyData.keyHash w.params k, .str k t, v⟩]) (n + 1) := by
    rw [PySem.W.putName_dict, PySem.W.putL_new hs]
    show PySem.W.dictOf _ (if es.any (·.key.isStr k) then n else n + 1) = _
    rw [e1, if_neg Bool.false_ne_true]
  have D : (h.push (PySem.W.dictOf es n)).get? h.objs.size = some (PySem.W.dictOf es n) := Heap.get?_push_size _ rfl
  have c : aRefKeyMayBeTheName k es.toArray = false := by
    rw [aRefKeyMayBeTheName_at, ← Array.any_toList, ← Array.any_toList]
    show (!es.any (·.key.isStr k) && es.any (·.refKey)) = false
    rw [e2, Bool.and_false]
  unfold nsSet
  refine wpAny_bind (wpAny_bind (wpAny_askSetting (wpAny_pure (wpAny_bind (wpAny_mkText (wpAny_bind (wpAny_loadPart D ?_)))))))
  dsimp only
  rw [c]
  refine wpAny_updatePart D ?_
  show Q () ⟨(h.push (PySem.W.dictOf es n)).update h.objs.size (Obj.putName k (PyData.keyHash w.params k) (.str k t) v), g, dr, t + 1, os⟩
  rw [push_update, e]
  exact hq
theorem fill_push {prog : Program} {w : World} {A : Around} {E : Value → Shared → Prop} {h : Heap} {g : Array GenState} {dr : Drawn} {os : OsState} {Q : PUnit → Shared → Prop} : ∀ (ex : List (Str × Value)) (t : Nat) (es : List DictEntry) (n : Nat),
    (∀ e ∈ es, ∀ x ∈ ex, e.key.isStr x.1 = false) → (∀ e ∈ es, e.refKey = false) → (ex.map (·.1)).Nodup →
    Q ⟨⟩ ⟨h.push (PySem.W.dictOf (es ++ PySem.W.kwEs w.params t ex) (n + ex.length)), g, dr, t + ex.length, os⟩ →
    wpAny (model prog w) A (forIn ex PUnit.unit fun x _ => (nsSet h.objs.size x.1 x.2 >>= fun _ => pure (ForInStep.yield PUnit.unit))) Q E ⟨h.push (PySem.W.dictOf es n), g, dr, t, os⟩
  | [], t, es, n, _, _, _, hq => by
    rw [List.forIn_nil]
    refine wpAny_pure ?_
    have e : es ++ PySem.W.kwEs w.params t [] = es := List.append_nil _
    rw [e] at hq
    exact hq
  | x :: r, t, es, n, hs, hr, hn, hq => by
    obtain ⟨hn1, hn2⟩ := List.nodup_cons.mp (show (x.1 :: r.map (·.1)).Nodup from hn)
    rw [List.forIn_cons]
    refine wpAny_bind (wpAny_bind (nsSet_push (fun e he => hs e he x (.head _)) hr (wpAny_pure ?_)))
    show wpAny (model prog w) A (forIn r PUnit.unit fun x _ => (nsSet h.objs.size x.1 x.2 >>= fun _ => pure (ForInStep.yield PUnit.unit))) Q E _
    refine fill_push r (t + 1) _ _ (fun e he y hy => ?_) (fun e he => ?_) hn2 ?_
    · rcases List.mem_append.mp he with he | he
      · exact hs e he y (.tail _ hy)
      · obtain rfl := List.mem_singleton.mp he
        show (x.1 == y.1) = false
        exact beq_eq_false_iff_ne.mpr fun q => hn1 (by rw [q]; exact List.mem_map_of_mem hy)
    · rcases List.mem_append.mp he with he | he
      · exact hr e he
      · obtain rfl := List.mem_singleton.mp he
        rfl
    · have t1 : t + 1 + r.length = t + (r.length + 1) := by omega
      have t2 : n + 1 + r.length = n + (r.length + 1) := by omega
      rw [t1, t2, List.append_assoc]
      exact hq
/-- the dict that the keywords make -/
def kwK (ks : List Str) (zs : List V) : List (Key × V) := (ks.zip zs).map fun q => (Sum.inr q.1, q.2)
theorem kw_pairs (P : Program) (w : World) : ∀ (ex : List (Str × Value)) (t : Tok), Pairs (mixKind P w) (PySem.W.kwEs w.params t ex) (ex.map fun x => ((Sum.inr x.1 : Key), x.2))
  | [], _ => Pairs.nil
  | x :: r, t => Pairs.cons (keyIs_str x.1 t) rfl (kw_pairs P w r (t + 1))
theorem kw_kv : ∀ {ks : List Str} {zs : List V} {ws : List Value}, Vals zs ws → KV (kwK ks zs) ((ks.zip ws).map fun x => ((Sum.inr x.1 : Key), x.2))
  | [], _, _, _ => by
    unfold kwK
    simp only [List.zip_nil_left, List.map_nil]
    exact .nil
  | _ :: _, _, _, .nil => .nil
  | k :: ks, _, _, .cons r t => .cons ⟨rfl, r⟩ (kw_kv t)
theorem kw_fst {ks : List Str} {ws : List Value} (hz : ws.length = ks.length) : (ks.zip ws).map (·.1) = ks := List.map_fst_zip (by omega)
theorem dk_kw {P : Program} {w : World} {H : Hp} {ks : List Str} {zs : List V} {ws : List Value} (h : Heap) (hb : sysModules < h.objs.size) (t : Nat) (hn : ks.Nodup) (r : Vals zs ws) (hz : zs.length = ks.length) (hl : ks.length ≤ 1000) :
    ObjOk P w H (h.push (PySem.W.dictOf (PySem.W.kwEs w.params t (ks.zip ws)) (ks.zip ws).length)) h.objs.size (.dK (kwK ks zs)) := by
  have hw : ws.length = ks.length := by rw [← r.length]; exact hz
  refine ⟨?_, beq_eq_false_iff_ne.mpr (Ne.symm (Nat.ne_of_lt hb)), _, kw_kv r, _, _, _, Heap.get?_push_size _ rfl, ⟨rfl, rfl, rfl⟩, rfl, fun e he => ?_, kw_pairs P w _ t, ?_⟩
  · unfold kwK
    rw [List.length_map, List.length_zip]
    exact Nat.le_trans (show min ks.length zs.length ≤ 1000 by omega) (by decide)
  · obtain ⟨k, u, e1, e2⟩ := PySem.W.kwEs_key _ _ e (by simpa using he)
    exact ⟨Sum.inr k, by rw [e1]; exact keyIs_str k u, e2⟩
  · rw [List.map_map]
    show ((ks.zip ws).map ((fun x : Str => (Sum.inr x : Key)) ∘ fun x => x.1)).Nodup
    rw [← List.map_map, kw_fst hw]
    exact List.Pairwise.map _ (fun a b n q => n (Sum.inr.inj q)) hn
/-- a def called with one value and keywords -/
def FnKw (P : Program) (w : World) (K : PySem.W.Frag) (mg : Str → Option Value) (base : Heap) (CX : CXT) (k : Nat) (f : Addr) (ks : List Str) (sp : Sp) : Prop :=
  ∀ (A : Around) (outer : List Env) (s : Shared) (H : Hp) (u : Value) (v : V) (ws : List Value) (zs : List V) (Q : VK) (E : XK), Room k A → Env0 P w K mg base A outer s H → RelV v u → Vals zs ws → zs.length = ks.length → sp (v :: zs) H Q E →
    codeAny (model P w) A (.call (.ref f) ⟨[u], ks.zip ws⟩) (CR CX outer P w H s Q E) s
section
variable {CX : CXT} {P : Program} {w : World} {K : PySem.W.Frag} {mg : Str → Option Value} {base : Heap} {k : Nat} {f : Addr} {name qual : Str} {params : Arguments} {body : List Stmt} {scope : Scope} {dV kV doc pm cdv ct oc : Value} {an od : Option Addr}
  {osl : Array (Option Value)} {N ks : List Str} {sp : Sp} {p1 pv pd : Str}
/-- def f(a, *v, **d), called with a and keywords -/
theorem fn_kw (lk : K.lookup f = some ⟨oc, od, .func (PySem.W.fnOf name qual params body scope dV kV doc pm an cdv ct), osl⟩) (hcd : PySem.W.codeIn K cdv qual = true) (S : FnScope N [p1, pv, pd] scope) (hCX : StX.CXUp CX) (hn : ks.Nodup) (hl : ks.length ≤ 1000)
    (hb : ∀ (u : Value) (ws : List Value), ws.length = ks.length → bindArgs (PySem.W.fnOf name qual params body scope dV kV doc pm an cdv ct) ⟨[u], ks.zip ws⟩ =
      (newTuple [] >>= fun t => (alloc ({ cls := .type "dict", data := .dict #[] } : Obj) : Sem Addr) >>= fun d => (forIn (ks.zip ws) PUnit.unit fun x _ => (nsSet d x.1 x.2 >>= fun _ => pure (ForInStep.yield PUnit.unit))) >>= fun _ => pure [(p1, u), (pv, t), (pd, Value.ref d)]))
    (hbody : ∀ (A : Around) (outer : List Env) (s : Shared) (H : Hp) (vs : List V) (Q : VK) (E : XK), Room k (A.deeper (envOfC qual scope s.heap.objs.size f cdv)) → sp vs H Q E →
      ∃ t, PSs (cxOf CX P w K mg base N qual scope f cdv A outer s H E) body t ∧ t { nx := fun _ H' => Q .non H', rt := Q } (start N vs) H) :
    FnKw P w K mg base CX (k + 1) f ks (fun vs H Q E => ∃ v zs, vs = v :: zs ∧ ∀ p d, H p = Option.none → H d = Option.none → d ≠ p → sp [v, V.ref p, V.ref d] (upd (upd H p (.tup [])) d (.dK (kwK ks zs))) Q E) := by
  intro A outer s H u v ws zs Q E hr e0 rv r hz hsp
  obtain ⟨v', zs', ev, hq⟩ := hsp
  obtain ⟨rfl, rfl⟩ := List.cons.inj ev
  obtain ⟨hp, g, dr, tk, os⟩ := s
  have hn0 : H hp.objs.size = Option.none := e0.hok.fresh (Nat.le_refl _)
  have hw : ws.length = ks.length := by rw [← r.length]; exact hz
  refine StX.run_bnd (ps := [p1, pv, pd]) lk hcd S hr e0 (G := fun xs H2 => ∃ p d, H p = Option.none ∧ H d = Option.none ∧ d ≠ p ∧ xs = [v, V.ref p, V.ref d] ∧ H2 = upd (upd H p (.tup [])) d (.dK (kwK ks zs))) (fun A' Ex Q' h => ?_) fun s2 H2 xs ⟨p, d, hp', hd, hne, ex, eH⟩ hr' => ?_
  · rw [hb u ws hw]
    refine wpAny_bind (wpAny_newTuple (wpAny_bind (wpAny_alloc (wpAny_bind ?_))) (by show 0 ≤ sizeLine; decide))
    have new : ObjOk P w (upd H hp.objs.size (.tup [])) (hp.push ({ cls := .type "tuple", data := .seq (([] : List Value)).toArray } : Obj)) hp.objs.size (.tup []) := ⟨by show 0 ≤ sizeLine; decide, [], .nil, ⟨_, Heap.get?_push_size _ rfl, rfl, _, rfl⟩⟩
    have e1 := StX.env0_laid e0 new
    have un1 := StX.un_laid (fs := frs outer) (s := ⟨hp, g, dr, tk, os⟩) (o := ({ cls := .type "tuple", data := .seq (([] : List Value)).toArray } : Obj)) (u := .tup []) hn0
    have hn2 := e1.hok.fresh (Nat.le_refl _)
    have sz : (hp.push ({ cls := .type "tuple", data := .seq (([] : List Value)).toArray } : Obj)).objs.size = hp.objs.size + 1 := Heap.size_push _ _
    have ne : (hp.push ({ cls := .type "tuple", data := .seq (([] : List Value)).toArray } : Obj)).objs.size ≠ hp.objs.size := by
      rw [sz]
      exact Nat.succ_ne_self _
    have hd : H (hp.push ({ cls := .type "tuple", data := .seq (([] : List Value)).toArray } : Obj)).objs.size = Option.none := e0.hok.fresh (by show _ ≤ _; rw [sz]; exact Nat.le_succ _)
    have kp1 : ∀ b o, hp.get? b = some o → (hp.push ({ cls := .type "tuple", data := .seq (([] : List Value)).toArray } : Obj)).get? b = some o := fun b o q => Heap.get?_push_of_some _ q
    generalize hp.push ({ cls := .type "tuple", data := .seq (([] : List Value)).toArray } : Obj) = hp1 at e1 un1 hn2 ne hd kp1
    refine fill_push (ks.zip ws) tk [] 0 (fun _ he => nomatch he) (fun _ he => nomatch he) (by rw [kw_fst hw]; exact hn) (wpAny_pure ?_)
    rw [List.nil_append, Nat.zero_add]
    have e2 := StX.env0_laid (u := .dK (kwK ks zs)) (o := PySem.W.dictOf (PySem.W.kwEs w.params tk (ks.zip ws)) (ks.zip ws).length) e1 (dk_kw hp1 (StX.env0_big e1) tk hn r hz hl)
    have un2 := un1.trans (StX.un_laid (fs := frs outer) (s := (⟨hp1, g, dr, tk, os⟩ : Shared)) (o := PySem.W.dictOf (PySem.W.kwEs w.params tk (ks.zip ws)) (ks.zip ws).length) (u := .dK (kwK ks zs)) hn2)
    have z := h ⟨hp1.push (PySem.W.dictOf (PySem.W.kwEs w.params tk (ks.zip ws)) (ks.zip ws).length), g, dr, tk + (ks.zip ws).length, os⟩ _ [v, V.ref hp.objs.size, V.ref hp1.objs.size] [u, Value.ref hp.objs.size, Value.ref hp1.objs.size]
      ⟨e2.frames, e2.mod, e2.bs, e2.bsz, e2.funs, e2.frf, e2.hok, e2.bare⟩ un2 rfl (fun e s' => hCX outer _ H _ _ E e s' un2 ?_ rfl) (.cons rv (.cons rfl (.cons rfl .nil))) rfl ⟨_, _, hn0, hd, ne, rfl, rfl⟩
    · exact z
    · exact fun b o q => Heap.get?_push_of_some _ (kp1 b o q)
  · subst ex eH
    exact hbody A outer s2 _ _ Q E hr' (hq p d hp' hd hne)
end
/-- C(k1=v1, ..) -/
def tMkKw (C : Addr) (sp : Sp) (E : XK) (n : Nat) (tk : TA) : TE := fun σ H Q => tk σ H fun zs H1 => zs.length = n ∧ ∀ x dx, H1 x = none → H1 dx = none → dx ≠ x → sp (.ref x :: zs) (upd (upd H1 dx (.own x)) x (.ins C dx [])) (fun v H2 => v = .non ∧ Q (.ref x) H2) E
section
variable {X : Cx} {CX : CXT} {k : Nat} {f C : Addr} {sp : Sp} {E : XK} {x : Str} {p pos : Pos} {kws : List Keyword} {ks : List Str} {tk : TA}
theorem run_makeKw {pins : List (Addr × Obj)} {σ : L2.St} {H : Hp} {s : Shared} {Q : VK} {ws : List Value} {zs : List V} (M : Mk X.K C f) (F : FnKw X.prog X.w X.K X.mg X.base CX k f ks sp) (hr : Room (k + 1) X.A) (hx : Passes CX X E) (I : Inv X pins σ H s) (r : Vals zs ws) (hz : zs.length = ks.length)
    (h : ∀ x dx, H x = none → H dx = none → dx ≠ x → sp (V.ref x :: zs) (upd (upd H dx (.own x)) x (.ins C dx [])) (fun v H2 => v = .non ∧ Q (.ref x) H2) E) :
    wpAny (model X.prog X.w) X.A (call (.ref C) [] (ks.zip ws)) (EP X pins σ Q) X.xe s := by
  have hq := h (s.heap.objs.size + 1) s.heap.objs.size (I.hok.fresh (Nat.le_succ _)) (I.hok.fresh (Nat.le_refl _)) (Nat.ne_of_lt (Nat.lt_succ_self _))
  have I2 := Inv.made (C := C) I
  refine wpAny_call (make_map (f := f) I.kIn M.makes M.init (beq_iff_eq.mp M.fn) (codeAny_mono (F _ X.stack _ _ (Value.ref (s.heap.objs.size + 1)) (V.ref (s.heap.objs.size + 1)) ws zs _ E (hr.make C [] (ks.zip ws)) (I2.env0.make C [] (ks.zip ws)) rfl r hz hq) fun r s' hq' => ?_))
  cases r with
  | error e => exact hx pins σ _ _ e s' I2 hq'
  | ok fl =>
    cases fl with
    | ret u =>
      obtain ⟨v, H', I3, rv, ev, q3⟩ := I2.after hq'
      subst ev
      exact ⟨rv, ⟨V.ref (s.heap.objs.size + 1), H', I3, rfl, q3⟩⟩
    | next => exact False.elim hq'
    | brk => exact False.elim hq'
    | cont => exact False.elim hq'
theorem pe_mkKw (M : Mk X.K C f) (F : FnKw X.prog X.w X.K X.mg X.base CX k f ks sp) (hr : Room (k + 1) X.A) (hg : Gl X x) (hm : X.mg x = some (.ref C)) (hx : Passes CX X E) (hkw : PK X kws tk) (hdb : (x == ("__debug__" : Str)) = false := by decide)
    (hall : (backToKw pos (keywordEach kws X.env)).all (·.1.isSome) = true := by rfl) (hks : (backToKw pos (keywordEach kws X.env)).filterMap (·.1) = ks := by rfl)
    (hpl : ((backTo pos (starEach [] X.env)).any (·.1) || (backToKw pos (keywordEach kws X.env)).any (·.1.isNone)) = false := by rfl) :
    PE X (.Call (.Name x p) [] kws pos) (tMkKw C sp E ks.length tk) := by
  refine ⟨fun pins s σ H Q I h => ?_⟩
  refine wpAny_Call_Name_kw (ld_glob I hg hm ?_ hdb)
  refine PySem.W.callWith_KW0 (h₀ := X.base) I.ok.mod.kin M.kp hall (thn (hkw.run pos pins s σ H _ I h) fun ws s2 ⟨zs, H2, I2, rz, l2, q2⟩ => ⟨I2.kIn, ?_⟩) hpl
  rw [hks]
  exact run_makeKw M F hr hx I2 rz l2 q2
end
end Cs

set_option Elab.async false
set_option linter.all false
set_option maxRecDepth 100000
set_option maxHeartbeats 4000000
/-! for i, x in enumerate(t), t a tuple. -/
namespace Cs
open PySem PySem.Spec PyProof.Rows L2
theorem meets_enumT (l : Addr) (items : Array Value) :
    Meets (Builtin.«enumerate.__new__» ⟨[.type "enumerate", .ref l], []⟩) (fun _ R s => s.heap.IsTuple l items ∧
      R (.ok (.ret (.ref (s.heap.push { cls := .type "tuple_iterator", data := .fields #[.ref l, .int 0 0] }).objs.size)))
        { s with heap := (s.heap.push { cls := .type "tuple_iterator", data := .fields #[.ref l, .int 0 0] }).push { cls := .type "enumerate", data := .fields #[.none, .bool false, .ref s.heap.objs.size, rawInt 0, .none, .none] } }) :=
  .of_wp fun prog w A R s h => by
    obtain ⟨hp, g, d, tk, os⟩ := s; obtain ⟨hl, h⟩ := h
    have hsub := sub_enumerate
    have q1 : ∀ {A' : Around} {E : Value → Shared → Prop} {Q : Value → Shared → Prop}, Q (.ref hp.objs.size) ⟨hp.push { cls := .type "tuple_iterator", data := .fields #[.ref l, .int 0 0] }, g, d, tk, os⟩ → wpAny (model prog w) A' (pyIter (.ref l)) Q E ⟨hp, g, d, tk, os⟩ :=
      fun q => (begins_tuple l items).iter prog w _ _ ⟨hp, g, d, tk, os⟩ _ hl q
    wp_walk using q1
    refine wpAny_stack_any fun st => wpAny_pure ?_
    split
    · rename_i c _ _ _ _ _
      cases (c == Value.type "enumerate")
      · wp_walk using q1
        exact ⟨_, rfl, h⟩
      · wp_walk using q1
        exact ⟨_, rfl, h⟩
    · wp_walk using q1
      exact ⟨_, rfl, h⟩
section
variable {prog : Program} {w : World} {A : Around} {E : Value → Shared → Prop} {s : Shared}
theorem call_enumT {l : Addr} {items : Array Value} {Q : Value → Shared → Prop} (hL : s.heap.IsTuple l items)
    (h : ∀ h', IsEnum h' (s.heap.objs.size + 1) s.heap.objs.size 0 .none → h'.IsTupleIter s.heap.objs.size l 0 → h'.objs.size = s.heap.objs.size + 2 →
      (∀ b o, s.heap.get? b = some o → h'.get? b = some o) → Q (.ref (s.heap.objs.size + 1)) { s with heap := h' }) :
    wpAny (model prog w) A (call (.type "enumerate") [.ref l]) Q E s := by
  refine callType_new F.called_enumerate (by decide) (F.typeCall_enumerate_1 _) (F.newCall_enumerate_1 _) (fun obj => F.args_object_init_2 obj _) F.entry_enumerate_new
    (meets_enumT l items) ⟨hL, ?_⟩
  have hz : (s.heap.push { cls := .type "tuple_iterator", data := .fields #[.ref l, .int 0 0] }).objs.size = s.heap.objs.size + 1 := Heap.size_push ..
  show _ ∧ _
  rw [hz]
  have he : IsEnum ((s.heap.push { cls := .type "tuple_iterator", data := .fields #[.ref l, .int 0 0] }).push
      { cls := .type "enumerate", data := .fields #[.none, .bool false, .ref s.heap.objs.size, rawInt 0, .none, .none] }) (s.heap.objs.size + 1) s.heap.objs.size 0 .none := by
    have := Heap.get?_push_size (s.heap.push { cls := .type "tuple_iterator", data := .fields #[.ref l, .int 0 0] })
      (o := { cls := .type "enumerate", data := .fields #[.none, .bool false, .ref s.heap.objs.size, rawInt 0, .none, .none] }) rfl
    rw [hz] at this; exact this
  refine ⟨⟨_, he, rfl⟩, h _ he ⟨_, Heap.get?_push_of_some _ (Heap.get?_push_size _ rfl), rfl, rfl⟩ (by rw [Heap.size_push, hz]) fun b o x => Heap.get?_push_of_some _ (Heap.get?_push_of_some _ x)⟩
end
/-- the tuple at a, each item in a new pair -/
def IteT (K : PySem.W.Frag) (a : Addr) : It :=
  ⟨fun i H => ∃ (xs : List V) (x : V), SqT K H a xs ∧ xs[i]? = some x, fun i H v H' => ∃ T x, v = .ref T ∧ H T = none ∧ H' = upd H T (.tup [.int (i : Nat), x]) ∧ ∀ xs, SqT K H a xs → xs[i]? = some x, fun i H => ∃ xs : List V, SqT K H a xs ∧ xs.length = i⟩
theorem turn_enumT {P : Program} {w : World} {K : PySem.W.Frag} {elts : List Expr} {kk : Nat} {tpos : Pos} (a e it : Addr) :
    Turn P w K (.Tuple elts kk tpos) (IteT K a) [e, it] e (fun i h => (∃ old, IsEnum h e it ((i : Nat) : Int) old) ∧ h.IsTupleIter it a i ∧ e ≠ it) where
  mem := by simp
  obj := fun i h st b hb => by
    obtain ⟨⟨old, he⟩, ⟨o, ho, hc, hd⟩, _⟩ := st
    have e' : b = e ∨ b = it := by simpa using hb
    rcases e' with z | z
    · rw [z]; exact ⟨_, he, fun v q => nomatch q⟩
    · rw [z]; exact ⟨o, ho, fun v q => by rw [hd] at q; cases q⟩
  keep := fun i h h' st k => let ⟨⟨old, he⟩, hi, hne⟩ := st; ⟨⟨old, k e (by simp) _ he⟩, hi.at fun o q => k it (by simp) o q, hne⟩
  item := by
    intro X hP hw hK hc i pins s σ H E I hf st hg
    subst hP hw hK
    obtain ⟨⟨old, he⟩, hit, hne⟩ := st
    obtain ⟨xs, x, hq, hx⟩ := hg
    obtain ⟨its, rv, p, hz⟩ := I.tuple hq
    have p' : s.heap.IsTuple a its.toArray := p
    obtain ⟨u, hu, ru⟩ := rv.get hx
    have hel : e < s.heap.objs.size := Heap.lt_size he
    have hil : it < s.heap.objs.size := by obtain ⟨_, q, _⟩ := hit; exact Heap.lt_size q
    have nta : a ≠ it := by
      rintro rfl
      obtain ⟨o1, h1, c1, _⟩ := hit
      obtain ⟨o2, h2, c2, _⟩ := p'
      rw [h1] at h2
      cases h2
      rw [c1] at c2
      injection c2 with q
      exact absurd q (by decide)
    have nea : e ≠ a := by
      rintro rfl
      obtain ⟨o2, h2, c2, _⟩ := p'
      rw [he] at h2
      cases h2
      injection c2 with q
      exact absurd q (by decide)
    have hlt : i < its.toArray.size := by
      have := (List.getElem?_eq_some_iff.mp hu).1
      simpa using this
    refine wpAny_pyNext_enum_itemD (Draws.tuple (A := X.A.in1) (I.ok.hd hc) it a nta its.toArray) he ⟨hit, p'⟩ hlt hne (by simp [hne, nea]) fun x' h' tk hP ho hst' hT hsz hk => ?_
    have ex : x' = u := by
      have h1 : its[i]? = some x' := by simpa using hP
      rw [hu] at h1
      exact (Option.some.inj h1).symm
    subst ex
    refine ⟨_, rfl, wpAny_letOwnedTupleGo_enum (s := { s with heap := h', toks := tk + 1 }) ho fun h'' he' sb => ?_⟩
    have hT2 : h''.get? s.heap.objs.size = some { cls := .type "tuple", data := .seq #[.int i tk, x'] } := (sb.2 _ (Nat.ne_of_gt hel)).trans hT
    have new : ObjOk X.prog X.w (upd H s.heap.objs.size (.tup [.int (i : Nat), x])) h'' s.heap.objs.size (.tup [.int (i : Nat), x]) :=
      ⟨by show 2 ≤ sizeLine; decide, [.int i tk, x'], .cons ⟨_, rfl⟩ (.cons ru .nil), ⟨_, hT2, rfl, _, rfl⟩⟩
    have I1 : Inv X pins σ (upd H s.heap.objs.size (.tup [.int (i : Nat), x])) { s with heap := h'', toks := tk + 1 } :=
      I.turnedNew (ch := [e, it]) (fun b ob hb q => (sb.2 b (fun z => hb (by simp [z]))).trans (hk b ob (fun z => hb (by simp [z])) (fun z => hb (by simp [z])) q)) hf (Nat.le_refl _) new
    refine ⟨.ref s.heap.objs.size, _, I1, rfl, ⟨_, x, rfl, I.hok.fresh (Nat.le_refl _), rfl, fun ys hy => by rw [I.tuple_inj hy hq]; exact hx⟩, ⟨⟨x', ?_⟩, hst'.1.at fun o q => (sb.2 it (Ne.symm hne)).trans q, hne⟩, fun b hb => ?_⟩
    · have e1 : ((i + 1 : Nat) : Int) = (i : Int) + 1 := by omega
      rw [e1]; exact he'
    · have hb' : b < s.heap.objs.size := by
        have e' : b = e ∨ b = it := by simpa using hb
        rcases e' with z | z
        · rw [z]; exact hel
        · rw [z]; exact hil
      rw [upd_ne (Nat.ne_of_lt hb')]
      exact (hf b hb).1
  done := by
    intro X hP hw hK hc i pins s σ H E I hf st hg
    subst hP hw hK
    obtain ⟨⟨old, he⟩, hit, hne⟩ := st
    obtain ⟨xs, hq, hx⟩ := hg
    obtain ⟨its, rv, p, hz⟩ := I.tuple hq
    have p' : s.heap.IsTuple a its.toArray := p
    obtain ⟨f0, f1, f2, f3, f4, f5⟩ := hf it (by simp)
    have hl := rv.length
    have nta : a ≠ it := by
      rintro rfl
      obtain ⟨o1, h1, c1, _⟩ := hit
      obtain ⟨o2, h2, c2, _⟩ := p'
      rw [h1] at h2
      cases h2
      rw [c1] at c2
      injection c2 with q
      exact absurd q (by decide)
    have hi : its.toArray.size = i := by simp; omega
    have hit' : s.heap.IsTupleIter it a its.toArray.size := by rw [hi]; exact hit
    exact wpAny_pyNext_enum_endD (Draws.tuple (A := X.A.in1) (I.ok.hd hc) it a nta its.toArray) he ⟨hit', p'⟩ fun h' eb => ⟨rfl, I.turned (t' := s.toks) (fun b o hb q => eb b o hb q) f0 f1 f3 f4 f5⟩
  self := fun A i s Q E st h => let ⟨⟨_, he⟩, _⟩ := st; wpAny_pyIter_enum he h
def iEnumT (K : PySem.W.Frag) (ta : TA) : TI := fun σ H R => ta σ H fun vs H1 => ∃ a xs, vs = [.ref a] ∧ SqT K H1 a xs ∧ R (IteT K a) H1
theorem pi_enumT {X : Cx} {e : Expr} {ta : TA} {p pos tpos : Pos} {elts : List Expr} {kk : Nat} (hg : Gl X "enumerate") (hm : X.mg "enumerate" = none) (ha : PA X [e] ta) (hs : starEach [e] X.env = [(false, eval e X.env)] := by rfl) :
    PI X (.Tuple elts kk tpos) (.Call (.Name "enumerate" p) [e] [] pos) (iEnumT X.K ta) := by
  refine ⟨fun pins s σ H R I h => ?_⟩
  refine Call_ (ld_blt I hg hm boot_enumerate (PyProof.Rows.callWith_type1 (thn (ha.run pos pins s σ H _ I h) fun us s1 ⟨vs, H1, I1, r1, q1⟩ => ?_) hs rfl))
  obtain ⟨a, xs, ex, hq, q⟩ := q1
  subst ex
  cases r1 with
  | cons r rr =>
    cases rr
    cases r
    obtain ⟨its, rv, p', hz⟩ := I1.tuple hq
    refine call_enumT (show s1.heap.IsTuple a its.toArray from p') fun h' he hit hsz hk => wpAny_pyIter_enum he ?_
    have I2 : Inv X pins σ H1 { s1 with heap := h' } := I1.kept (t' := s1.toks) hk
    refine ⟨s1.heap.objs.size + 1, [s1.heap.objs.size + 1, s1.heap.objs.size], _, _, H1, rfl, I2, turn_enumT a (s1.heap.objs.size + 1) s1.heap.objs.size, ⟨⟨.none, he⟩, hit, Nat.succ_ne_self _⟩, fun b hb => ?_, q⟩
    have e' : b = s1.heap.objs.size + 1 ∨ b = s1.heap.objs.size := by simpa using hb
    have hle : s1.heap.objs.size ≤ b := by
      rcases e' with z | z
      · rw [z]; exact Nat.le_add_right _ _
      · rw [z]; exact Nat.le_refl _
    exact I1.fpOk hle (I1.hok.fresh hle)
/-- the walk -/
theorem walk_enumT {K : PySem.W.Frag} {a : Addr} {xs : List V} : Walk (IteT K a) xs.length (fun H => SqT K H a xs) (YPair (fun i => some (.int (i : Nat))) (fun i => xs[i]?)) where
  stops := fun H h => ⟨xs, h, rfl⟩
  goes := fun i H hi h => ⟨xs, xs[i], h, List.getElem?_eq_getElem hi⟩
  yields := fun i H x H' hi h y => by
    obtain ⟨T, x', e1, e2, e3, e4⟩ := y
    exact ⟨T, _, x', e1, e2, e3, rfl, e4 xs h⟩
end Cs

set_option Elab.async false
set_option linter.all false
set_option maxRecDepth 100000
set_option maxHeartbeats 4000000
/-! [e for x in xs] by the values of e. -/
namespace Cs
open PySem L2
theorem same_new {H : Hp} {a : Addr} {o : HO} (h : H a = none) : Same H (upd H a o) := fun b u e => by rw [upd_ne (ne_of_none e h)]; exact e
theorem yes_of {σ : L2.St} {H : Hp} {A B : Hp → Prop} (h : A H) : tYes σ H (fun b H3 => if b = true then A H3 else B H3) := iteT (A := A H) (B := B H) h
section
variable {K : PySem.W.Frag} {a : Addr} {xs ys : List V} {j : Nat} {te : TE} {vs : List Nat} {σ : L2.St} {H1 : Hp} {D : Addr} {Qd : Hp → Prop}
theorem lc_vals (hy : ys.length = xs.length) (ha : H1 a = some (.lst xs)) (hD : H1 D = none) (hl : xs.length ≤ 1000) (hw : ∀ x, wipe ((wipe σ vs).set j (some x)) vs = wipe σ vs)
    (he : ∀ (i : Nat) (x y : V), xs[i]? = some x → ys[i]? = some y → ∀ H', Same H1 H' → ∀ Qe : VK, (∀ H'', Same H' H'' → Qe y H'') → te ((wipe σ vs).set j (some x)) H' Qe)
    (k : ∀ H', Same H1 H' → H' D = some (.lst ys) → Qd H') :
    ∃ W : Nat → Nat → Hp → Prop, (∃ m, W 0 m (upd H1 D (.lst []))) ∧ ∀ i m H, W i m H →
      ((Itl K a).stop i H ∧ Qd H) ∨ ((Itl K a).go i H ∧ ∃ Nx : Hp → Prop, (∀ H', Nx H' → ∃ m', m' < m ∧ W (i + 1) m' H') ∧ ∀ x H', (Itl K a).yld i H x H' → gName j x (wipe σ vs) H' fun σ2 H2 => wipe σ2 vs = wipe σ vs ∧ tYes σ2 H2 fun b H3 =>
        if b = true then te σ2 H3 fun y H4 => ∃ acc, H4 D = some (.lst acc) ∧ acc.length < sizeLine ∧ Nx (upd H4 D (.lst (acc ++ [y]))) else Nx H3) := by
  refine lc_it (walk_list (xs := xs)) (fun i H' => Same H1 H' ∧ H' D = some (.lst (ys.take i))) ⟨same_new hD, upd_same⟩ (fun i H' _ h => SqL.of (h.1 _ _ ha)) ?_ ?_
  · rintro i x H' H2 hi ⟨s', hD'⟩ ⟨rfl, hx⟩
    have hi2 : i < ys.length := by omega
    refine ⟨hw _, yes_of ?_⟩
    refine he i x ys[i] hx (List.getElem?_eq_getElem hi2) H2 s' _ fun H3 s3 => ?_
    refine ⟨_, s3 _ _ hD', ?_, fun b o q => ?_, ?_⟩
    · rw [List.length_take]
      exact Nat.lt_of_le_of_lt (show min i ys.length ≤ 1000 by omega) (by decide)
    · rw [upd_ne (ne_of_none q hD)]
      exact s3 _ _ (s' _ _ q)
    · rw [upd_same, List.take_succ, List.getElem?_eq_getElem hi2]
      rfl
  · rintro H' ⟨s', hD'⟩
    rw [← hy, List.take_length] at hD'
    exact k H' s' hD'
/-- the same over a tuple -/
theorem lc_valsT (hy : ys.length = xs.length) (ha : H1 a = some (.tup xs)) (hD : H1 D = none) (hl : xs.length ≤ 1000) (hw : ∀ x, wipe ((wipe σ vs).set j (some x)) vs = wipe σ vs)
    (he : ∀ (i : Nat) (x y : V), xs[i]? = some x → ys[i]? = some y → ∀ H', Same H1 H' → ∀ Qe : VK, (∀ H'', Same H' H'' → Qe y H'') → te ((wipe σ vs).set j (some x)) H' Qe)
    (k : ∀ H', Same H1 H' → H' D = some (.lst ys) → Qd H') :
    ∃ W : Nat → Nat → Hp → Prop, (∃ m, W 0 m (upd H1 D (.lst []))) ∧ ∀ i m H, W i m H →
      ((Itt K a).stop i H ∧ Qd H) ∨ ((Itt K a).go i H ∧ ∃ Nx : Hp → Prop, (∀ H', Nx H' → ∃ m', m' < m ∧ W (i + 1) m' H') ∧ ∀ x H', (Itt K a).yld i H x H' → gName j x (wipe σ vs) H' fun σ2 H2 => wipe σ2 vs = wipe σ vs ∧ tYes σ2 H2 fun b H3 =>
        if b = true then te σ2 H3 fun y H4 => ∃ acc, H4 D = some (.lst acc) ∧ acc.length < sizeLine ∧ Nx (upd H4 D (.lst (acc ++ [y]))) else Nx H3) := by
  refine lc_it (walk_tup (xs := xs)) (fun i H' => Same H1 H' ∧ H' D = some (.lst (ys.take i))) ⟨same_new hD, upd_same⟩ (fun i H' _ h => SqT.of (h.1 _ _ ha)) ?_ ?_
  · rintro i x H' H2 hi ⟨s', hD'⟩ ⟨rfl, hx⟩
    have hi2 : i < ys.length := by omega
    refine ⟨hw _, yes_of ?_⟩
    refine he i x ys[i] hx (List.getElem?_eq_getElem hi2) H2 s' _ fun H3 s3 => ?_
    refine ⟨_, s3 _ _ hD', ?_, fun b o q => ?_, ?_⟩
    · rw [List.length_take]
      exact Nat.lt_of_le_of_lt (show min i ys.length ≤ 1000 by omega) (by decide)
    · rw [upd_ne (ne_of_none q hD)]
      exact s3 _ _ (s' _ _ q)
    · rw [upd_same, List.take_succ, List.getElem?_eq_getElem hi2]
      rfl
  · rintro H' ⟨s', hD'⟩
    rw [← hy, List.take_length] at hD'
    exact k H' s' hD'
end
end Cs

set_option Elab.async false
set_option linter.all false
set_option maxRecDepth 100000
set_option maxHeartbeats 4000000
set_option pp.maxSteps 600
/-! NoDivisor, Counts // Counts, Counts % Counts. -/
namespace Cs
open PySem L2
/-- the first word below zero -/
def firstNeg (f : Str → Int) (ws : List Str) : Option Str := ws.find? fun z => decide (f z < 0)
/-- NoDivisor is raised -/
def NoD (B : Addr) (H : Hp) (v : V) (E : XK) : Prop := ∀ (H' : Hp) (dd : Addr), Same H H' → H' dd = none → E (.ref B) (some dd) (upd H' dd (.xd [(("word" : Str), v)]))
/-- n is the greatest integer such that n times g is nowhere above f -/
def IsQuo (f g : Str → Int) (ws : List Str) (n : Int) : Prop := (∀ z ∈ ws, n * g z ≤ f z) ∧ ∃ z ∈ ws, f z < (n + 1) * g z
theorem quo_bd {f g : Str → Int} {ws : List Str} {n : Int} {b : Nat} (h : IsQuo f g ws n) (hg : ∀ z ∈ ws, 0 < g z) (hf : ∀ z, (f z).natAbs < 2 ^ b) : n.natAbs ≤ 2 ^ b := by
  obtain ⟨h1, z, hz, h2⟩ := h
  have a := h1 z hz
  have c := hg z hz
  have d := hf z
  by_cases n0 : 0 ≤ n
  · have e : n ≤ n * g z := by
      have := Int.mul_le_mul_of_nonneg_left (show (1 : Int) ≤ g z by omega) n0
      rw [Int.mul_one] at this
      exact this
    omega
  · have e : (n + 1) * g z ≤ n + 1 := by
      have := Int.mul_le_mul_of_nonpos_left (show n + 1 ≤ 0 by omega) (show (1 : Int) ≤ g z by omega)
      rw [Int.mul_one] at this
      exact this
    omega
theorem ediv_quo {a b : Int} (hb : 0 < b) : a / b * b ≤ a ∧ a < (a / b + 1) * b := by
  refine ⟨Int.ediv_mul_le a (by omega), Int.lt_ediv_add_one_mul_self a hb⟩
theorem le_quo {n a b : Int} (hb : 0 < b) (h : n ≤ a / b) : n * b ≤ a := (Int.le_ediv_iff_mul_le hb).mp h
def spFloor (C B : Addr) : Sp := fun vs H Q E => ∃ (p d q e : Addr) (t u : Tab), vs = [.ref p, .ref q] ∧ Cnt C H p d t ∧ Cnt C H q e u ∧ t.length ≤ 400 ∧ u.length ≤ 400 ∧ (∀ z, Bd (val t z)) ∧ (∀ z, Bd (val u z)) ∧
  (u = [] → NoD B H .non E) ∧ (∀ ws, Asc ws → (∀ z, z ∈ ws ↔ z ∈ keys u) → ∀ z, firstNeg (val u) ws = some z → NoD B H (.str z) E) ∧
  ((∃ z, z ∈ keys u) → (∀ z ∈ keys u, 0 < val u z) → ∀ (n : Int) (H' : Hp), Same H H' → IsQuo (val t) (val u) (keys u) n → Q (.int n) H')
def spMod (C B : Addr) : Sp := fun vs H Q E => ∃ (p d q e : Addr) (t u : Tab), vs = [.ref p, .ref q] ∧ Cnt C H p d t ∧ Cnt C H q e u ∧ t.length ≤ 400 ∧ u.length ≤ 400 ∧ (∀ z, Bd (val t z)) ∧ (∀ z, Bd (val u z)) ∧
  (u = [] → NoD B H .non E) ∧ (∀ ws, Asc ws → (∀ z, z ∈ ws ↔ z ∈ keys u) → ∀ z, firstNeg (val u) ws = some z → NoD B H (.str z) E) ∧
  ((∃ z, z ∈ keys u) → (∀ z ∈ keys u, 0 < val u z) → ∀ (n : Int), IsQuo (val t) (val u) (keys u) n → NewC C H Q (fun z => val t z - n * val u z) (t.length + u.length))
section
variable {P : Program} {w : World} {K : PySem.W.Frag} {mg : Str → Option Value} {base : Heap}
theorem ok_xdiv {B f : Addr} {fd : FuncData} (F : Fun K "__init__" "NoDivisor.__init__" s_NoDivisor_init f fd) (T : OexA K B) (hno : PySem.W.findIn K (.ref B) "word" = some none) : FnOk P w K mg base CX0 1 f fd ["self", "word"] (spXi B "word") := by
  refine F.ok sc_NoDivisor_init (fun vs H Q E h => ?_) (fun cdv A outer s H vs Q E hr h => ?_)
  · obtain ⟨_, _, rfl, _⟩ := h
    rfl
  · obtain ⟨a, y, rfl, ha, k⟩ := h
    refine ⟨_, (pss_one (ps_ostA (pv 0) (pv 1))), ?_⟩
    exact ⟨_, rfl, _, rfl, a, B, rfl, T, hno, .inl ⟨ha, fun dx hdx ne => k dx hdx ne⟩⟩
theorem ok_floordiv {C B f fGe fWo fX : Addr} {fd fdGe fdWo fdX : FuncData} {fI : Addr} (F : Fun K "__floordiv__" "Counts.__floordiv__" s_Counts_floordiv f fd) (g : Bj mg) (T : CT P w K mg base C fI) (ci : CI K C) (SGe : GDef P w K mg base CX0 2 C "__getitem__" ["self", "word"] (spGet C) fGe fdGe)
    (MWo : MDef P w K mg base CX0 2 C "words" ["self"] (spWords C) fWo fdWo) (XD : XDefA P w K mg base "NoDivisor" B fX "word" ["self", "word"] fdX) : FnOk P w K mg base (L2.CX P w) 4 f fd ["self", "other"] (spFloor C B) := by
  refine F.okX sc_Counts_floordiv (fun vs H Q E h => ?_) (fun cdv A outer s H vs Q E hr h => ?_)
  · obtain ⟨_, _, _, _, _, _, rfl, _⟩ := h
    rfl
  · obtain ⟨p, d, q, e, t, u, rfl, hc, hc2, hl, hl2, bt, bu, kE, kN, k⟩ := h
    have hrGe : Room 3 _ := hr.mono (by decide)
    have hrWo : Room 2 _ := hr.mono (by decide)
    have hrX : Room 2 _ := hr.mono (by decide)
    refine ⟨_, (pss_cons (ps_if (pt_not (pt_val (pe_callB call_isi (by rfl) g.isinstance (by decide +kernel) (pa_cons (pv 1) (pa_cons (pe_glob (v := .ref C) rfl T.mgC rfl) pa_nil))))) (pss_one (ps_never)) pss_nil)
      (pss_cons (ps_if (pt_not (pt_truth (pe_fld (pv 1) rfl) (by intro _; rfl))) (pss_one (ps_raise rfl (takes_of rfl rfl rfl rfl) (pmk_oexA XD.c XD.iC XD.tI XD.ok hrX XD.b .nil pass0 rfl XD.mg_ (pa_cons pe_non pa_nil)))) pss_nil)
      (pss_cons (ps_for (passes_of rfl) rfl (pi_list (pe_meth0 (pv 1) T.cl MWo.me MWo.ok hrWo MWo.b .nil pass0)) (pg_name (i := 2) sc_Counts_floordiv.nd rfl (Or.inl rfl)) (pss_one (ps_if (pt_cmpR op_lt (pe_ixO SGe.c SGe.fi SGe.ok hrGe SGe.b pass0 (pv 1) (pv 2)) pe_int (nomark _)) (pss_one (ps_raise rfl (takes_of rfl rfl rfl rfl) (pmk_oexA XD.c XD.iC XD.tI XD.ok hrX XD.b .nil pass0 rfl XD.mg_ (pa_cons (pv 2) pa_nil)))) pss_nil)))
      (pss_one (ps_ret (pe_callB (cr_min rfl) (by rfl) g.min (by decide +kernel) (pa_cons (pe_lc (own := [("word", 2)]) (g := gName 2)  (by rfl) sc_Counts_floordiv.nd (pi_list (pe_meth0 (pv 1) T.cl MWo.me MWo.ok hrWo MWo.b .nil pass0)) (blkOk_by (own := [("word", 2)]) (N := ["self", "other", "word"]) (sc := defScope s_Counts_floordiv) (by decide +kernel)) (fun _ _ _ _ _ => (pg_name (i := 2) sc_Counts_floordiv.nd rfl (Or.inl rfl))) (fun _ _ _ _ _ => pts_nil) (fun _ _ _ _ _ => (pe_callTy call_int1 (by rfl) g.int (by decide +kernel) (pa_cons (pe_op op_fdivW (pe_ixO SGe.c SGe.fi SGe.ok hrGe SGe.b pass0 (pv 0) (pv 2)) (pe_ixO SGe.c SGe.fi SGe.ok hrGe SGe.b pass0 (pv 1) (pv 2))) pa_nil)))) pa_nil))))))), ?_⟩
    obtain ⟨⟨dx, hp⟩, _⟩ := id hc
    obtain ⟨⟨dx2, hq⟩, hd2, hh2, hw2⟩ := id hc2
    refine ⟨_, rfl, _, _, _, _, true, rfl, .own C, ci.ty hq, kit_self, _, rfl, iteF ?_⟩
    by_cases hu0 : u = []
    · subst hu0
      refine ⟨_, rfl, q, C, dx2, _, _, rfl, hq, T.cl, T.nH, flds_held e, false, .inr (.inr ⟨_, hd2, rfl⟩), iteT ?_⟩
      exact xmk (C := B) (fld := "word") (y := .non) (H1 := H) (Q := E) fun dd hdd => kE rfl H dd (Same.refl H) hdd
    have hne : true = !(tv u).isEmpty := by
      cases u with
      | nil => exact absurd rfl hu0
      | cons _ _ => rfl
    refine ⟨_, rfl, q, C, dx2, _, _, rfl, hq, T.cl, T.nH, flds_held e, true, .inr (.inr ⟨_, hd2, hne⟩), iteF ?_⟩
    refine ⟨_, rfl, q, dx2, _, rfl, hq, rfl, q, e, u, rfl, hc2, by omega, fun wl H1 ws hwl s1 h1 ha hm hle => ⟨wl, rfl, ⟨_, SqL.of h1⟩, ?_⟩⟩
    have hww : ∀ z ∈ ws, Word z := fun z hz => hc2.wd z ((hm z).mp hz)
    refine for_list (K := K) (a := wl) (xs := ws.map V.str) (fun i σ' H' => ∃ x2 : Option V, σ' = [some (.ref p), some (.ref q), x2] ∧ Same H1 H' ∧ ∀ z ∈ ws.take i, ¬ val u z < 0)
      ⟨_, rfl, Same.refl H1, fun z hz => by cases hz⟩ (fun i σ' H' _ ⟨_, _, h, _⟩ => SqL.of (h _ _ h1)) ?_ ?_
    · rintro i y σ' H' hy ⟨x2, rfl, s', hn⟩
      have hi : i < ws.length := by
        have := (List.getElem?_eq_some_iff.mp hy).1
        rw [List.length_map] at this
        exact this
      rw [List.getElem?_map, List.getElem?_eq_getElem hi] at hy
      obtain rfl := Option.some.inj hy
      have hcB := (hc2.same s1).same s'
      obtain ⟨⟨dxB, hqB⟩, _⟩ := id hcB
      refine ⟨_, rfl, _, rfl, q, dxB, _, rfl, hqB, q, e, u, ws[i], rfl, hww _ (List.getElem_mem hi), hcB, fun H2 s2 => ?_⟩
      refine ⟨val u ws[i], 0, rfl, rfl, _, rfl, ?_⟩
      by_cases c : val u ws[i] < 0
      · rw [decide_eq_true c]
        refine iteT ?_
        refine ⟨_, rfl, xmk (C := B) (fld := "word") (y := .str ws[i]) (H1 := H2) (Q := E) fun dd hdd => kN ws ha hm ws[i] ?_ H2 dd ((s1.trans s').trans s2) hdd⟩
        unfold firstNeg
        refine List.find?_eq_some_iff_getElem.mpr ⟨decide_eq_true c, i, hi, rfl, fun j hj => ?_⟩
        have := hn ws[j] (List.mem_take_iff_getElem.mpr ⟨j, by omega, rfl⟩)
        simpa using this
      · rw [decide_eq_false c]
        refine iteF ⟨_, rfl, s'.trans s2, fun z hz => ?_⟩
        rw [List.take_succ, List.getElem?_eq_getElem hi] at hz
        rcases List.mem_append.mp hz with h | h
        · exact hn z h
        · obtain rfl : z = ws[i] := by simpa using h
          exact c
    · rintro σ' H2 ⟨x2, rfl, s', hn⟩
      rw [List.length_map, List.take_length] at hn
      have pos : ∀ z ∈ keys u, 0 < val u z := fun z hz => by
        have a := (hh2.keys_iff z).mp hz
        have b := hn z ((hm z).mpr hz)
        omega
      have hqC := (hc2.same s1).same s'
      obtain ⟨⟨dxC, hqC'⟩, _⟩ := id hqC
      refine ⟨_, rfl, q, dxC, _, rfl, hqC', rfl, q, e, u, rfl, hqC, by omega, fun wl2 H3 ws2 hwl2 s3 h3 ha2 hm2 hle2 => ⟨wl2, rfl, ⟨_, SqL.of h3⟩, fun D hD => ?_⟩⟩
      have hww2 : ∀ z ∈ ws2, Word z := fun z hz => hc2.wd z ((hm2 z).mp hz)
      refine lc_it (walk_list (xs := ws2.map V.str)) (fun i H' => Same H3 H' ∧ H' D = some (.lst ((ws2.take i).map fun z => V.int (val t z / val u z)))) ⟨Same.new hD, upd_same⟩ (fun i H' _ h => SqL.of (h.1 _ _ h3)) ?_ ?_
      · rintro i x H4 H5 hi ⟨s4, hD4⟩ ⟨rfl, hx⟩
        rw [List.length_map] at hi
        have ex : x = V.str ws2[i] := by
          rw [List.getElem?_map, List.getElem?_eq_getElem hi] at hx
          exact (Option.some.inj hx).symm
        subst ex
        have hz := List.getElem_mem hi
        refine ⟨rfl, yes_it ?_⟩
        have hcA := (((hc.same s1).same s').same s3).same s4
        obtain ⟨⟨dxA, hpA⟩, _⟩ := id hcA
        refine ⟨_, rfl, _, rfl, p, dxA, _, rfl, hpA, p, d, t, ws2[i], rfl, hww2 _ hz, hcA, fun H6 s6 => ?_⟩
        have hcB := ((((hc2.same s1).same s').same s3).same s4).same s6
        obtain ⟨⟨dxB, hqB⟩, _⟩ := id hcB
        refine ⟨_, rfl, _, rfl, q, dxB, _, rfl, hqB, q, e, u, ws2[i], rfl, hww2 _ hz, hcB, fun H7 s7 => ?_⟩
        refine ⟨_, _, rfl, rfl, ⟨pos _ ((hm2 _).mp hz), Nat.lt_of_le_of_lt (log_of (bu _)) (by decide)⟩, .inl ⟨_, rfl, ?_⟩⟩
        have hD7 := s7 _ _ (s6 _ _ hD4)
        refine ⟨_, hD7, ?_, fun b o eb => ?_, ?_⟩
        · rw [List.length_map, List.length_take]
          exact Nat.lt_of_le_of_lt (show min i ws2.length ≤ 1000 by omega) (by decide)
        · rw [upd_ne (ne_of_none eb hD)]
          exact s7 _ _ (s6 _ _ (s4 _ _ eb))
        · rw [upd_same, List.take_succ, List.getElem?_eq_getElem hi, List.map_append]
          rfl
      · rintro H4 ⟨s4, hD4⟩
        rw [List.length_map, List.take_length] at hD4
        obtain ⟨z0, hz0⟩ : ∃ z, z ∈ keys u := by
          cases u with
          | nil => exact absurd rfl hu0
          | cons q0 r0 => exact ⟨q0.1, List.mem_cons_self⟩
        refine ⟨D, ws2.map fun z => val t z / val u z, rfl, SqL.of (by rw [hD4, List.map_map]; rfl), ?_, fun m hmem hmin => ?_⟩
        · rw [List.length_map]
          exact List.length_pos_of_mem ((hm2 z0).mpr hz0)
        · refine k ⟨z0, hz0⟩ pos m H4 (((s1.trans s').trans s3).trans s4) ⟨fun z hz => ?_, ?_⟩
          · exact le_quo (pos z hz) (hmin _ (List.mem_map.mpr ⟨z, (hm2 z).mpr hz, rfl⟩))
          · obtain ⟨z, hz, ez⟩ := List.mem_map.mp hmem
            refine ⟨z, (hm2 z).mp hz, ?_⟩
            rw [← ez]
            exact (ediv_quo (pos z ((hm2 z).mp hz))).2
theorem ok_mod {C B f fFl fSu fMu fRm : Addr} {fd fdFl fdSu fdMu : FuncData} {fI : Addr} (F : Fun K "__mod__" "Counts.__mod__" s_Counts_mod f fd) (g : Bj mg) (T : CT P w K mg base C fI) (ci : CI K C) (ODv : ODef P w K mg base (L2.CX P w) 4 C (PySem.dunder "floordiv") ["self", "other"] (spFloor C B) fFl fdFl)
    (OSu : ODef P w K mg base CX0 4 C (PySem.dunder "sub") ["self", "other"] (spBin C fun a b => a - b) fSu fdSu) (OMu : TDef P w K mg base CX0 3 C "mul" ["self", "times"] (spMul C) fMu fRm fdMu) : FnOk P w K mg base (L2.CX P w) 5 f fd ["self", "other"] (spMod C B) := by
  refine F.okX sc_Counts_mod (fun vs H Q E h => ?_) (fun cdv A outer s H vs Q E hr h => ?_)
  · obtain ⟨_, _, _, _, _, _, rfl, _⟩ := h
    rfl
  · obtain ⟨p, d, q, e, t, u, rfl, hc, hc2, hl, hl2, bt, bu, kE, kN, k⟩ := h
    have hrDv : Room 4 _ := hr.mono (by decide)
    have hrSu : Room 4 _ := hr.mono (by decide)
    have hrMu : Room 3 _ := hr.mono (by decide)
    refine ⟨_, (pss_cons (ps_if (pt_not (pt_val (pe_callB call_isi (by rfl) g.isinstance (by decide +kernel) (pa_cons (pv 1) (pa_cons (pe_glob (v := .ref C) rfl T.mgC rfl) pa_nil))))) (pss_one (ps_never)) pss_nil)
      (pss_cons (ps_set (i := 2) sc_Counts_mod.nd rfl (Or.inl rfl) (pe_op (op_own ODv.c ODv.ok hrDv ODv.b (passes_call (takes_of rfl rfl rfl rfl) fun _ _ _ _ h => h)) (pv 0) (pv 1)))
      (pss_one (ps_ret (pe_op (op_own OSu.c OSu.ok hrSu OSu.b pass0) (pv 0) (pe_op (op_ownI OMu.c OMu.i1 OMu.i2 OMu.ok hrMu OMu.b pass0) (pv 1) (pv 2))))))), ?_⟩
    obtain ⟨⟨dx, hp⟩, _⟩ := id hc
    obtain ⟨⟨dx2, hq⟩, _⟩ := id hc2
    refine ⟨_, rfl, _, _, _, _, true, rfl, .own C, ci.ty hq, kit_self, _, rfl, iteF ?_⟩
    refine ⟨_, rfl, _, rfl, p, q, dx, dx2, _, _, rfl, rfl, hp, hq, p, d, q, e, t, u, rfl, hc, hc2, hl, hl2, bt, bu, kE, kN, fun ne pos n H1 s1 hn => ?_⟩
    have hcA := hc.same s1
    have hcB := hc2.same s1
    refine ⟨_, rfl, _, rfl, _, rfl, q, dx2, _, n, rfl, rfl, s1 _ _ hq, q, e, u, n, rfl, hcB, by omega, fun z => ?_, fun r1 e1 H2 t1 hr1 he1 s2 hc1 hv1 hl1 => ?_⟩
    · have bn := quo_bd hn pos (b := 1000) bt
      have l1 : n.natAbs.log2 ≤ 1000 := by
        by_cases c : n.natAbs = 0
        · rw [c]; decide
        · have := (Nat.log2_lt (k := 1001) c).mpr (Nat.lt_of_le_of_lt bn (by decide))
          omega
      have l2 := log_of (bu z)
      omega
    obtain ⟨⟨dx3, hr3⟩, _⟩ := id hc1
    refine ⟨p, r1, dx, dx3, _, _, rfl, rfl, s2 _ _ (s1 _ _ hp), hr3, p, d, r1, e1, t, t1, rfl, hcA.same s2, hc1, hl, by omega, fun r2 e2 H3 t2 hr2 he2 s3 hc3 hv3 hl3 => ?_⟩
    refine k ne pos n hn r2 e2 H3 t2 (s1.free (s2.free hr2)) (s1.free (s2.free he2)) ((s1.trans s2).trans s3) hc3 (fun z => ?_) (by omega)
    rw [hv3]
    dsimp only
    rw [hv1]
end
end Cs

set_option Elab.async false
set_option linter.all false
set_option maxRecDepth 100000
set_option maxHeartbeats 4000000
/-! x op y of own objects that may raise, inside a try; not o by an own __bool__. -/
namespace Cs
open PySem PySem.Spec PyProof.Rows L2
section
variable {X : Cx} {CX : CXT} {k : Nat} {f C : Addr} {fd : FuncData} {ps : List Str} {sp : Sp} {a b : Expr} {ta tb : TE} {pos : Pos}
def tOwnS (C : Addr) (sp : Sp) (E : L2.St → XK) (ta tb : TE) : TE := fun σ H Q => ta σ H fun x H1 => tb σ H1 fun y H2 => rBinO C sp (E σ) x y H2 Q
theorem pe_ownS {op : Operator} {E : L2.St → XK} (c : OpC X.K C (PySem.dunder op.info.2) f) (F : FnOk X.prog X.w X.K X.mg X.base CX k f fd ps sp) (hr : Room k X.A) (hbi : Binds X.K fd ps []) (hx : ∀ σ, PassesAt CX X σ (E σ)) (ha : PE X a ta) (hb : PE X b tb) :
    PE X (.BinOp a op b pos) (tOwnS C sp E ta tb) := by
  refine ⟨fun pins s σ H Q I h => wpAny_BinOp (binT ha hb I (R := fun x y H2 => rBinO C sp (E σ) x y H2 Q) h fun v u s2 x y H2 I2 rx ry q => ?_)⟩
  obtain ⟨p, q, dp, dq, fp, fq, rfl, rfl, hp, hq, k⟩ := q
  cases rx
  cases ry
  obtain ⟨ox, od, J, _⟩ := ins_inst I2 hp
  obtain ⟨oy, oe, J2, _⟩ := ins_inst I2 hq
  obtain ⟨m, Fr⟩ := I2.fr
  refine PySem.W.binop_K Fr I2.ok.mod.kin J J2.type c.sf c.at_ c.fn ?_
  exact wpAny_mono (run_fnS (us := [.ref p, .ref q]) (vs := [.ref p, .ref q]) F hr hbi (hx σ) I2 (.cons rfl (.cons rfl .nil)) k) (fun v s' z => back_of z) fun _ _ z => z
/-- not o -/
def tNotO (C : Addr) (sp : Sp) (E : XK) (ta : TE) : TE := fun σ H Q => ta σ H fun x H1 => ∃ a dx fs, x = .ref a ∧ H1 a = some (.ins C dx fs) ∧ sp [.ref a] H1 (fun v H2 => ∃ b, v = .bl b ∧ Q (.bl (!b)) H2) E
theorem pe_notO {E : XK} (c : Spc X.K C "__bool__" f) (F : FnOk X.prog X.w X.K X.mg X.base CX k f fd ps sp) (hr : Room k X.A) (hbi : Binds X.K fd ps []) (hx : Passes CX X E) (ha : PE X a ta) : PE X (.UnaryOp .Not a pos) (tNotO C sp E ta) := by
  refine ⟨fun pins s σ H Q I h => ?_⟩
  refine UnaryOp_ (thn (ha.run pins s σ H _ I h) fun v s1 ⟨x, H1, I1, r1, a, dx, fs, ex, ha', q⟩ => ?_)
  subst ex
  cases r1
  obtain ⟨ox, od, J, _⟩ := ins_inst I1 ha'
  obtain ⟨m, Fr⟩ := I1.fr
  refine not_of (PySem.W.truthy_K Fr I1.ok.mod.kin J c.at_ c.fn (wpAny_mono (run_fn (us := [.ref a]) (vs := [.ref a]) (dvs := []) F hr hbi .nil hx I1 (.cons rfl .nil) q) (fun v s' z => ?_) fun _ _ z => z))
  obtain ⟨v0, H2, I2, rv, n, e, q2⟩ := z
  subst e
  cases rv
  exact ⟨.bl (!n), H2, I2, rfl, q2⟩
end
end Cs

set_option Elab.async false
set_option linter.all false
set_option maxRecDepth 100000
set_option maxHeartbeats 4000000
set_option pp.maxSteps 600
/-! The law of counts divided: its own helpers. -/
namespace Cs
open PySem L2
def spBool (C : Addr) : Sp := fun vs H Q _ => ∃ (p d : Addr) (t : Tab), vs = [.ref p] ∧ Cnt C H p d t ∧ Q (.bl (!t.isEmpty)) H
def spDivisor : Sp := fun vs H Q _ => ∃ (p c q : Addr) (xs : List V) (ps : Tab), vs = [.ref p, .ref q] ∧ Src H p c ∧ H q = some (.lst xs) ∧ q ≠ p ∧ PrL H xs ps ∧ GoodPs ps ∧ ps.length ≤ 1000 ∧
  ∀ (m : Addr) (H' : Hp) (u : Tab), H m = none → Mdl H' m u → u.length ≤ 4 → (∀ q ∈ u, Small q.2 ∧ q.2 ≠ 0) → Src H' p c → Kp p H H' → Q (.ref m) H'
def dueL (u : Tab) (ws : List Str) : List V := match firstNeg (val u) ws with
  | some z => [.str z]
  | none => if u = [] then [.non] else []
def spDue : Sp := fun vs H Q _ => ∃ (m : Addr) (u : Tab), vs = [.ref m] ∧ Mdl H m u ∧ u.length < 64 ∧ (∀ q ∈ u, q.2 ≠ 0) ∧
  ∀ (ws : List Str) (D : Addr) (H' : Hp), Asc ws → (∀ z, z ∈ ws ↔ z ∈ keys u) → Same H H' → H' D = some (.lst (dueL u ws)) → Q (.ref D) H'
def spFits : Sp := fun vs H Q _ => ∃ (n : Int) (m m2 : Addr) (u v : Tab), vs = [.int n, .ref m, .ref m2] ∧ Mdl H m u ∧ Mdl H m2 v ∧ m ≠ m2 ∧ v.length ≤ 1000 ∧ (∀ z, n.natAbs.log2 + (val v z).natAbs.log2 < 1000000) ∧
  ∀ H', Same H H' → Q (.bl (decide (∀ z ∈ keys v, n * val v z ≤ val u z))) H'
/-- the divisor is refused, with v named -/
def Refu (u : Tab) (v : V) : Prop := (u = [] ∧ v = .non) ∨ ∃ ws z, Asc ws ∧ (∀ y, y ∈ ws ↔ y ∈ keys u) ∧ (∀ y ∈ ws, Word y) ∧ firstNeg (val u) ws = some z ∧ v = .str z
def spRefused (C : Addr) : Sp := fun vs H Q _ => ∃ (p d q e : Addr) (t u : Tab) (v : V), vs = [.ref p, .ref q, v] ∧ Cnt C H p d t ∧ Cnt C H q e u ∧ t.length ≤ 400 ∧ u.length ≤ 400 ∧ (∀ z, Bd (val t z)) ∧ (∀ z, Bd (val u z)) ∧ Refu u v ∧
  ∀ H', Same H H' → Q (.bl true) H'
section
variable {P : Program} {w : World} {K : PySem.W.Frag} {mg : Str → Option Value} {base : Heap}
theorem ok_bool {C f : Addr} {fd : FuncData} {fI : Addr} (F : Fun K "__bool__" "Counts.__bool__" s_Counts_bool f fd) (g : Bi mg) (T : CT P w K mg base C fI) : FnOk P w K mg base CX0 1 f fd ["self"] (spBool C) := by
  refine F.ok sc_Counts_bool (fun vs H Q E h => ?_) (fun cdv A outer s H vs Q E hr h => ?_)
  · obtain ⟨_, _, _, rfl, _⟩ := h
    rfl
  · obtain ⟨p, d, t, rfl, hc, k⟩ := h
    obtain ⟨⟨dx, hp⟩, hd, _⟩ := id hc
    refine ⟨_, (pss_one (ps_ret (pe_callTy call_boolD (by rfl) g.bool (by decide +kernel) (pa_cons (pe_fld (pv 0) rfl) pa_nil)))), ?_⟩
    refine ⟨_, rfl, p, C, dx, _, _, rfl, hp, T.cl, T.nH, flds_held d, d, _, rfl, hd, ?_⟩
    rw [show (tv t).isEmpty = t.isEmpty by cases t <;> rfl]
    exact k
theorem ok_divisor {f fD fW : Addr} {fd fdD fdW : FuncData} (F : Fun K "_law_divisor" "_law_divisor" s_l_divisor f fd) (g : Bi mg) (FD : Def P w K mg base CX0 2 "_law_draw" ["_law_source_here", "_law_size"] spDraw fD fdD)
    (FW : Def P w K mg base CX0 3 "_law_word" ["_law_source_here"] spWord fW fdW) : FnOk P w K mg base CX0 4 f fd ["_law_source_here", "_law_pairs_here"] spDivisor := by
  obtain ⟨GD, mD, _, bD⟩ := id FD
  obtain ⟨GW, mW, _, bW⟩ := id FW
  refine F.ok sc_l_divisor (fun vs H Q E h => ?_) (fun cdv A outer s H vs Q E hr h => ?_)
  · obtain ⟨_, _, _, _, _, rfl, _⟩ := h
    rfl
  · obtain ⟨p, cc, q, xs, ps, rfl, hS, hq, nqp, hP, hG, hL, k⟩ := h
    have hrD : Room 2 _ := hr.mono (by decide)
    have hrW : Room 3 _ := hr.mono (by decide)
    have hu := hu_of hr
    refine ⟨_, (pss_cons (ps_set (i := 2) sc_l_divisor.nd rfl (Or.inl rfl) pe_dnewK)
      (pss_cons (ps_set (i := 3) sc_l_divisor.nd rfl (Or.inl rfl) (pe_cmpR op_eq (pe_call GD hrD rfl mD FD.kp bD .nil pass0 (pa_cons (pv 0) (pa_cons pe_int pa_nil))) pe_int (nomark _)))
      (pss_cons (ps_for PassesOwn.never rfl (pi_range1 rfl g.range (pa_cons (pe_call GD hrD rfl mD FD.kp bD .nil pass0 (pa_cons (pv 0) (pa_cons pe_int pa_nil))) pa_nil)) (pg_name (i := 4) sc_l_divisor.nd rfl (Or.inl rfl)) (pss_cons (ps_set (i := 5) sc_l_divisor.nd rfl (Or.inl rfl) (pe_call GW hrW rfl mW FW.kp bW .nil pass0 (pa_cons (pv 0) pa_nil)))
      (C8.pss_cut (ps_if (PW.pt (pw_and (pt_cmpR op_gt (pe_callB call_len (by rfl) g.len PySem.boot_len (pa_cons (pv 1) pa_nil)) pe_int (nomark _)) (pw_and1 (pt_cmpR op_eq (pe_call GD hrD rfl mD FD.kp bD .nil pass0 (pa_cons (pv 0) (pa_cons pe_int pa_nil))) pe_int (nomark _))))) (pss_one (ps_set (i := 5) sc_l_divisor.nd rfl (Or.inl rfl) (pe_ix ix_tup (pe_ix ix_list (pv 1) (pe_call GD hrD rfl mD FD.kp bD .nil pass0 (pa_cons (pv 0) (pa_cons (pe_callB call_len (by rfl) g.len PySem.boot_len (pa_cons (pv 1) pa_nil)) pa_nil))) (fun _ _ => rfl)) pe_int (fun _ _ => rfl)))) pss_nil)
      (pss_cons (ps_set (i := 6) sc_l_divisor.nd rfl (Or.inl rfl) (pe_op op_add pe_int (pe_call GD hrD rfl mD FD.kp bD .nil pass0 (pa_cons (pv 0) (pa_cons pe_int pa_nil)))))
      (C8.pss_cut (ps_if (pt_cmpR op_eq (pe_call GD hrD rfl mD FD.kp bD .nil pass0 (pa_cons (pv 0) (pa_cons pe_int pa_nil))) pe_int (nomark _)) (pss_one (ps_set (i := 6) sc_l_divisor.nd rfl (Or.inl rfl) (pe_op op_add pe_int (pe_call GD hrD rfl mD FD.kp bD .nil pass0 (pa_cons (pv 0) (pa_cons (pe_op op_sub (pe_op op_pow pe_int pe_int) pe_int) pa_nil)))))) pss_nil)
      (C8.pss_cut (ps_if (PW.pt (pw_and (pt_val (pv 3)) (pw_and1 (pt_cmpR op_eq (pe_call GD hrD rfl mD FD.kp bD .nil pass0 (pa_cons (pv 0) (pa_cons pe_int pa_nil))) pe_int (nomark _))))) (pss_one (ps_set (i := 6) sc_l_divisor.nd rfl (Or.inl rfl) (pe_un un_neg (pv 6)))) pss_nil)
      (pss_one (ps_dput hu (pv 2) (pv 5) (pv 6) rfl))))))))
      (pss_one (ps_ret (pv 2)))))), ?_⟩
    intro m hm
    have s1 : Same H (upd H m (.dK [])) := Same.new hm
    have nmp : m ≠ p := hS.new_p hm
    have nmc : m ≠ cc := hS.new_c hm
    refine ⟨_, rfl, p, cc, 4, rfl, hS.same s1, by decide, by decide, fun v0 H1 a0 a1 S1 k1 => ⟨rfl, ?_⟩⟩
    refine ⟨_, rfl, p, cc, 5, rfl, S1, by decide, by decide, fun v1 H2 b0 b1 S2 k2 => ⟨_, rfl, by omega, by omega, ?_⟩⟩
    have k02 : Kp p H H2 := ((Kp.of s1).trans k1).trans k2
    have hq2 := k02 q _ hq nqp
    have hm2 : H2 m = some (.dK []) := k2 m _ (k1 m _ upd_same nmp) nmp
    have hP2 : PrL H2 xs ps := hP.mono fun t a b e => k02 t _ e (hS.tup_p e)
    have hxl : xs.length = ps.length := hP.length
    refine for_range (lo := 0) (n := v1.toNat) (fun i σ' H' => ∃ (u : Tab) (x4 x5 x6 : Option V), σ' = [some (.ref p), some (.ref q), some (.ref m), some (.bl (decide (V.int v0 = V.int 1))), x4, x5, x6] ∧ Mdl H' m u ∧ u.length ≤ i ∧ (∀ q ∈ u, Small q.2 ∧ q.2 ≠ 0) ∧ Src H' p cc ∧ Kp p H H' ∧ H' q = some (.lst xs) ∧ PrL H' xs ps)
      ⟨[], _, _, _, rfl, ⟨hm2, List.nodup_nil, fun z h => nomatch h⟩, Nat.le_refl _, (fun _ h => nomatch h), S2, k02, hq2, hP2⟩ ?_ ?_
    · rintro i σ' H3 hi ⟨u, x4, x5, x6, rfl, M3, hl3, hg3, S3, k3, hq3, hP3⟩
      have hmq : m ≠ q := ne_of M3.dc hq3 (by intro z; cases z)
      refine ⟨_, rfl, p, cc, rfl, S3, fun z H4 hz S4 k4 => ?_⟩
      have M4 : Mdl H4 m u := ⟨k4 m _ M3.dc nmp, M3.nd, M3.wd⟩
      have hq4 := k4 q _ hq3 nqp
      have hP4 : PrL H4 xs ps := hP3.mono fun t a b e => k4 t _ e (S3.tup_p e)
      have k04 := k3.trans k4
      -- the word
      refine ⟨fun σ2 H5 => ∃ (z : Str) (x4 x6 : Option V), σ2 = [some (.ref p), some (.ref q), some (.ref m), some (.bl (decide (V.int v0 = V.int 1))), x4, some (.str z), x6] ∧ Word z ∧ Mdl H5 m u ∧ Src H5 p cc ∧ Kp p H H5 ∧ H5 q = some (.lst xs) ∧ PrL H5 xs ps, ?_, ?_⟩
      · refine ⟨_, rfl, _, _, rfl, .inl ⟨_, SqL.of hq4, rfl⟩, _, _, rfl, rfl, _, rfl, ite2 (fun c => ?_) (fun c => ?_)⟩
        · have hpos : 0 < xs.length := by simpa using c
          refine ⟨_, rfl, p, cc, 2, rfl, S4, by decide, by decide, fun v3 H5 c0 c1 S5 k5 => ⟨rfl, _, rfl, ?_⟩⟩
          have hq5 := k5 q _ hq4 nqp
          have hP5 : PrL H5 xs ps := hP4.mono fun t a b e => k5 t _ e (S4.tup_p e)
          have M5 : Mdl H5 m u := ⟨k5 m _ M4.dc nmp, M4.nd, M4.wd⟩
          refine ite2 (fun c2 => ?_) (fun c2 => ?_)
          · refine ⟨_, rfl, _, rfl, _, rfl, _, _, rfl, .inl ⟨_, SqL.of hq5, rfl⟩, p, cc, _, rfl, S5, by omega, by omega, fun v4 H6 d0 d1 S6 k6 => ?_⟩
            have hq6 := k6 q _ hq5 nqp
            have hj : v4.toNat < ps.length := by omega
            have hP6 : PrL H6 xs ps := hP5.mono fun t a b e => k6 t _ e (S5.tup_p e)
            obtain ⟨t, et, ht⟩ := hP6.at (List.getElem?_eq_getElem hj)
            refine ⟨q, _, v4, _, rfl, rfl, SqL.of hq6, at_of (z := v4) (j := v4.toNat) (by omega) et, t, _, 0, _, rfl, rfl, SqT.of ht, rfl, ?_⟩
            exact ⟨_, _, _, rfl, (hG _ (List.getElem_mem hj)).1, ⟨k6 m _ M5.dc nmp, M5.nd, M5.wd⟩, S6, (k04.trans k5).trans k6, hq6, hP6⟩
          · exact ⟨z, _, _, rfl, hz, M5, S5, k04.trans k5, hq5, hP5⟩
        · exact ⟨z, _, _, rfl, hz, M4, S4, k04, hq4, hP4⟩
      clear hq4 hP4 M4 S4 k4 k04 hz z
      rintro σ2 H4 ⟨z, x4, x6, rfl, hz, M4, S4, k04, hq4, hP4⟩
      refine ⟨_, rfl, p, cc, 9, rfl, S4, by decide, by decide, fun v5 H5 e0 e1 S5 k5 => ⟨_, _, rfl, rfl, ?_⟩⟩
      have M5 : Mdl H5 m u := ⟨k5 m _ M4.dc nmp, M4.nd, M4.wd⟩
      have hq5 := k5 q _ hq4 nqp
      have hP5 : PrL H5 xs ps := hP4.mono fun t a b e => k5 t _ e (S4.tup_p e)
      have k05 := k04.trans k5
      -- the number
      refine ⟨fun σ2 H6 => ∃ (n : Int) (x4 : Option V), σ2 = [some (.ref p), some (.ref q), some (.ref m), some (.bl (decide (V.int v0 = V.int 1))), x4, some (.str z), some (.int n)] ∧ (0 < n ∧ n < 10 ^ 30) ∧ Mdl H6 m u ∧ Src H6 p cc ∧ Kp p H H6 ∧ H6 q = some (.lst xs) ∧ PrL H6 xs ps, ?_, ?_⟩
      · refine ⟨_, rfl, p, cc, 4, rfl, S5, by decide, by decide, fun v6 H6 f0 f1 S6 k6 => ⟨rfl, _, rfl, ?_⟩⟩
        have M6 : Mdl H6 m u := ⟨k6 m _ M5.dc nmp, M5.nd, M5.wd⟩
        have hq6 := k6 q _ hq5 nqp
        have hP6 : PrL H6 xs ps := hP5.mono fun t a b e => k6 t _ e (S5.tup_p e)
        refine ite2 (fun c => ?_) (fun c => ?_)
        · refine ⟨_, rfl, _, _, rfl, rfl, ⟨by decide, by decide, by decide⟩, _, _, rfl, rfl, p, cc, _, rfl, S6, by decide, by decide, fun v7 H7 g0 g1 S7 k7 => ⟨_, _, rfl, rfl, ?_⟩⟩
          have e30 : ((10 : Int) ^ (30 : Int).toNat) = 10 ^ 30 := rfl
          rw [e30] at g1
          exact ⟨_, _, rfl, ⟨by omega, by omega⟩, ⟨k7 m _ M6.dc nmp, M6.nd, M6.wd⟩, S7, (k05.trans k6).trans k7, k7 q _ hq6 nqp, hP6.mono fun t a b e => k7 t _ e (S6.tup_p e)⟩
        · exact ⟨_, _, rfl, ⟨by omega, by omega⟩, M6, S6, k05.trans k6, hq6, hP6⟩
      clear hq5 hP5 M5 S5 k5 k05 e0 e1 hq4 hP4 M4 S4 k04
      rintro σ2 H5 ⟨n, x4, rfl, hn, M5, S5, k05, hq5, hP5⟩
      -- its sign
      refine ⟨fun σ2 H6 => ∃ (n : Int) (x4 : Option V), σ2 = [some (.ref p), some (.ref q), some (.ref m), some (.bl (decide (V.int v0 = V.int 1))), x4, some (.str z), some (.int n)] ∧ (Small n ∧ n ≠ 0) ∧ Mdl H6 m u ∧ Src H6 p cc ∧ Kp p H H6 ∧ H6 q = some (.lst xs) ∧ PrL H6 xs ps, ?_, ?_⟩
      · have fin0 : ∀ {H6 : Hp}, Src H6 p cc → Kp p H5 H6 → ∀ n' : Int, (n' = n ∨ n' = -n) → (Small n' ∧ n' ≠ 0) ∧ Mdl H6 m u ∧ Src H6 p cc ∧ Kp p H H6 ∧ H6 q = some (.lst xs) ∧ PrL H6 xs ps := fun {H6} S6 k6 n' e =>
          ⟨⟨⟨by omega, by omega⟩, by omega⟩, ⟨k6 m _ M5.dc nmp, M5.nd, M5.wd⟩, S6, k05.trans k6, k6 q _ hq5 nqp, hP5.mono fun t a b e => k6 t _ e (S5.tup_p e)⟩
        refine ⟨_, rfl, _, rfl, ite2 (fun c => ?_) (fun c => ?_)⟩
        · refine ⟨_, rfl, p, cc, 2, rfl, S5, by decide, by decide, fun v6 H6 f0 f1 S6 k6 => ⟨rfl, _, rfl, ite2 (fun c2 => ?_) (fun c2 => ?_)⟩⟩
          · exact ⟨_, rfl, _, rfl, _, _, rfl, fin0 S6 k6 _ (.inr rfl)⟩
          · exact ⟨_, _, rfl, fin0 S6 k6 _ (.inl rfl)⟩
        · exact ⟨_, _, rfl, fin0 S5 (Kp.of (Same.refl _)) _ (.inl rfl)⟩
      clear hq5 hP5 M5 S5 k05 hn n
      rintro σ2 H5 ⟨n, x4, rfl, hn, M5, S5, k05, hq5, hP5⟩
      refine ⟨_, rfl, _, rfl, _, rfl, m, _, rfl, DPut.k (k := Sum.inr z) M5.dc ?_, ?_⟩
      · rw [tv_len]
        exact Nat.lt_of_le_of_lt (show u.length ≤ 1000 by omega) (by decide)
      rw [tv_put]
      have km : ∀ b o, H5 b = some o → b ≠ m → (upd H5 m (.dK (tv (put u z n)))) b = some o := fun b o e nb => by rw [upd_ne nb]; exact e
      refine ⟨put u z n, _, _, _, rfl, ⟨upd_same, nd_put M5.nd, fun y hy => ?_⟩, ?_, fun r hr' => ?_, ?_, fun b o e nb => ?_, km _ _ hq5 hmq.symm, ?_⟩
      · rcases mem_keys_put.mp hy with h | h
        · exact M5.wd y h
        · rw [h]; exact hz
      · have := len_put u z n
        omega
      · obtain ⟨y, b⟩ := r
        rcases mem_put hr' with ⟨_, h⟩ | ⟨_, h⟩
        · show Small b ∧ b ≠ 0
          rw [h]; exact hn
        · exact hg3 _ h
      · exact S5.keep fun b o hb e => km b o e (by
          rcases hb with rfl | rfl
          · exact nmp.symm
          · exact nmc.symm)
      · exact km b o (k05 b o e nb) (ne_of_none e hm)
      · exact hP5.mono fun t a b e => km t _ e (ne_of e M5.dc (by intro z; cases z))
    · rintro σ' H3 ⟨u, x4, x5, x6, rfl, M3, hl3, hg3, S3, k3, hq3, hP3⟩
      exact ⟨_, rfl, k m H3 u hm M3 (by omega) hg3 S3 k3⟩
theorem firstNeg_none {f : Str → Int} {ws : List Str} (h : ∀ z ∈ ws, ¬ f z < 0) : firstNeg f ws = none := by
  unfold firstNeg
  exact List.find?_eq_none.mpr fun z hz => by simpa using h z hz
theorem pd_nilD (l : Tab) : PyData.eqv (pd l) (.list []) = l.isEmpty := by
  unfold pd
  cases l <;> simp [PyData.eqv, PyData.eqvAll]
theorem ok_due {f fTo : Addr} {fd fdTo : FuncData} (F : Fun K "_law_due" "_law_due" s_l_due f fd) (g : Bi mg) (FTo : Def P w K mg base CX0 1 "_law_told" ["_law_model_here"] spTold fTo fdTo) : FnOk P w K mg base CX0 2 f fd ["_law_divisor_here"] spDue := by
  obtain ⟨GTo, mTo, _, bTo⟩ := id FTo
  refine F.ok sc_l_due (fun vs H Q E h => ?_) (fun cdv A outer s H vs Q E hr h => ?_)
  · obtain ⟨_, _, rfl, _⟩ := h
    rfl
  · obtain ⟨m, u, rfl, hm, hl, hnz, k⟩ := h
    have hrTo : Room 1 _ := hr.mono (by decide)
    have hh : Held u := ⟨hm.nd, hnz⟩
    refine ⟨_, (pss_cons (ps_set (i := 1) sc_l_due.nd rfl (Or.inl rfl) (pe_call GTo hrTo rfl mTo FTo.kp bTo .nil pass0 (pa_cons (pv 0) pa_nil)))
      (pss_cons (ps_for PassesOwn.never rfl (pi_list (pv 1)) (pg_tup rfl (pgs_cons (pg_name (i := 2) sc_l_due.nd rfl (Or.inl rfl)) (pgs_cons (pg_name (i := 3) sc_l_due.nd rfl (Or.inl rfl)) pgs_nil))) (pss_one (ps_if (pt_cmpR op_lt (pv 3) pe_int (nomark _)) (pss_one (ps_ret (pe_lst (pa_cons (pv 2) pa_nil)))) pss_nil)))
      (pss_one (ps_ret (pe_ifExp (pt_cmpR (op_eqD hr.units) (pv 1) (pe_lst pa_nil) (nomark _)) (pe_lst (pa_cons pe_non pa_nil)) (pe_lst pa_nil)))))), ?_⟩
    refine ⟨_, rfl, m, u, rfl, hm, hl, fun q H1 xs l hq s1 h1 hP ht hwl hle => ?_⟩
    have hke : ∀ z, z ∈ keys l ↔ z ∈ keys u := fun z => (ht.keys_iff z).trans (hh.keys_iff z).symm
    have hvl : ∀ r ∈ l, val u r.1 = r.2 := fun r hr' => ((ht.mem r.1 r.2).mp hr').1.symm
    refine ⟨_, rfl, q, rfl, ⟨_, SqL.of h1⟩, for_list (K := K) (a := q) (xs := xs) (fun i σ' H' => ∃ x2 x3 : Option V, σ' = [some (.ref m), some (.ref q), x2, x3] ∧ Same H1 H' ∧ ∀ r ∈ l.take i, ¬ r.2 < 0)
      ⟨_, _, rfl, Same.refl _, fun r hr' => by cases hr'⟩ (fun i σ' H' _ ⟨_, _, _, h, _⟩ => SqL.of (h _ _ h1)) ?_ ?_⟩
    · rintro i y σ' H' hy ⟨x2, x3, rfl, s', hno⟩
      have hi : i < l.length := by
        have := (List.getElem?_eq_some_iff.mp hy).1
        rw [hP.length] at this
        exact this
      obtain ⟨t, et, ht'⟩ := hP.at (List.getElem?_eq_getElem hi)
      rw [et] at hy
      obtain rfl := Option.some.inj hy
      refine ⟨t, _, rfl, SqT.of (s' _ _ ht'), rfl, _, _, rfl, _, _, rfl, rfl, ?_⟩
      refine ⟨_, rfl, _, _, rfl, rfl, _, rfl, ite2 (fun c => ?_) (fun c => ?_)⟩
      · have c : l[i].2 < 0 := by simpa using c
        refine ⟨_, rfl, by show 1 ≤ sizeLine; decide, fun D hD => k (keys l) D _ ht.asc hke ((s1.trans s').trans (Same.new hD)) ?_⟩
        rw [upd_same]
        have e : firstNeg (val u) (keys l) = some l[i].1 := by
          unfold firstNeg
          refine List.find?_eq_some_iff_getElem.mpr ⟨?_, i, by rw [keys_len]; exact hi, by unfold keys; rw [List.getElem_map], fun j hj => ?_⟩
          · rw [hvl _ (List.getElem_mem hi)]
            exact decide_eq_true c
          · have hjl : j < l.length := by omega
            have := hno l[j] (List.mem_take_iff_getElem.mpr ⟨j, by omega, rfl⟩)
            unfold keys
            rw [List.getElem_map, hvl _ (List.getElem_mem hjl)]
            simpa using this
        unfold dueL
        rw [e]
      · have c : ¬ l[i].2 < 0 := by simpa using c
        refine ⟨_, _, rfl, s', fun r hr' => ?_⟩
        rw [List.take_succ, List.getElem?_eq_getElem hi] at hr'
        rcases List.mem_append.mp hr' with h | h
        · exact hno r h
        · obtain rfl : r = l[i] := by simpa using h
          exact c
    · rintro σ' H2 ⟨x2, x3, rfl, s2, hno⟩
      rw [hP.length, List.take_length] at hno
      have e : firstNeg (val u) (keys l) = none := firstNeg_none fun z hz => by
        obtain ⟨r, hr', ez⟩ := List.mem_map.mp hz
        have ez : r.1 = z := ez
        rw [← ez, hvl r hr']
        exact hno r hr'
      have hP2 : PrL H2 xs l := hP.mono fun c a b e => s2 _ _ e
      refine ⟨_, rfl, by show 0 ≤ sizeLine; decide, fun D0 hD0 => ?_⟩
      have s3 : Same H2 (upd H2 D0 (.lst [])) := Same.new hD0
      have g3 : (upd H2 D0 (.lst [])) D0 = some (.lst []) := upd_same
      generalize upd H2 D0 (.lst []) = H3 at s3 g3
      have hP3 : PrL H3 xs l := hP2.mono fun c a b e => s3 _ _ e
      refine ⟨pd l, .list [], .lst (SqL.of (s3 _ _ (s2 _ _ h1))) hP3.dp, .lst (SqL.of g3) .nil, pd_shaped hwl, by decide, _, rfl, ?_⟩
      rw [pd_nilD]
      have el : l.isEmpty = decide (u = []) := by
        cases u with
        | nil =>
          cases l with
          | nil => rfl
          | cons r r' =>
            have := (hke r.1).mp List.mem_cons_self
            cases this
        | cons r r' =>
          cases l with
          | nil =>
            have := (hke r.1).mpr List.mem_cons_self
            cases this
          | cons _ _ => rfl
      rw [el]
      have s03 := (s1.trans s2).trans s3
      refine ite2 (fun c => ?_) (fun c => ?_)
      · have c : u = [] := by simpa using c
        refine ⟨by show 1 ≤ sizeLine; decide, fun D hD => k (keys l) D _ ht.asc hke (s03.trans (Same.new hD)) ?_⟩
        rw [upd_same]
        unfold dueL
        rw [e, if_pos c]
      · have c : ¬ u = [] := by simpa using c
        refine ⟨by show 0 ≤ sizeLine; decide, fun D hD => k (keys l) D _ ht.asc hke (s03.trans (Same.new hD)) ?_⟩
        rw [upd_same]
        unfold dueL
        rw [e, if_neg c]
theorem ok_fits {f : Addr} {fd : FuncData} (F : Fun K "_law_fits" "_law_fits" s_l_fits f fd) (g : Bi mg) : FnOk P w K mg base CX0 1 f fd ["_law_times", "_law_model_here", "_law_divisor_here"] spFits := by
  refine F.ok sc_l_fits (fun vs H Q E h => ?_) (fun cdv A outer s H vs Q E hr h => ?_)
  · obtain ⟨_, _, _, _, _, rfl, _⟩ := h
    rfl
  · obtain ⟨n, m, m2, u, v, rfl, hm, hm2, ne, hl, hb, k⟩ := h
    have hu := hu_of hr
    refine ⟨_, (pss_cons (ps_lock (ps_for PassesOwn.never rfl (pi_keys (pv 2)) (pg_name (i := 3) sc_l_fits.nd rfl (Or.inl rfl)) (pss_one (ps_if (pt_cmpR op_gt (pe_op op_mulW (pv 0) (pe_dget hu (pv 2) (pv 3) (fun _ _ => rfl))) (pe_dget2 hu (pv 1) (pv 3) pe_int ⟨rfl, rfl, rfl, rfl⟩) (nomark _)) (pss_one (ps_ret pe_bl)) pss_nil))))
      (pss_one (ps_ret pe_bl))), ?_⟩
    refine ⟨m2, _, hm2.dc, trivial, fun od => ?_⟩
    have hB : ∀ H', Same H H' → ∀ b : Bool, (b = true ↔ ∀ z ∈ keys v, n * val v z ≤ val u z) → Q (.bl b) H' := fun H' s' b e => by
      have : b = decide (∀ z ∈ keys v, n * val v z ≤ val u z) := by
        by_cases c : ∀ z ∈ keys v, n * val v z ≤ val u z
        · rw [decide_eq_true c]; exact e.mpr c
        · rw [decide_eq_false c]
          cases b with
          | true => exact absurd (e.mp rfl) c
          | false => rfl
      rw [this]
      exact k H' s'
    have hback : Same H (upd (upd H m2 (.frz od (.dK (tv v)))) m2 (.dK (tv v))) := fun b o e => by
      by_cases c : b = m2
      · subst c
        rw [upd_same, ← e, hm2.dc]
      · rw [upd_ne c, upd_ne c]; exact e
    have hmF : (upd H m2 (.frz od (.dK (tv v)))) m = some (.dK (tv u)) := by rw [upd_ne ne]; exact hm.dc
    have hm2F : (upd H m2 (.frz od (.dK (tv v)))) m2 = some (.frz od (.dK (tv v))) := upd_same
    generalize upd H m2 (.frz od (.dK (tv v))) = HF at hback hmF hm2F
    refine ⟨_, rfl, m2, od, rfl, .inl ⟨_, hm2F, ?_⟩⟩
    refine for_it walk_keys (fun i σ' H' => ∃ x3 : Option V, σ' = [some (.int n), some (.ref m), some (.ref m2), x3] ∧ H' = HF ∧ ∀ r ∈ v.take i, n * r.2 ≤ val u r.1) ⟨_, rfl, rfl, fun r hr' => by cases hr'⟩ (fun i σ' H' _ ⟨_, _, h, _⟩ => by rw [h]; exact hm2F) ?_ ?_
    · rintro i y σ' H' H2 hi ⟨x3, rfl, rfl, hno⟩ ⟨rfl, kk, vv, hv, ev⟩
      rw [tv_len] at hi
      have hi2 : (tv v)[i]? = some (Sum.inr v[i].1, V.int v[i].2) := by
        unfold tv
        rw [List.getElem?_map, List.getElem?_eq_getElem hi]
        rfl
      rw [hi2] at hv
      obtain rfl : Sum.inr v[i].1 = kk := congrArg Prod.fst (Option.some.inj hv)
      obtain rfl : y = V.str v[i].1 := ev
      have lk : look v v[i].1 = some v[i].2 := look_mem hm2.nd (show (v[i].1, v[i].2) ∈ v from List.getElem_mem hi)
      have lv : val v v[i].1 = v[i].2 := by unfold val; rw [lk]; rfl
      have lk2 : valV (tv v) (Sum.inr v[i].1) = some (V.int v[i].2) := by rw [tv_val, lk]; rfl
      have hbi := hb v[i].1
      rw [lv] at hbi
      refine ⟨_, rfl, _, rfl, _, rfl, m2, V.int v[i].2, rfl, .inl ⟨_, Sum.inr v[i].1, .inr ⟨od, hm2F⟩, rfl, lk2.symm⟩, _, _, rfl, rfl, hbi, ?_⟩
      refine ⟨_, rfl, m, rfl, .inl ⟨_, .inl hmF⟩, _, rfl, _, DGet.k (k := Sum.inr v[i].1) hmF, ?_⟩
      refine ⟨n * v[i].2, val u v[i].1, rfl, (by rw [tv_val]; exact val_getD _ _), _, rfl, ite2 (fun c => ?_) (fun c => ?_)⟩
      · have c : n * v[i].2 > val u v[i].1 := by simpa using c
        refine ⟨hm2F, hB _ hback false ⟨(fun z => by cases z), fun z => ?_⟩⟩
        have := z v[i].1 (List.mem_map.mpr ⟨v[i], List.getElem_mem hi, rfl⟩)
        rw [lv] at this
        omega
      · have c : ¬ n * v[i].2 > val u v[i].1 := by simpa using c
        refine ⟨_, rfl, rfl, fun r hr' => ?_⟩
        rw [List.take_succ, List.getElem?_eq_getElem hi] at hr'
        rcases List.mem_append.mp hr' with h | h
        · exact hno r h
        · obtain rfl : r = v[i] := by simpa using h
          omega
    · rintro σ' H' ⟨x3, rfl, rfl, hno⟩
      rw [tv_len, List.take_length] at hno
      refine ⟨hm2F, hB _ hback true ⟨fun _ z hz => ?_, fun _ => rfl⟩⟩
      obtain ⟨r, hr', ez⟩ := List.mem_map.mp hz
      have ez : r.1 = z := ez
      have lk : look v r.1 = some r.2 := look_mem hm2.nd (show (r.1, r.2) ∈ v from hr')
      have lv : val v r.1 = r.2 := by unfold val; rw [lk]; rfl
      rw [← ez, lv]
      exact hno r hr'
end
end Cs

set_option Elab.async false
set_option linter.all false
set_option maxRecDepth 100000
set_option maxHeartbeats 4000000
set_option pp.maxSteps 600
/-! The law of counts divided: refused divisors. -/
namespace Cs
open PySem L2
theorem Refu.non {u : Tab} {v : V} (h : Refu u v) : u = [] → v = .non := fun e => by
  rcases h with ⟨_, h⟩ | ⟨ws, z, _, hm, _, hf, _⟩
  · exact h
  · subst e
    have := (hm z).mp (List.mem_of_find?_eq_some hf)
    cases this
theorem Refu.neg {u : Tab} {v : V} (h : Refu u v) : ∀ ws, Asc ws → (∀ z, z ∈ ws ↔ z ∈ keys u) → ∀ z, firstNeg (val u) ws = some z → v = .str z := fun ws ha hm z hz => by
  rcases h with ⟨e, _⟩ | ⟨ws2, z2, ha2, hm2, _, hf, e⟩
  · subst e
    have := (hm z).mp (List.mem_of_find?_eq_some hz)
    cases this
  · obtain rfl := asc_eq ha ha2 fun y => (hm y).trans (hm2 y).symm
    rw [hz] at hf
    rw [e, Option.some.inj hf]
theorem Refu.not {u : Tab} {v : V} (h : Refu u v) (ne : ∃ z, z ∈ keys u) (pos : ∀ z ∈ keys u, 0 < val u z) : False := by
  rcases h with ⟨e, _⟩ | ⟨ws2, z2, ha2, hm2, _, hf, e⟩
  · obtain ⟨z, hz⟩ := ne
    subst e
    cases hz
  · have a := pos z2 ((hm2 z2).mp (List.mem_of_find?_eq_some hf))
    have b := List.find?_some hf
    have b : val u z2 < 0 := by simpa using b
    omega
/-- the word as data -/
theorem Refu.dp {K : PySem.W.Frag} {u : Tab} {v : V} (h : Refu u v) : ∃ d, (∀ H, Dp K H v d) ∧ SeqAt.shaped (.list [d, d]) = true ∧ PyData.eqv (.list [d, d]) (.list [d, d]) = true ∧ ∀ H, NotInt K H v := by
  rcases h with ⟨_, rfl⟩ | ⟨ws2, z2, ha2, hm2, hw, hf, rfl⟩
  · exact ⟨.none, fun _ => .non, by decide, by decide, fun H => ⟨"NoneType", .base .non, .inr (by decide +kernel)⟩⟩
  · have hz := hw z2 (List.mem_of_find?_eq_some hf)
    have e : (PyData.list [.str z2, .str z2]) = pds [z2, z2] := rfl
    have hz2 : ∀ z ∈ [z2, z2], Word z := fun z hz' => by
      have : z = z2 := by simpa using hz'
      rw [this]; exact hz
    exact ⟨.str z2, fun _ => .str _, by rw [e]; exact pds_shaped hz2, by rw [e]; exact pds_refl hz2, fun H => ⟨"str", .base (.str _), .inr (by decide +kernel)⟩⟩
section
variable {P : Program} {w : World} {K : PySem.W.Frag} {mg : Str → Option Value} {base : Heap}
theorem ok_refused {C B fFl fMd f fX fLi ce : Addr} {fd fdFl fdMd fdX fdLi : FuncData} {fI : Addr} (F : Fun K "_law_refused" "_law_refused" s_l_refused f fd) (g : Bi mg) (T : CT P w K mg base C fI)
    (OFl : ODef P w K mg base (L2.CX P w) 4 C (PySem.dunder "floordiv") ["self", "other"] (spFloor C B) fFl fdFl) (OMd : ODef P w K mg base (L2.CX P w) 5 C (PySem.dunder "mod") ["self", "other"] (spMod C B) fMd fdMd)
    (XD : XDefA P w K mg base "NoDivisor" B fX "word" ["self", "word"] fdX) (EC : ExcC K B) (XF : XfC K B) (hno : PySem.W.findIn K (.ref B) "word" = some none) (mCE : mg "CountsheldError" = some (.ref ce)) (mZD : mg "ZeroDivisionError" = none)
    (k1 : PySem.W.kitOne K (.ref B) (.ref ce) = some false) (k2 : PySem.W.kitOne K (.ref B) (.type "ZeroDivisionError") = some true)
    (FLi : Def P w K mg base CX0 1 "_law_is_integer" ["_law_thing"] (spIsInteger K) fLi fdLi) : FnOk P w K mg base CX0 6 f fd ["_law_counts", "_law_divisor_here", "_law_word_here"] (spRefused C) := by
  obtain ⟨GLi, mLi, _, bLi⟩ := id FLi
  refine F.ok sc_l_refused (fun vs H Q E h => ?_) (fun cdv A outer s H vs Q E hr h => ?_)
  · obtain ⟨_, _, _, _, _, _, _, rfl, _⟩ := h
    rfl
  · obtain ⟨p, d, q, e, t, u, v, rfl, hc, hc2, hl, hl2, bt, bu, hR, k⟩ := h
    have hrFl : Room 4 _ := hr.mono (by decide)
    have hrMd : Room 5 _ := hr.mono (by decide)
    have hrLi : Room 1 _ := hr.mono (by decide)
    obtain ⟨⟨dx, hp⟩, _⟩ := id hc
    obtain ⟨⟨dx2, hq⟩, _⟩ := id hc2
    refine ⟨_, (pss_cons (ps_set (i := 3) sc_l_refused.nd rfl (Or.inl rfl) (pe_lst pa_nil))
      (pss_cons (ps_try_as (i := 4) (tb := fun W => tDrop (tBM K "list" rAppend (tVar 3) (tCons (tOwnS C (spFloor C B) (WE W) (tVar 0) (tVar 1)) tNil))) (ts := fun a cls d => tSeq (tDrop (tBM K "list" rAppend (tVar 3) (tCons (tXf a cls d B "word" (tVar 4)) tNil))) (tIfS (tOr (tB (tCB (rIsD K a cls d) (tCons (tVar 4) (tCons (tC (.ref ce)) tNil)))) (tNot (tB (tCB (rIsD K a cls d) (tCons (tVar 4) (tCons (tC (.ty "ZeroDivisionError")) tNil)))))) (tRet (tC (.bl false))) tNext)) rfl rfl sc_l_refused.nd rfl rfl ⟨rfl, by decide, Or.inl XD.mg_⟩ takes0
          (fun W pn xe tk _ => pss_one (ps_expr (pe_bm PySem.F.plainAttrs_list PySem.F.slot_list_append PySem.F.type_list_append mt_append (pv 3) (pa_cons (pe_ownS (op := .FloorDiv) OFl.c OFl.ok hrFl OFl.b (fun σ => passAt tk σ) (pv 0) (pv 1)) pa_nil))))
          (fun a oe cls d pn hz hf => pss_cons (ps_expr (pe_bm PySem.F.plainAttrs_list PySem.F.slot_list_append PySem.F.type_list_append mt_append (pv 3) (pa_cons (pe_xf XF hno hz hf (pv 4)) pa_nil))) (pss_one (ps_if (PW.pt (pw_or (pt_val (pe_callB (call_isD hz hf) (by rfl) g.isinstance (by decide +kernel) (pa_cons (pv 4) (pa_cons (pe_glob (v := .ref ce) rfl mCE rfl) pa_nil)))) (pw_or1 (pt_not (pt_val (pe_callB (call_isD hz hf) (by rfl) g.isinstance (by decide +kernel) (pa_cons (pv 4) (pa_cons (pe_bltn (v := .ty "ZeroDivisionError") (by rfl) mZD (by decide +kernel) rfl) pa_nil)))))))) (pss_one (ps_ret pe_bl)) pss_nil))))
      (pss_cons (ps_try_as (i := 4) (tb := fun W => tDrop (tBM K "list" rAppend (tVar 3) (tCons (tOwnS C (spMod C B) (WE W) (tVar 0) (tVar 1)) tNil))) (ts := fun a cls d => (tDrop (tBM K "list" rAppend (tVar 3) (tCons (tXf a cls d B "word" (tVar 4)) tNil)))) rfl rfl sc_l_refused.nd rfl rfl ⟨rfl, by decide, Or.inl XD.mg_⟩ takes0
          (fun W pn xe tk _ => pss_one (ps_expr (pe_bm PySem.F.plainAttrs_list PySem.F.slot_list_append PySem.F.type_list_append mt_append (pv 3) (pa_cons (pe_ownS (op := .Mod) OMd.c OMd.ok hrMd OMd.b (fun σ => passAt tk σ) (pv 0) (pv 1)) pa_nil))))
          (fun a oe cls d pn hz hf => pss_one (ps_expr (pe_bm PySem.F.plainAttrs_list PySem.F.slot_list_append PySem.F.type_list_append mt_append (pv 3) (pa_cons (pe_xf XF hno hz hf (pv 4)) pa_nil)))))
      (pss_one (ps_ret (pe_and (pe_cmpR (op_eqD hr.units) (pv 3) (pe_lst (pa_cons (pv 2) (pa_cons (pv 2) pa_nil))) (nomark _)) (pe_one (pe_not (pe_call GLi hrLi rfl mLi FLi.kp bLi .nil pass0 (pa_cons (pe_ix ix_list (pv 3) pe_int (fun _ _ => rfl)) pa_nil)))))))))), ?_⟩
    refine ⟨by show 0 ≤ sizeLine; decide, fun L hL => ?_⟩
    have s1 : Same H (upd H L (.lst [])) := Same.new hL
    have g1 : (upd H L (.lst [])) L = some (.lst []) := upd_same
    generalize upd H L (.lst []) = H1 at s1 g1
    have hR1 := hR.non
    have hR2 := hR.neg
    refine ⟨_, rfl, .inl ⟨rfl, _, SqL.of g1⟩, _, rfl, _, rfl, p, q, dx, dx2, _, _, rfl, rfl, s1 _ _ hp, s1 _ _ hq, p, d, q, e, t, u, rfl, hc.same s1, hc2.same s1, hl, hl2, bt, bu, ?_⟩
    suffices hG : ∀ v', v' = v → NoD B H1 v' _ from ⟨fun e => hG .non (hR1 e).symm, fun ws ha hm z hz => hG (.str z) (hR2 ws ha hm z hz).symm, fun ne pos => (hR.not ne pos).elim⟩
    rintro v' rfl H2 dd s2 hdd
    refine ⟨true, XD.te, fun _ a ha => ?_, fun q => Bool.noConfusion q⟩
    have g2 := s2 _ _ g1
    have ndL : L ≠ dd := ne_of_none g2 hdd
    refine ⟨_, rfl, .inl ⟨rfl, _, SqL.of (by rw [upd_ne ndL]; exact g2)⟩, _, rfl, rfl, rfl, dd, _, _, rfl, upd_same, rfl, ?_⟩
    refine ⟨L, _, _, rfl, rfl, (upd_ne ndL).trans g2, by show 0 < sizeLine; decide, ?_⟩
    have hdx3 : (upd (upd H2 dd (.xd [(("word" : Str), v')])) L (.lst ([] ++ [v']))) dd = some (.xd [(("word" : Str), v')]) := by rw [upd_ne ndL.symm]; exact upd_same
    have g3 : (upd (upd H2 dd (.xd [(("word" : Str), v')])) L (.lst ([] ++ [v']))) L = some (.lst [v']) := upd_same
    have s3 : Same H (upd (upd H2 dd (.xd [(("word" : Str), v')])) L (.lst ([] ++ [v']))) := fun b o e => by
      rw [upd_ne (ne_of_none e hL), upd_ne (ne_of_none (s2 _ _ (s1 _ _ e)) hdd)]
      exact s2 _ _ (s1 _ _ e)
    generalize upd (upd H2 dd (.xd [(("word" : Str), v')])) L (.lst ([] ++ [v'])) = H3 at hdx3 g3 s3
    refine ⟨_, rfl, B, dd, _, _, _, _, EC, rfl, rfl, hdx3, rfl, fun _ q => q, k1, _, rfl, iteF ?_⟩
    refine ⟨_, rfl, B, dd, _, _, _, _, EC, rfl, rfl, hdx3, rfl, fun _ q => q, k2, _, rfl, iteF ?_⟩
    -- the second one
    refine ⟨_, rfl, .inl ⟨rfl, _, SqL.of g3⟩, _, rfl, _, rfl, p, q, dx, dx2, _, _, rfl, rfl, s3 _ _ hp, s3 _ _ hq, p, d, q, e, t, u, rfl, hc.same s3, hc2.same s3, hl, hl2, bt, bu, ?_⟩
    suffices hG : ∀ v2, v2 = v' → NoD B H3 v2 _ from ⟨fun e => hG .non (hR1 e).symm, fun ws ha hm z hz => hG (.str z) (hR2 ws ha hm z hz).symm, fun ne pos => (hR.not ne pos).elim⟩
    rintro v2 rfl H4 d2 s4 hd2
    refine ⟨true, XD.te, fun _ a2 ha2 => ?_, fun q => Bool.noConfusion q⟩
    have g4 := s4 _ _ g3
    have nd2 : L ≠ d2 := ne_of_none g4 hd2
    refine ⟨_, rfl, .inl ⟨rfl, _, SqL.of (by rw [upd_ne nd2]; exact g4)⟩, _, rfl, rfl, rfl, d2, _, _, rfl, upd_same, rfl, ?_⟩
    refine ⟨L, _, _, rfl, rfl, (upd_ne nd2).trans g4, by show 1 < sizeLine; decide, ?_⟩
    have g5 : (upd (upd H4 d2 (.xd [(("word" : Str), v2)])) L (.lst ([v2] ++ [v2]))) L = some (.lst [v2, v2]) := upd_same
    have s5 : Same H (upd (upd H4 d2 (.xd [(("word" : Str), v2)])) L (.lst ([v2] ++ [v2]))) := fun b o e => by
      rw [upd_ne (ne_of_none e hL), upd_ne (ne_of_none (s4 _ _ (s3 _ _ e)) hd2)]
      exact s4 _ _ (s3 _ _ e)
    generalize upd (upd H4 d2 (.xd [(("word" : Str), v2)])) L (.lst ([v2] ++ [v2])) = H5 at g5 s5
    -- return
    obtain ⟨dt, hdt, hsh, heq, hni⟩ := hR.dp (K := K)
    refine ⟨_, rfl, _, rfl, _, rfl, by show 2 ≤ sizeLine; decide, fun L2 hL2 => ?_⟩
    have s6 : Same H5 (upd H5 L2 (.lst [v2, v2])) := Same.new hL2
    have g6 : (upd H5 L2 (.lst [v2, v2])) L2 = some (.lst [v2, v2]) := upd_same
    generalize upd H5 L2 (.lst [v2, v2]) = H6 at s6 g6
    refine ⟨.list [dt, dt], .list [dt, dt], .lst (SqL.of (s6 _ _ g5)) (.cons (hdt _) (.cons (hdt _) .nil)), .lst (SqL.of g6) (.cons (hdt _) (.cons (hdt _) .nil)), hsh, hsh, _, rfl, ?_⟩
    rw [heq]
    refine iteT ?_
    refine ⟨_, rfl, L, _, 0, _, rfl, rfl, SqL.of (s6 _ _ g5), rfl, .inr ⟨_, rfl, hni _, _, rfl, ?_⟩⟩
    exact k H6 (s5.trans s6)
end
end Cs

set_option Elab.async false
set_option linter.all false
set_option maxRecDepth 100000
set_option maxHeartbeats 16000000
set_option pp.maxSteps 400
set_option exponentiation.threshold 2000
/-! The law of counts divided. -/
namespace Cs
open PySem L2
theorem val_sum : ∀ {l : Tab}, (keys l).Nodup → ∀ z, val l z = sumOf l z
  | [], _, _ => rfl
  | q :: l, h, z => by
    obtain ⟨h1, h2⟩ := List.nodup_cons.mp (show (q.1 :: keys l).Nodup from h)
    have e1 : sumOf (q :: l) z = (if q.1 = z then q.2 else 0) + sumOf l z := by
      unfold sumOf
      by_cases e : q.1 = z
      · rw [if_pos e]; simp [e]
      · rw [if_neg e]; simp [e]
    have e2 : val (q :: l) z = if q.1 = z then q.2 else val l z := by
      by_cases e : q.1 = z
      · rw [if_pos e]; simp [val, look, e]
      · rw [if_neg e]; simp [val, look, e]
    rw [e1, e2]
    by_cases e : q.1 = z
    · rw [if_pos e, if_pos e, ← val_sum h2, val_outK (by rw [← e]; exact h1)]
      omega
    · rw [if_neg e, if_neg e, val_sum h2]
      omega
/-- n is the greatest integer such that n times g is nowhere above f where g is not zero -/
def IsQ (f g : Str → Int) (n : Int) : Prop := (∀ z, g z ≠ 0 → n * g z ≤ f z) ∧ ∃ z, g z ≠ 0 ∧ f z < (n + 1) * g z
theorem isq_le {f g : Str → Int} {n m : Int} (hn : IsQ f g n) (hm : IsQ f g m) (pos : ∀ z, 0 ≤ g z) : n ≤ m := by
  obtain ⟨h1, _⟩ := hn
  obtain ⟨_, z, hz, h2⟩ := hm
  have a := h1 z hz
  have p := pos z
  by_cases c : n ≤ m
  · exact c
  · have : (m + 1) * g z ≤ n * g z := Int.mul_le_mul_of_nonneg_right (by omega) (by omega)
    omega
theorem isq_uniq {f g : Str → Int} {n m : Int} (hn : IsQ f g n) (hm : IsQ f g m) (pos : ∀ z, 0 ≤ g z) : n = m := Int.le_antisymm (isq_le hn hm pos) (isq_le hm hn pos)
theorem isq_bd {f g : Str → Int} {n : Int} (h : IsQ f g n) (pos : ∀ z, 0 ≤ g z) (hf : ∀ z, Bd (f z)) : n.natAbs ≤ 2 ^ 1000 := by
  obtain ⟨h1, z, hz, h2⟩ := h
  have a := h1 z hz
  have c := pos z
  have d : (f z).natAbs < 2 ^ 1000 := hf z
  generalize (2 : Nat) ^ 1000 = M at d ⊢
  by_cases n0 : 0 ≤ n
  · have e : n ≤ n * g z := by
      have := Int.mul_le_mul_of_nonneg_left (show (1 : Int) ≤ g z by omega) n0
      rw [Int.mul_one] at this
      exact this
    omega
  · have e : (n + 1) * g z ≤ n + 1 := by
      have := Int.mul_le_mul_of_nonpos_left (show n + 1 ≤ 0 by omega) (show (1 : Int) ≤ g z by omega)
      rw [Int.mul_one] at this
      exact this
    omega
theorem log_le {n : Int} {b : Nat} (h : n.natAbs < 2 ^ (b + 1)) : n.natAbs.log2 ≤ b := by
  by_cases c : n.natAbs = 0
  · rw [c]; exact Nat.le_trans (by decide : Nat.log2 0 ≤ 0) (Nat.zero_le _)
  · have := (Nat.log2_lt c).mpr h
    omega
theorem isq_log {f g : Str → Int} {n : Int} (h : IsQ f g n) (pos : ∀ z, 0 ≤ g z) (hf : ∀ z, Bd (f z)) : n.natAbs.log2 ≤ 1001 ∧ (n + 1).natAbs.log2 ≤ 1001 := by
  have b := isq_bd h pos hf
  have e : (2 : Nat) ^ (1001 + 1) = 2 ^ 1000 * 4 := rfl
  have p1 : 1 ≤ (2 : Nat) ^ 1000 := Nat.one_le_two_pow
  constructor
  · refine log_le ?_
    rw [e]
    generalize (2 : Nat) ^ 1000 = M at *
    omega
  · refine log_le ?_
    rw [e]
    generalize (2 : Nat) ^ 1000 = M at *
    omega
def spFloorC (C B : Addr) : Sp := fun vs H Q _ => spFloor C B vs H Q fun _ _ _ => False
def spModC (C B : Addr) : Sp := fun vs H Q _ => spMod C B vs H Q fun _ _ _ => False
section
variable {C B : Addr} {H : Hp} {p d q e : Addr} {F1 F2 : Str → Int} {n m : Nat} {Q : VK} {E : XK}
theorem quo_of {t u : Tab} (hu : Held u) (v1 : ∀ z, val t z = F1 z) (v2 : ∀ z, val u z = F2 z) {i : Int} (h : IsQuo (val t) (val u) (keys u) i) : IsQ F1 F2 i := by
  obtain ⟨h1, z, hz, h2⟩ := h
  refine ⟨fun y hy => ?_, z, ?_, ?_⟩
  · rw [← v1, ← v2]
    exact h1 y ((hu.keys_iff y).mpr (by rw [v2]; exact hy))
  · rw [← v2]; exact (hu.keys_iff z).mp hz
  · rw [← v1, ← v2]; exact h2
theorem no_neg {u : Tab} (v2 : ∀ z, val u z = F2 z) (pos : ∀ z, 0 ≤ F2 z) {ws : List Str} {z : Str} (h : firstNeg (val u) ws = some z) : False := by
  have b := List.find?_some h
  have b : val u z < 0 := by simpa using b
  have := pos z
  rw [← v2] at this
  omega
theorem cv_floor (h1 : Cv n C H p d F1) (h2 : Cv m C H q e F2) (hn : n ≤ 400) (hm : m ≤ 400) (b1 : ∀ z, Bd (F1 z)) (b2 : ∀ z, Bd (F2 z)) (pos : ∀ z, 0 ≤ F2 z) (ne : ∃ z, F2 z ≠ 0) (k : ∀ i H', Same H H' → IsQ F1 F2 i → Q (.int i) H') :
    rBinO C (spFloorC C B) E (.ref p) (.ref q) H Q := by
  obtain ⟨t, c1, l1, v1⟩ := h1
  obtain ⟨u, c2, l2, v2⟩ := h2
  obtain ⟨⟨dx, hp⟩, _⟩ := id c1
  obtain ⟨⟨dx2, hq⟩, _, hu, _⟩ := id c2
  refine ⟨p, q, dx, dx2, _, _, rfl, rfl, hp, hq, p, d, q, e, t, u, rfl, c1, c2, by omega, by omega, (fun z => by rw [v1]; exact b1 z), (fun z => by rw [v2]; exact b2 z), fun e0 => ?_, fun ws ha hm z hz => (no_neg v2 pos hz).elim, fun _ _ i H' s' hq => k i H' s' (quo_of hu v1 v2 hq)⟩
  obtain ⟨z, hz⟩ := ne
  subst e0
  exact (hz (v2 z).symm).elim
theorem cv_mod (h1 : Cv n C H p d F1) (h2 : Cv m C H q e F2) (hn : n ≤ 400) (hm : m ≤ 400) (b1 : ∀ z, Bd (F1 z)) (b2 : ∀ z, Bd (F2 z)) (pos : ∀ z, 0 ≤ F2 z) (ne : ∃ z, F2 z ≠ 0) {i : Int} (hi : IsQ F1 F2 i) (k : NewV (n + m) C H Q (fun z => F1 z - i * F2 z)) :
    rBinO C (spModC C B) E (.ref p) (.ref q) H Q := by
  obtain ⟨t, c1, l1, v1⟩ := h1
  obtain ⟨u, c2, l2, v2⟩ := h2
  obtain ⟨⟨dx, hp⟩, _⟩ := id c1
  obtain ⟨⟨dx2, hq⟩, _, hu, _⟩ := id c2
  refine ⟨p, q, dx, dx2, _, _, rfl, rfl, hp, hq, p, d, q, e, t, u, rfl, c1, c2, by omega, by omega, (fun z => by rw [v1]; exact b1 z), (fun z => by rw [v2]; exact b2 z), fun e0 => ?_, fun ws ha hm z hz => (no_neg v2 pos hz).elim, fun _ _ i2 hq => ?_⟩
  · obtain ⟨z, hz⟩ := ne
    subst e0
    exact (hz (v2 z).symm).elim
  · obtain rfl := isq_uniq (quo_of hu v1 v2 hq) hi pos
    intro r e3 H' x hr he s' hc hv hl
    refine k r e3 H' hr he s' ⟨x, hc, by omega, fun z => ?_⟩
    rw [hv]
    dsimp only
    rw [v1, v2]
end
end Cs

set_option Elab.async false
set_option linter.all false
set_option maxRecDepth 100000
set_option maxHeartbeats 16000000
set_option pp.maxSteps 400
/-! The law of counts divided: the law itself. -/
namespace Cs
open PySem L2
theorem prl_items {H : Hp} : ∀ {nt : Tab} {ts : List Addr}, Paired (fun (t : Addr) (q : Key × V) => H t = some (.tup [kV q.1, q.2])) ts (tv nt) → PrL H (ts.map V.ref) nt
  | [], [], .nil => .nil
  | q :: nt, t :: ts, .cons h r => .cons ⟨t, rfl, h⟩ (prl_items r)
theorem refu_of {t u : Tab} {ws : List Str} {v : V} (ht : Held t) (hu : Held u) (e : ∀ z, val t z = val u z) (hw : ∀ z ∈ keys u, Word z) (ha : Asc ws) (hm : ∀ z, z ∈ ws ↔ z ∈ keys u) (h : dueL u ws = [v]) : Refu t v := by
  have hk : ∀ z, z ∈ keys t ↔ z ∈ keys u := fun z => by rw [ht.keys_iff, hu.keys_iff, e]
  have ef : val t = val u := funext e
  unfold dueL at h
  cases hf : firstNeg (val u) ws with
  | some z =>
    rw [hf] at h
    obtain rfl : V.str z = v := (List.cons.inj h).1
    exact .inr ⟨ws, z, ha, fun y => (hm y).trans (hk y).symm, fun y hy => hw y ((hm y).mp hy), by rw [ef]; exact hf, rfl⟩
  | none =>
    rw [hf] at h
    by_cases c : u = []
    · have h : (if u = [] then [V.non] else []) = [v] := h
      rw [if_pos c] at h
      obtain rfl : V.non = v := (List.cons.inj h).1
      refine .inl ⟨?_, rfl⟩
      cases t with
      | nil => rfl
      | cons r r' =>
        have := (hk r.1).mp List.mem_cons_self
        rw [c] at this
        cases this
    · have h : (if u = [] then [V.non] else []) = [v] := h
      rw [if_neg c] at h
      cases h
theorem Refu.dp1 {K : PySem.W.Frag} {u : Tab} {v : V} (h : Refu u v) : ∃ d, (∀ H, Dp K H v d) ∧ SeqAt.shaped (.list [d]) = true := by
  rcases h with ⟨_, rfl⟩ | ⟨ws2, z2, ha2, hm2, hw, hf, rfl⟩
  · exact ⟨.none, fun _ => .non, by decide⟩
  · have hz := hw z2 (List.mem_of_find?_eq_some hf)
    have e : (PyData.list [.str z2]) = pds [z2] := rfl
    have hz2 : ∀ z ∈ [z2], Word z := fun z hz' => by
      have : z = z2 := by simpa using hz'
      rw [this]; exact hz
    exact ⟨.str z2, fun _ => .str _, by rw [e]; exact pds_shaped hz2⟩
theorem due_nil {u : Tab} {ws : List Str} (hm : ∀ z, z ∈ ws ↔ z ∈ keys u) (hu : Held u) (h : ¬ ∃ v, dueL u ws = [v]) : dueL u ws = [] ∧ (∀ z, 0 ≤ val u z) ∧ ∃ z, val u z ≠ 0 := by
  unfold dueL at h ⊢
  cases hf : firstNeg (val u) ws with
  | some z => exact absurd ⟨_, by rw [hf]⟩ h
  | none =>
    by_cases c : u = []
    · exact absurd ⟨.non, by rw [hf]; exact if_pos c⟩ h
    · refine ⟨if_neg c, fun z => ?_, ?_⟩
      · by_cases hz : z ∈ keys u
        · have := List.find?_eq_none.mp hf z ((hm z).mpr hz)
          have : ¬ val u z < 0 := by simpa using this
          omega
        · rw [val_outK hz]; exact Int.le_refl 0
      · cases u with
        | nil => exact absurd rfl c
        | cons q r => exact ⟨q.1, (hu.keys_iff q.1).mp List.mem_cons_self⟩
section
variable {P : Program} {w : World} {K : PySem.W.Frag} {mg : Str → Option Value} {base : Heap}
theorem ok_law {C B f fI fS fP fMo qO fO fDv fDu fRf fFi fEq fFl fMd fLi fAd fMu fRm fOn fEe fBo : Addr} {fd fdS fdP fdMo fdDv fdDu fdRf fdFi fdEq fdFl fdMd fdLi fdAd fdMu fdRm fdEe fdBo : FuncData} {mc : Value} (F : Fun K "law" "law" s_law f fd) (g : Bi mg) (T : CT P w K mg base C fI)
    (FS : Def P w K mg base CX0 1 "_law_source" ["_law_script"] (spSource K) fS fdS)
    (FP : Def P w K mg base CX0 4 "_law_pairs" ["_law_source_here", "_law_most"] spPairs fP fdP) (FMo : Def P w K mg base CX0 1 "_law_model" ["_law_pairs_here"] spModel fMo fdMo)
    (MOf : KDef P w K mg base CX0 4 C mc "of" (spOf K C) qO fO) (FDv : Def P w K mg base CX0 4 "_law_divisor" ["_law_source_here", "_law_pairs_here"] spDivisor fDv fdDv) (FDu : Def P w K mg base CX0 2 "_law_due" ["_law_divisor_here"] spDue fDu fdDu)
    (FRf : Def P w K mg base CX0 6 "_law_refused" ["_law_counts", "_law_divisor_here", "_law_word_here"] (spRefused C) fRf fdRf) (FFi : Def P w K mg base CX0 1 "_law_fits" ["_law_times", "_law_model_here", "_law_divisor_here"] spFits fFi fdFi)
    (FEq : Def P w K mg base CX0 4 "_law_equal" ["_law_counts", "_law_model_here"] (spEqual C) fEq fdEq) (FLi : Def P w K mg base CX0 1 "_law_is_integer" ["_law_thing"] (spIsInteger K) fLi fdLi)
    (OFl : ODef P w K mg base CX0 4 C (PySem.dunder "floordiv") ["self", "other"] (spFloorC C B) fFl fdFl) (OMd : ODef P w K mg base CX0 5 C (PySem.dunder "mod") ["self", "other"] (spModC C B) fMd fdMd)
    (OAd : ODef P w K mg base CX0 4 C (PySem.dunder "add") ["self", "other"] (spBin C fun a b => a + b) fAd fdAd)
    (OMu : TDef P w K mg base CX0 3 C "mul" ["self", "times"] (spMul C) fMu fRm fdMu) (ORmo : FnOk P w K mg base CX0 4 fRm fdRm ["self", "times"] (spMul C)) (ORmb : Binds K fdRm ["self", "times"] [])
    (MOn : RDef P w K mg base CX0 4 C "only" (spOnly C) fOn) (MBo : SDef P w K mg base CX0 1 C "__bool__" ["self"] (spBool C) fBo fdBo)
    (Ee : EDef P w K mg base CX0 1 C ["self", "other"] (spEq C) fEe fdEe) :
    FnOk P w K mg base CX0 7 f fd ["_law_script"] (spLaw K) := by
  obtain ⟨GS, mS, _, bS⟩ := id FS
  obtain ⟨GP, mP, _, bP⟩ := id FP
  obtain ⟨GMo, mMo, _, bMo⟩ := id FMo
  obtain ⟨GDv, mDv, _, bDv⟩ := id FDv
  obtain ⟨GDu, mDu, _, bDu⟩ := id FDu
  obtain ⟨GRf, mRf, _, bRf⟩ := id FRf
  obtain ⟨GFi, mFi, _, bFi⟩ := id FFi
  obtain ⟨GEq, mEq, _, bEq⟩ := id FEq
  obtain ⟨GLi, mLi, _, bLi⟩ := id FLi
  refine F.ok sc_law (fun vs H Q E h => ?_) (fun cdv A outer s H vs Q E hr h => ?_)
  · obtain ⟨_, _, rfl, _⟩ := h
    rfl
  · obtain ⟨a, ns, rfl, hS, hlen, k⟩ := h
    have hrS : Room 1 _ := hr.mono (by decide)
    have hrP : Room 4 _ := hr.mono (by decide)
    have hrMo : Room 1 _ := hr.mono (by decide)
    have hrOf : Room 4 _ := hr.mono (by decide)
    have hrDv : Room 4 _ := hr.mono (by decide)
    have hrDu : Room 2 _ := hr.mono (by decide)
    have hrRf : Room 6 _ := hr.mono (by decide)
    have hrFi : Room 1 _ := hr.mono (by decide)
    have hrEq : Room 4 _ := hr.mono (by decide)
    have hrLi : Room 1 _ := hr.mono (by decide)
    have hrFl : Room 4 _ := hr.mono (by decide)
    have hrMd : Room 5 _ := hr.mono (by decide)
    have hrAd : Room 4 _ := hr.mono (by decide)
    have hrMu : Room 3 _ := hr.mono (by decide)
    have hrRm : Room 4 _ := hr.mono (by decide)
    have hrOn : Room 4 _ := hr.mono (by decide)
    have hrI : Room 2 _ := hr.mono (by decide)
    have hrBo : Room 1 _ := hr.mono (by decide)
    have hrEe : Room 2 _ := hr.mono (by decide)
    have hu := hu_of hr
    refine ⟨_, (pss_cons (ps_set (i := 1) sc_law.nd rfl (Or.inl rfl) (pe_call GS hrS rfl mS FS.kp bS .nil pass0 (pa_cons (pv 0) pa_nil)))
      (pss_cons (ps_set (i := 2) sc_law.nd rfl (Or.inl rfl) (pe_call GP hrP rfl mP FP.kp bP .nil pass0 (pa_cons (pv 1) (pa_cons pe_int pa_nil))))
      (pss_cons (ps_set (i := 3) sc_law.nd rfl (Or.inl rfl) (pe_call GMo hrMo rfl mMo FMo.kp bMo .nil pass0 (pa_cons (pv 2) pa_nil)))
      (pss_cons (ps_set (i := 4) sc_law.nd rfl (Or.inl rfl) (pe_call GDv hrDv rfl mDv FDv.kp bDv .nil pass0 (pa_cons (pv 1) (pa_cons (pv 2) pa_nil))))
      (pss_cons (ps_set (i := 5) sc_law.nd rfl (Or.inl rfl) (ClX.pe_cmeth (pe_glob (v := .ref C) rfl T.mgC rfl) MOf.r MOf.c MOf.ok hrOf pass0 (pa_cons (pv 2) pa_nil)))
      (pss_cons (ps_set (i := 6) sc_law.nd rfl (Or.inl rfl) (ClX.pe_cmeth (pe_glob (v := .ref C) rfl T.mgC rfl) MOf.r MOf.c MOf.ok hrOf pass0 (pa_cons (LiI.pe_listItems rfl (pv 4) (by rfl) g.list (by decide +kernel)) pa_nil)))
      (pss_cons (ps_set (i := 7) sc_law.nd rfl (Or.inl rfl) (pe_call GDu hrDu rfl mDu FDu.kp bDu .nil pass0 (pa_cons (pv 4) pa_nil)))
      (pss_cons (ps_if (pt_cmpR (op_neD hr.units) (pv 7) (pe_lst pa_nil) (nomark _)) (pss_cons (ps_if (pt_not (pt_val (pe_call GRf hrRf rfl mRf FRf.kp bRf .nil pass0 (pa_cons (pv 5) (pa_cons (pv 6) (pa_cons (pe_ix ix_list (pv 7) pe_int (fun _ _ => rfl)) pa_nil)))))) (pss_one (ps_ret pe_bl)) pss_nil)
      (pss_one (ps_ret (pe_and (pe_call GEq hrEq rfl mEq FEq.kp bEq .nil pass0 (pa_cons (pv 5) (pa_cons (pv 3) pa_nil))) (pe_one (pe_call GEq hrEq rfl mEq FEq.kp bEq .nil pass0 (pa_cons (pv 6) (pa_cons (pv 4) pa_nil)))))))) pss_nil)
      (pss_cons (ps_set (i := 8) sc_law.nd rfl (Or.inl rfl) (pe_op (op_own OFl.c OFl.ok hrFl OFl.b pass0) (pv 5) (pv 6)))
      (pss_cons (ps_if (PW.pt (pw_or (pt_not (pt_val (pe_call GLi hrLi rfl mLi FLi.kp bLi .nil pass0 (pa_cons (pv 8) pa_nil)))) (pw_or1 (pt_not (pt_val (pe_call GFi hrFi rfl mFi FFi.kp bFi .nil pass0 (pa_cons (pv 8) (pa_cons (pv 3) (pa_cons (pv 4) pa_nil))))))))) (pss_one (ps_ret pe_bl)) pss_nil)
      (pss_cons (ps_if (pt_val (pe_call GFi hrFi rfl mFi FFi.kp bFi .nil pass0 (pa_cons (pe_op op_add (pv 8) pe_int) (pa_cons (pv 3) (pa_cons (pv 4) pa_nil))))) (pss_one (ps_ret pe_bl)) pss_nil)
      (pss_cons (ps_set (i := 9) sc_law.nd rfl (Or.inl rfl) pe_dnewK)
      (pss_cons (ps_for PassesOwn.never rfl (pi_list (pe_op op_cat (pe_callTy (call_listD rfl) (by rfl) g.list (by decide +kernel) (pa_cons (pv 3) pa_nil)) (pe_callTy (call_listD rfl) (by rfl) g.list (by decide +kernel) (pa_cons (pv 4) pa_nil)))) (pg_name (i := 10) sc_law.nd rfl (Or.inl rfl)) (pss_one (ps_dput hu (pv 9) (pv 10) (pe_op op_sub (pe_dget2 hu (pv 3) (pv 10) pe_int ⟨rfl, rfl, rfl, rfl⟩) (pe_op op_mulW (pv 8) (pe_dget2 hu (pv 4) (pv 10) pe_int ⟨rfl, rfl, rfl, rfl⟩))) rfl)))
      (pss_cons (ps_if (PW.pt (pw_or (pt_not (pt_val (pe_call GEq hrEq rfl mEq FEq.kp bEq .nil pass0 (pa_cons (pe_op (op_own OMd.c OMd.ok hrMd OMd.b pass0) (pv 5) (pv 6)) (pa_cons (pv 9) pa_nil))))) (pw_or1 (pt_cmpR (op_neO Ee.c Ee.ok hrEe Ee.b pass0) (pe_op (op_own OAd.c OAd.ok hrAd OAd.b pass0) (pe_op (op_mulR OMu.c OMu.i1 OMu.i2 ORmo hrRm ORmb pass0) (pv 8) (pv 6)) (pe_op (op_own OMd.c OMd.ok hrMd OMd.b pass0) (pv 5) (pv 6))) (pv 5) (nomark _))))) (pss_one (ps_ret pe_bl)) pss_nil)
      (pss_cons (ps_if (PW.pt (pw_or (pt_not (pt_val (pe_call GRf hrRf rfl mRf FRf.kp bRf .nil pass0 (pa_cons (pv 5) (pa_cons (pe_mkR0 T.mke T.ini hrI rfl T.mgC pass0) (pa_cons pe_non pa_nil)))))) (pw_or1 (pt_not (pt_val (pe_call GRf hrRf rfl mRf FRf.kp bRf .nil pass0 (pa_cons (pv 6) (pa_cons (pe_methR0 (pv 5) T.cl MOn.me MOn.ok hrOn pass0) (pa_cons pe_non pa_nil))))))))) (pss_one (ps_ret pe_bl)) pss_nil)
      (pss_one (ps_ret (pe_and (pe_call GEq hrEq rfl mEq FEq.kp bEq .nil pass0 (pa_cons (pv 5) (pa_cons (pv 3) pa_nil))) (pe_and (pe_call GEq hrEq rfl mEq FEq.kp bEq .nil pass0 (pa_cons (pv 6) (pa_cons (pv 4) pa_nil))) (pe_and (pe_cmpR op_eq (pe_op (op_own OFl.c OFl.ok hrFl OFl.b pass0) (pv 6) (pv 6)) pe_int (nomark _)) (pe_one (pe_notO MBo.c MBo.ok hrBo MBo.b pass0 (pe_op (op_own OMd.c OMd.ok hrMd OMd.b pass0) (pv 6) (pv 6)))))))))))))))))))))))), ?_⟩
    refine ⟨_, rfl, a, ns, rfl, hS, fun p c H1 hp hc s1 S1 => ?_⟩
    refine ⟨_, rfl, p, c, 8, rfl, S1, by decide, by decide, fun q1 H2 xs1 ps1 hq1 h1 hP1 hG1 hl1 S2 k2 => ?_⟩
    have nq1p : q1 ≠ p := S1.new_p hq1
    have b1 : ∀ z, Bd (sumOf ps1 z) := fun z => sumOf_bd hG1 (by omega) z
    refine ⟨_, rfl, q1, xs1, ps1, rfl, h1, hP1, fun r hr' => (hG1 r hr').1, by omega, fun m1 H3 hm1 s3 M1 => ?_⟩
    have S3 := S2.same s3
    have V1 : Mv 8 H3 m1 (sumOf ps1) := ⟨_, M1, by have := addUp_len ps1; omega, fun z => addUp_val z ps1⟩
    have nm1p : m1 ≠ p := S2.new_p hm1
    have h13 := s3 _ _ h1
    have hP13 : PrL H3 xs1 ps1 := hP1.mono fun _ _ _ e => s3 _ _ e
    refine ⟨_, rfl, _, rfl, p, c, q1, xs1, ps1, rfl, S3, h13, nq1p, hP13, hG1, by omega, fun m2 H4 u hm2 M2 hul hug S4 k4 => ?_⟩
    have M14 : Mdl H4 m1 (addUp ps1) := ⟨k4 _ _ M1.dc nm1p, M1.nd, M1.wd⟩
    have nm12 : m1 ≠ m2 := ne_of_none M1.dc hm2
    have h14 := k4 _ _ h13 nq1p
    have hP14 : PrL H4 xs1 ps1 := hP13.mono fun t _ _ e => k4 _ _ e (S3.tup_p e)
    have hu2 : Held u := ⟨M2.nd, fun q hq => (hug q hq).2⟩
    have hGu : GoodPs u := fun q hq => ⟨M2.wd _ (List.mem_map.mpr ⟨q, hq, rfl⟩), (hug q hq).1⟩
    have b2 : ∀ z, Bd (val u z) := fun z => by rw [val_sum M2.nd]; exact sumOf_bd hGu (by omega) z
    -- the two counts
    refine ⟨rfl, _, rfl, q1, xs1, ps1, rfl, h14, hP14, hG1, by omega, NewV.of fun r1 d1 H5 hr1 hd1 s5 C1 => ?_⟩
    have C1 : Cv 8 C H5 r1 d1 (sumOf ps1) := C1.up (by omega)
    have M2' := M2.same s5
    refine ⟨rfl, _, rfl, m2, _, rfl, M2'.dc, fun H6 pl ts k6 hpl hts hni h6 hpr => ?_⟩
    have s6 : Same H5 H6 := k6
    refine ⟨pl, _, u, rfl, h6, prl_items hpr, hGu, by omega, NewV.of fun r2 d2 H7 hr2 hd2 s7 C2 => ?_⟩
    have C2 : Cv 4 C H7 r2 d2 (val u) := (C2.up (by omega)).congr fun z => (val_sum M2.nd z).symm
    have s67 := s6.trans s7
    have C1 := C1.same s67
    have s57 := s5.trans s67
    have M1 := M14.same s57
    have M2 := M2.same s57
    have nd12 : d1 ≠ d2 := fun z => by
      obtain ⟨o, ho⟩ := (show ∃ o, H5 d1 = some (.dK o) from (by obtain ⟨t, ct, _⟩ := (‹Cv 8 C H5 r1 d1 (sumOf ps1)›); exact ⟨_, ct.dc⟩))
      rw [z] at ho
      have := s6 _ _ ho
      rw [hd2] at this
      cases this
    clear h1 h13 h14 hP1 hP13 hP14 M14 s3 s5 s6 s7 s57 s67 k2 k4 k6 S1 S2 S3 V1 hpr h6 M2'
    refine ⟨_, rfl, m2, u, rfl, M2, by omega, fun q hq => (hug q hq).2, fun ws D H8 ha hm s8 hD => ?_⟩
    have C1 := C1.same s8
    have C2 := C2.same s8
    have M1 := M1.same s8
    have M2 := M2.same s8
    have V1 : Mv 8 H8 m1 (sumOf ps1) := ⟨_, M1, by have := addUp_len ps1; omega, fun z => addUp_val z ps1⟩
    have V2 : Mv 4 H8 m2 (val u) := ⟨_, M2, hul, fun _ => rfl⟩
    refine ⟨_, rfl, by show 0 ≤ sizeLine; decide, fun L0 hL0 => ?_⟩
    have s9 : Same H8 (upd H8 L0 (.lst [])) := Same.new hL0
    have g9 : (upd H8 L0 (.lst [])) L0 = some (.lst []) := upd_same
    generalize upd H8 L0 (.lst []) = H9 at s9 g9
    have hD9 := s9 _ _ hD
    have C1 := C1.same s9
    have C2 := C2.same s9
    have M1 := M1.same s9
    have M2 := M2.same s9
    have V1 := V1.same s9
    have V2 := V2.same s9
    have p8 : (8 : Nat) ≤ 400 := by decide
    by_cases hd0 : ∃ v, dueL u ws = [v]
    · obtain ⟨v, hv⟩ := hd0
      rw [hv] at hD9
      obtain ⟨t1, c1, l1, v1⟩ := id C1
      obtain ⟨t2, c2, l2, v2⟩ := id C2
      have hR : Refu t2 v := refu_of c2.hd hu2 v2 M2.wd ha hm hv
      obtain ⟨dt, hdt, hsh⟩ := hR.dp1 (K := K)
      refine ⟨.list [dt], .list [], .lst (SqL.of hD9) (.cons (hdt _) .nil), .lst (SqL.of g9) .nil, hsh, by decide, _, rfl, ?_⟩
      rw [show PyData.eqv (.list [dt]) (.list []) = false by simp [PyData.eqv, PyData.eqvAll]]
      refine iteT ?_
      refine ⟨_, rfl, _, rfl, _, rfl, D, _, 0, v, rfl, rfl, SqL.of hD9, rfl, r1, d1, r2, d2, t1, t2, v, rfl, c1, c2, by omega, by omega, (fun z => by rw [v1]; exact b1 z), (fun z => by rw [v2]; exact b2 z), hR, fun H10 s10 => ⟨_, rfl, iteF ?_⟩⟩
      refine ⟨_, rfl, _, rfl, tNil_it ?_⟩
      refine cv_equal (C1.same s10) (V1.same s10) (by decide) (by decide) (fun _ => rfl) fun H11 s11 => ⟨_, rfl, iteT ?_⟩
      refine ⟨_, rfl, _, rfl, tNil_it ?_⟩
      exact cv_equal ((C2.same s10).same s11) ((V2.same s10).same s11) (by decide) (by decide) (fun _ => rfl) fun H12 s12 => k H12
    obtain ⟨hd1, pos, ne⟩ := due_nil hm hu2 hd0
    rw [hd1] at hD9
    refine ⟨.list [], .list [], .lst (SqL.of hD9) .nil, .lst (SqL.of g9) .nil, by decide, by decide, _, rfl, ?_⟩
    rw [show PyData.eqv (.list []) (.list []) = true by simp [PyData.eqv, PyData.eqvAll]]
    refine iteF ?_
    clear hD hD9 g9 hd0 hd1 hL0 s8
    refine ⟨_, rfl, _, rfl, cv_floor C1 C2 (by decide) (by decide) b1 b2 pos ne fun n H10 s10 hn => ?_⟩
    obtain ⟨lg1, lg2⟩ := isq_log hn pos b1
    have lgu : ∀ z, (val u z).natAbs.log2 ≤ 1000 := fun z => log_of (b2 z)
    have C1 := C1.same s10
    have C2 := C2.same s10
    have M1 := M1.same s10
    have M2 := M2.same s10
    have V1 := V1.same s10
    have V2 := V2.same s10
    refine ⟨_, rfl, .inl ⟨n, rfl, _, rfl, iteF ?_⟩⟩
    refine ⟨_, rfl, _, rfl, _, rfl, n, m1, m2, _, u, rfl, M1, M2, nm12, by omega, (fun z => by have := lgu z; omega), fun H11 s11 => ?_⟩
    rw [decide_eq_true (show ∀ z ∈ keys u, n * val u z ≤ val (addUp ps1) z from fun z hz => by rw [addUp_val]; exact hn.1 z ((hu2.keys_iff z).mp hz))]
    refine ⟨_, rfl, iteF ?_⟩
    refine ⟨_, rfl, _, _, rfl, rfl, _, rfl, _, rfl, n + 1, m1, m2, _, u, rfl, M1.same s11, M2.same s11, nm12, by omega, (fun z => by have := lgu z; omega), fun H12 s12 => ?_⟩
    rw [decide_eq_false (show ¬ ∀ z ∈ keys u, (n + 1) * val u z ≤ val (addUp ps1) z from fun hh => by
      obtain ⟨_, z, hz, hlt⟩ := hn
      have := hh z ((hu2.keys_iff z).mpr hz)
      rw [addUp_val] at this
      omega)]
    refine ⟨_, rfl, iteF ?_⟩
    have s02 := s11.trans s12
    have C1 := C1.same s02
    have C2 := C2.same s02
    have M1 := M1.same s02
    have M2 := M2.same s02
    have V1 := V1.same s02
    have V2 := V2.same s02
    -- the rest
    refine fun m3 hm3 => ?_
    have t1 : Same H12 (upd H12 m3 (.dK [])) := Same.new hm3
    have he1 : (upd H12 m3 (.dK [])) m3 = some (.dK []) := upd_same
    generalize upd H12 m3 (.dK []) = J1 at t1 he1
    have M1 := M1.same t1
    have M2 := M2.same t1
    refine ⟨_, rfl, m1, _, rfl, .inl M1.dc, fun l1 hl1' => ?_⟩
    have t2 : Same J1 (upd J1 l1 (.lst ((tv (addUp ps1)).map fun kv => kV kv.1))) := Same.new hl1'
    refine ⟨_, rfl, m2, _, rfl, .inl (t2 _ _ M2.dc), fun l2 hl2' => ?_⟩
    rw [tv_keys, tv_keys] at *
    have t3 : Same (upd J1 l1 (.lst ((keys (addUp ps1)).map V.str))) (upd (upd J1 l1 (.lst ((keys (addUp ps1)).map V.str))) l2 (.lst ((keys u).map V.str))) := Same.new hl2'
    have hau : (addUp ps1).length ≤ 8 := by have := addUp_len ps1; omega
    refine ⟨l1, l2, _, _, rfl, rfl, t3 _ _ upd_same, upd_same, ?_, fun l3 hl3 => ?_⟩
    · rw [List.length_map, List.length_map, keys_len, keys_len]
      exact Nat.le_trans (show (addUp ps1).length + u.length ≤ 1000 by omega) (by decide)
    rw [← List.map_append]
    have t4 : Same (upd (upd J1 l1 (.lst ((keys (addUp ps1)).map V.str))) l2 (.lst ((keys u).map V.str))) (upd (upd (upd J1 l1 (.lst ((keys (addUp ps1)).map V.str))) l2 (.lst ((keys u).map V.str))) l3 (.lst ((keys (addUp ps1) ++ keys u).map V.str))) := Same.new hl3
    have t14 := (t2.trans t3).trans t4
    have g4 : (upd (upd (upd J1 l1 (.lst ((keys (addUp ps1)).map V.str))) l2 (.lst ((keys u).map V.str))) l3 (.lst ((keys (addUp ps1) ++ keys u).map V.str))) l3 = some (.lst ((keys (addUp ps1) ++ keys u).map V.str)) := upd_same
    generalize upd (upd (upd J1 l1 (.lst ((keys (addUp ps1)).map V.str))) l2 (.lst ((keys u).map V.str))) l3 (.lst ((keys (addUp ps1) ++ keys u).map V.str)) = J4 at t14 g4
    clear t2 t3 t4 hl1' hl2' hl3
    have t04 := t1.trans t14
    have he4 := t14 _ _ he1
    have M1 := M1.same t14
    have M2 := M2.same t14
    have hwl : (keys (addUp ps1) ++ keys u).length = (addUp ps1).length + u.length := by rw [List.length_append, keys_len, keys_len]
    have hww : ∀ z ∈ keys (addUp ps1) ++ keys u, Word z := fun z hz => (List.mem_append.mp hz).elim (M1.wd z) (M2.wd z)
    have hG0 : ∀ z, z ∉ keys (addUp ps1) ++ keys u → sumOf ps1 z - n * val u z = 0 := fun z hz => by
      rw [← addUp_val, val_outK fun q => hz (List.mem_append.mpr (.inl q)), val_outK fun q => hz (List.mem_append.mpr (.inr q))]
      simp
    have nm13 : m1 ≠ m3 := ne_of_none (show H12 m1 = _ from V1.at.choose_spec) hm3
    have nm23 : m2 ≠ m3 := ne_of_none (show H12 m2 = _ from V2.at.choose_spec) hm3
    generalize keys (addUp ps1) ++ keys u = wz at g4 hwl hww hG0
    refine ⟨l3, rfl, ⟨_, SqL.of g4⟩, for_list (K := K) (a := l3) (xs := wz.map V.str) (fun i σ' H' => ∃ x10 : Option V, σ' = [some (.ref a), some (.ref p), some (.ref q1), some (.ref m1), some (.ref m2), some (.ref r1), some (.ref r2), some (.ref D), some (.int n), some (.ref m3), x10] ∧ (∀ b o, J4 b = some o → b ≠ m3 → H' b = some o) ∧ H' m3 = some (.dK (tv (byT (fun z => sumOf ps1 z - n * val u z) (wz.take i)))))
      ⟨_, rfl, fun _ _ q _ => q, he4⟩ (fun i σ' H' _ ⟨_, _, h, _⟩ => SqL.of (h _ _ g4 (ne_of g4 he4 (by intro z; cases z)))) ?_ ?_⟩
    · rintro i y σ' H' hy ⟨x10, rfl, k1, k2⟩
      have hi : i < wz.length := by
        have := (List.getElem?_eq_some_iff.mp hy).1
        rw [List.length_map] at this
        exact this
      rw [List.getElem?_map, List.getElem?_eq_getElem hi] at hy
      obtain rfl := Option.some.inj hy
      have e1 := k1 _ _ M1.dc nm13
      have e2 := k1 _ _ M2.dc nm23
      refine ⟨_, rfl, m1, rfl, .inl ⟨_, .inl e1⟩, _, rfl, _, DGet.k (k := Sum.inr wz[i]) e1, ?_⟩
      refine ⟨_, rfl, _, rfl, m2, rfl, .inl ⟨_, .inl e2⟩, _, rfl, _, DGet.k (k := Sum.inr wz[i]) e2, ?_⟩
      refine ⟨n, val u wz[i], rfl, (by rw [tv_val]; exact val_getD _ _), (by have := lgu wz[i]; show _ < 1000000; omega), val (addUp ps1) wz[i], _, (by rw [tv_val]; exact val_getD _ _), rfl, ?_⟩
      refine ⟨_, rfl, _, rfl, m3, _, rfl, DPut.k (k := Sum.inr wz[i]) k2 ?_, ?_⟩
      · rw [tv_len]
        have h1 := byT_len (fun z => sumOf ps1 z - n * val u z) (wz.take i)
        rw [List.length_take] at h1
        exact Nat.lt_of_le_of_lt (show (byT (fun z => sumOf ps1 z - n * val u z) (wz.take i)).length ≤ 1000 by omega) (by decide)
      · refine ⟨_, rfl, fun b o q n => by rw [upd_ne n]; exact k1 b o q n, ?_⟩
        rw [upd_same, tv_put, List.take_succ, List.getElem?_eq_getElem hi]
        show some (HO.dK (tv (put (byT _ (wz.take i)) wz[i] _))) = some (HO.dK (tv (byT _ (wz.take i ++ [wz[i]]))))
        rw [byT_snoc, addUp_val]
    rintro σ' J5 ⟨x10, rfl, k1, k2⟩
    rw [List.length_map, List.take_length] at k2
    have t05 : Same H12 J5 := fun b o e => k1 b o (t04 b o e) (ne_of_none e hm3)
    have V3 : Mv 12 J5 m3 (fun z => sumOf ps1 z - n * val u z) := ⟨_, ⟨k2, byT_nd _ _, fun z hz => hww z ((byT_keys _ z wz).mp hz)⟩, by have := byT_len (fun z => sumOf ps1 z - n * val u z) wz; omega, fun z => by
      rw [byT_val]
      by_cases c : z ∈ wz
      · rw [if_pos c]
      · rw [if_neg c]; exact (hG0 z c).symm⟩
    have C1 := C1.same t05
    have C2 := C2.same t05
    have V1 := V1.same t05
    have V2 := V2.same t05
    clear M1 M2 k1 k2 t04 t14 t1 he1 he4 g4 hww hG0 hwl t05 hm3
    refine ⟨_, rfl, _, rfl, cv_mod C1 C2 (by decide) (by decide) b1 b2 pos ne hn fun r3 e3 J6 _ _ u6 C3 => ?_⟩
    refine ⟨_, rfl, tNil_it ?_⟩
    refine cv_equal C3 (V3.same u6) (by decide) (by decide) (fun _ => rfl) fun J7 u7 => ⟨_, rfl, iteF ?_⟩
    have u67 := u6.trans u7
    have C1 := C1.same u67
    have C2 := C2.same u67
    have V1 := V1.same u67
    have V2 := V2.same u67
    refine ⟨_, rfl, _, rfl, cv_mulR C2 (by decide) (fun z => by have := lgu z; omega) fun r4 e4 J8 _ _ u8 C4 => ?_⟩
    refine ⟨_, rfl, _, rfl, cv_mod (C1.same u8) (C2.same u8) (by decide) (by decide) b1 b2 pos ne hn fun r5 e5 J9 _ _ u9 C5 => ?_⟩
    refine cv_bin (C4.same u9) C5 (by decide) (by decide) fun r6 e6 J10 _ _ u10 C6 => ?_
    have u80 := (u8.trans u9).trans u10
    refine ⟨_, rfl, cv_ne C6 (C1.same u80) (fun z => by omega) ⟨_, rfl, iteF ?_⟩⟩
    have C1 := C1.same u80
    have C2 := C2.same u80
    have V1 := V1.same u80
    have V2 := V2.same u80
    -- nothing divides
    refine ⟨_, rfl, fun x0 dx0 hx0 hdx0 ne0 => cv_empty x0 dx0 hx0 hdx0 fun e0 K1 he0 w1 c0 => ⟨rfl, ?_⟩⟩
    have nil_of : ∀ {t : Tab}, t.length ≤ 0 → t = [] := fun h => List.length_eq_zero_iff.mp (Nat.le_zero.mp h)
    obtain ⟨t1, c1, l1, v1⟩ := C1.same w1
    obtain ⟨t0, c0', l0, v0⟩ := c0
    obtain rfl := nil_of l0
    refine ⟨r1, d1, x0, e0, t1, [], .non, rfl, c1, c0', by omega, by decide, (fun z => by rw [v1]; exact b1 z), (fun z => by show Bd 0; unfold Bd; decide), .inl ⟨rfl, rfl⟩, fun K2 w2 => ⟨_, rfl, iteF ?_⟩⟩
    have w12 := w1.trans w2
    have C1 := C1.same w12
    have C2 := C2.same w12
    have V1 := V1.same w12
    have V2 := V2.same w12
    obtain ⟨t1, c1, l1, v1⟩ := id C1
    obtain ⟨⟨dx1, hp1⟩, _⟩ := id c1
    refine ⟨_, rfl, _, rfl, r1, dx1, _, rfl, hp1, rfl, r1, d1, t1, [], rfl, by decide, c1, by omega, fun r7 e7 K3 t7 _ _ w3 c7 v7 l7 => ?_⟩
    have z7 : t7 = [] := by
      cases t7 with
      | nil => rfl
      | cons q r =>
        have a := (c7.hd.keys_iff q.1).mp List.mem_cons_self
        rw [v7] at a
        exact absurd (if_neg (by simp)) a
    subst z7
    obtain ⟨t2, c2, l2, v2⟩ := C2.same w3
    refine ⟨r2, d2, r7, e7, t2, [], .non, rfl, c2, c7, by omega, by decide, (fun z => by rw [v2]; exact b2 z), (fun z => by show Bd 0; unfold Bd; decide), .inl ⟨rfl, rfl⟩, fun K4 w4 => ⟨_, rfl, iteF ?_⟩⟩
    have w34 := w3.trans w4
    have C1 := C1.same w34
    have C2 := C2.same w34
    have V1 := V1.same w34
    have V2 := V2.same w34
    -- the end
    have h1Q : IsQ (val u) (val u) 1 := ⟨fun z _ => by omega, by
      obtain ⟨z, hz⟩ := ne
      refine ⟨z, hz, ?_⟩
      have := pos z
      omega⟩
    refine ⟨_, rfl, _, rfl, tNil_it ?_⟩
    refine cv_equal C1 V1 (by decide) (by decide) (fun _ => rfl) fun K5 w5 => ⟨_, rfl, iteT ?_⟩
    refine ⟨_, rfl, _, rfl, tNil_it ?_⟩
    refine cv_equal (C2.same w5) (V2.same w5) (by decide) (by decide) (fun _ => rfl) fun K6 w6 => ⟨_, rfl, iteT ?_⟩
    have C2 := (C2.same w5).same w6
    refine ⟨_, rfl, _, rfl, cv_floor C2 C2 (by decide) (by decide) b2 b2 pos ne fun i K7 w7 hi => ?_⟩
    obtain rfl := isq_uniq hi h1Q pos
    refine ⟨rfl, _, rfl, iteT ?_⟩
    have C2 := C2.same w7
    refine ⟨_, rfl, _, rfl, cv_mod C2 C2 (by decide) (by decide) b2 b2 pos ne h1Q fun r8 e8 K8 _ _ w8 C8 => ?_⟩
    obtain ⟨t8, c8, l8, v8⟩ := C8
    obtain ⟨⟨dx8, hp8⟩, _⟩ := id c8
    have z8 : t8 = [] := by
      cases t8 with
      | nil => rfl
      | cons q r =>
        have a := (c8.hd.keys_iff q.1).mp List.mem_cons_self
        rw [v8] at a
        exact absurd (by dsimp only; omega) a
    subst z8
    exact ⟨r8, dx8, _, rfl, hp8, r8, e8, [], rfl, c8, false, rfl, k K8⟩
end
end Cs

set_option Elab.async false
set_option linter.all false
set_option maxRecDepth 100000
set_option maxHeartbeats 4000000
/-! The head by one kernel run: what the top has left, told by a list of tests and by the defs' objects. -/
namespace Cs
open PySem PySem.Spec PyProof.Rows L2
abbrev Fr := PySem.W.Frag
/-- what an object of the top names (nothing of codes, of the classes above) -/
def refsK (o : Obj) : List Addr := match o.data with
  | .dict es _ => es.toList.flatMap fun e => He.refV e.val
  | .func fd => He.refV fd.code ++ (He.refV fd.defaults ++ fd.closure.map (·.2))
  | .cls cd => [cd.ns]
  | .seq its _ => its.toList.flatMap He.refV
  | .fields vs => (match o.cls with
    | .type t => if t = "code" then [] else vs.toList.flatMap He.refV
    | _ => [])
  | _ => []
def stepK (g : Addr → Option Obj) (as : List Addr) : List Addr := as.flatMap fun a => match g a with
  | some o => refsK o
  | none => []
def asK (g : Addr → Option Obj) : Nat → List Addr → List Addr
  | 0, as => as
  | n + 1, as => as ++ asK g n (stepK g as)
def KG (n : Nat) (g : Addr → Option Obj) : Fr := He.frG g (cStatics :: asK g n [mainGlobals])
theorem KG_in {n : Nat} {h : Heap} : (KG n h.get?).In h := He.frG_in
abbrev FnT : Type := Option (Str × Str × Arguments × FuncBody × Scope × Addr × List Str × Addr)
def fnT (K : Fr) (a : Addr) : FnT := match K.lookup a with
  | some ⟨_, _, .func fd, _⟩ => some (fd.name, fd.qualname, fd.params, fd.body, fd.scope, fd.globals, fd.closure.map (·.1), fd.builtins)
  | _ => none
/-- a def: its address by the top's names, its names, its statement, the names of its cells -/
structure FnA where
  at_ : Fr → Addr
  name : Str
  qual : Str
  st : Stmt
  cl : List Str
  df : Bool := false
def FnA.val (d : FnA) : FnT := some (d.name, d.qual, defArgs d.st, .stmts (defBody d.st), defScope d.st, mainGlobals, d.cl, builtinsNs)
def noneB : Value → Bool
  | .none => true
  | _ => false
theorem noneB_ok {v : Value} (h : noneB v = true) : v = .none := by
  cases v with
  | none => rfl
  | _ => cases h
/-- no defaults (unless df); its code object -/
def fnB (K : Fr) (a : Addr) (q : Str) (df : Bool) : Bool := match K.lookup a with
  | some ⟨_, _, .func fd, _⟩ => (df || noneB fd.defaults) && PySem.W.codeIn K fd.code q
  | _ => false
abbrev AlK : Type := Bool × List FnT
def obsK (cks : List (Fr → Bool)) (fns : List FnA) (K : Fr) : AlK := ((cks.all fun f => f K) && fns.all fun d => fnB K (d.at_ K) d.qual d.df, fns.map fun d => fnT K (d.at_ K))
def valK (fns : List FnA) : AlK := (true, fns.map FnA.val)
def SaysK (cks : List (Fr → Bool)) (fns : List FnA) (K : Fr) : Prop := obsK cks fns K = valK fns
def obsKG (n : Nat) (cks : List (Fr → Bool)) (fns : List FnA) (g : Addr → Option Obj) : AlK := obsK cks fns (KG n g)
def hookK (n : Nat) (cks : List (Fr → Bool)) (fns : List FnA) : PySem.W.Hook where
  α := AlK
  obs := fun s => obsKG n cks fns s.heap.get?
  val := fun _ => valK fns
  says := fun _ h => ∃ K : Fr, K.In h ∧ SaysK cks fns K
  of := fun _ _ e => ⟨_, KG_in, e⟩
  keeps := fun _ _ _ ⟨K, hK, c⟩ k => ⟨K, PySem.W.Frag.In.keeps hK k, c⟩
theorem obsKG_eq {n : Nat} {cks : List (Fr → Bool)} {fns : List FnA} {g : Addr → Option Obj} {s : Shared} (h : ∀ a, g a = s.heap.get? a) : obsKG n cks fns g = (hookK n cks fns).obs s := by
  have e : g = s.heap.get? := funext h
  rw [e] <;> rfl
section
variable {cks : List (Fr → Bool)} {fns : List FnA} {K : Fr}
theorem SaysK.ck (c : SaysK cks fns K) (i : Nat) {f : Fr → Bool} (h : cks[i]? = some f := by rfl) : f K = true := by
  have c1 := (Bool.and_eq_true_iff.mp (show ((cks.all fun f => f K) && fns.all fun d => fnB K (d.at_ K) d.qual d.df) = true from congrArg (fun z : AlK => z.1) c)).1
  exact List.all_eq_true.mp c1 f (List.mem_of_getElem? h)
theorem SaysK.fb (c : SaysK cks fns K) (i : Nat) {d : FnA} (h : fns[i]? = some d) : fnB K (d.at_ K) d.qual d.df = true := by
  have c1 := (Bool.and_eq_true_iff.mp (show ((cks.all fun f => f K) && fns.all fun d => fnB K (d.at_ K) d.qual d.df) = true from congrArg (fun z : AlK => z.1) c)).2
  exact List.all_eq_true.mp c1 d (List.mem_of_getElem? h)
theorem SaysK.ft (c : SaysK cks fns K) (i : Nat) {d : FnA} (h : fns[i]? = some d) : fnT K (d.at_ K) = d.val := by
  have e : (fns.map fun d => fnT K (d.at_ K)) = fns.map FnA.val := congrArg (fun z : AlK => z.2) c
  have e2 : (fns.map fun d => fnT K (d.at_ K))[i]? = (fns.map FnA.val)[i]? := by rw [e]
  rw [List.getElem?_map, List.getElem?_map, h] at e2
  exact Option.some.inj e2
theorem fn_gen {d : FnA} (e : fnT K (d.at_ K) = d.val) (c : fnB K (d.at_ K) d.qual d.df = true) : ∃ oc od osl cl dV kV doc pm an cdv ct, cl.map (·.1) = d.cl ∧ K.lookup (d.at_ K) = some ⟨oc, od, .func (PySem.W.fnX d.name d.qual (defArgs d.st) (defBody d.st) (defScope d.st) cl dV kV doc pm an cdv ct), osl⟩ ∧ PySem.W.codeIn K cdv d.qual = true ∧ (d.df = false → dV = .none) := by
  unfold fnT at e
  unfold fnB at c
  cases q : K.lookup (d.at_ K) with
  | none =>
    rw [q] at c
    cases c
  | some o =>
    obtain ⟨oc, od, dt, osl⟩ := o
    rw [q] at c e
    cases dt with
    | func fd =>
      obtain ⟨n1, n2, n3, n4, n5, n6, n7, n8, n9, n10, n11, n12, n13, n14, n15⟩ := fd
      have e2 : (some (n1, n2, n3, n4, n5, n6, n7.map (·.1), n15) : FnT) = some (d.name, d.qual, defArgs d.st, .stmts (defBody d.st), defScope d.st, mainGlobals, d.cl, builtinsNs) := e
      simp only [Option.some.injEq, Prod.mk.injEq] at e2
      obtain ⟨h1, h2, h3, h4, h5, h6, h7, h8⟩ := e2
      obtain ⟨c1, c2⟩ := Bool.and_eq_true_iff.mp (show ((d.df || noneB n8) && PySem.W.codeIn K n13 d.qual) = true from c)
      subst h1 h2 h3 h4 h5 h6 h8
      refine ⟨oc, od, osl, n7, n8, n9, n10, n11, n12, n13, n14, h7, rfl, c2, fun h => ?_⟩
      rw [h, Bool.false_or] at c1
      exact noneB_ok c1
    | _ => cases c
theorem fn_any {d : FnA} (hd : d.df = false) (e : fnT K (d.at_ K) = d.val) (c : fnB K (d.at_ K) d.qual d.df = true) : ∃ oc od osl cl kV doc pm an cdv ct, cl.map (·.1) = d.cl ∧ K.lookup (d.at_ K) = some ⟨oc, od, .func (PySem.W.fnX d.name d.qual (defArgs d.st) (defBody d.st) (defScope d.st) cl .none kV doc pm an cdv ct), osl⟩ ∧ PySem.W.codeIn K cdv d.qual = true := by
  obtain ⟨oc, od, osl, cl, dV, kV, doc, pm, an, cdv, ct, e1, l, k, z⟩ := fn_gen e c
  obtain rfl := z hd
  exact ⟨oc, od, osl, cl, kV, doc, pm, an, cdv, ct, e1, l, k⟩
theorem SaysK.fn (c : SaysK cks fns K) (i : Nat) {d : FnA} (h : fns[i]? = some d) (hc : d.cl = []) (hd : d.df = false := by rfl) : ∃ oc od osl kV doc pm an cdv ct, K.lookup (d.at_ K) = some ⟨oc, od, .func (PySem.W.fnOf d.name d.qual (defArgs d.st) (defBody d.st) (defScope d.st) .none kV doc pm an cdv ct), osl⟩ ∧ PySem.W.codeIn K cdv d.qual = true := by
  obtain ⟨oc, od, osl, cl, kV, doc, pm, an, cdv, ct, e, l, k⟩ := fn_any hd (c.ft i h) (c.fb i h)
  rw [hc] at e
  obtain rfl := List.map_eq_nil_iff.mp e
  exact ⟨oc, od, osl, kV, doc, pm, an, cdv, ct, l, k⟩
/-- a def with defaults -/
theorem SaysK.fnD (c : SaysK cks fns K) (i : Nat) {d : FnA} (h : fns[i]? = some d) (hc : d.cl = []) : ∃ oc od osl dV kV doc pm an cdv ct, K.lookup (d.at_ K) = some ⟨oc, od, .func (PySem.W.fnOf d.name d.qual (defArgs d.st) (defBody d.st) (defScope d.st) dV kV doc pm an cdv ct), osl⟩ ∧ PySem.W.codeIn K cdv d.qual = true := by
  obtain ⟨oc, od, osl, cl, dV, kV, doc, pm, an, cdv, ct, e, l, k, _⟩ := fn_gen (c.ft i h) (c.fb i h)
  rw [hc] at e
  obtain rfl := List.map_eq_nil_iff.mp e
  exact ⟨oc, od, osl, dV, kV, doc, pm, an, cdv, ct, l, k⟩
def dflL (K : Fr) (a : Addr) : Option (List Value) := match K.lookup a with
  | some ⟨_, _, .func fd, _⟩ => (match fd.defaults with
    | .ref T => (match K.lookup T with
      | some ⟨_, _, .seq its _, _⟩ => some its.toList
      | _ => none)
    | _ => none)
  | _ => none
def dflA (K : Fr) (a : Addr) : Addr := match dflL K a with
  | some (.ref e :: _) => e
  | _ => 0
def relB : V → Value → Bool
  | .ref a, .ref b => decide (a = b)
  | .non, .none => true
  | _, _ => false
theorem relB_ok {x : V} {u : Value} (h : relB x u = true) : RelV x u := by
  unfold relB at h
  split at h
  · rw [of_decide_eq_true h]; rfl
  · rfl
  · cases h
def relsB : List V → List Value → Bool
  | [], [] => true
  | x :: xs, u :: us => relB x u && relsB xs us
  | _, _ => false
theorem relsB_ok : ∀ {xs : List V} {us : List Value}, relsB xs us = true → Vals xs us
  | [], [], _ => .nil
  | x :: xs, u :: us, h => by
    obtain ⟨h1, h2⟩ := Bool.and_eq_true_iff.mp (show (relB x u && relsB xs us) = true from h)
    exact .cons (relB_ok h1) (relsB_ok h2)
  | [], _ :: _, h => by cases h
  | _ :: _, [], h => by cases h
def dflB (K : Fr) (a : Addr) (ds : List V) : Bool := !ds.isEmpty && match dflL K a with
  | some us => relsB ds us
  | none => false
theorem dflB_ok {a : Addr} {ds : List V} {oc : Value} {od : Option Addr} {fd : FuncData} {sl : Array (Option Value)} (h : dflB K a ds = true) (l : K.lookup a = some ⟨oc, od, .func fd, sl⟩) : DflV K fd.defaults ds := by
  obtain ⟨h1, h2⟩ := Bool.and_eq_true_iff.mp h
  unfold dflL at h2
  rw [l] at h2
  dsimp only at h2
  refine .inr ⟨(fun e => by rw [e] at h1; cases h1), ?_⟩
  generalize fd.defaults = dv at h2
  split at h2
  · rename_i us eu
    split at eu
    · rename_i T
      split at eu
      · rename_i o1 o2 its n o3 eo
        cases eu
        exact ⟨T, _, its.toList, n, rfl, eo, by rw [Array.toArray_toList], relsB_ok h2⟩
      · cases eu
    · cases eu
  · cases h2
/-- the empty tuple -/
def nilB (K : Fr) (e : Addr) : Bool := match K.lookup e with
  | some ⟨.type t, _, .seq its _, _⟩ => decide (t = "tuple") && its.toList.isEmpty
  | _ => false
theorem nilB_ok {e : Addr} (h : nilB K e = true) : ∀ H : Hp, SqT K H e [] := fun H => by
  unfold nilB at h
  split at h
  · rename_i t dd its n sl l
    obtain ⟨h1, h2⟩ := Bool.and_eq_true_iff.mp h
    obtain rfl := of_decide_eq_true h1
    have e2 : its.toList = [] := List.isEmpty_iff.mp h2
    have e3 : its.size = 0 := by rw [← Array.length_toList, e2]; rfl
    exact .inr ⟨_, its, n, l, rfl, rfl, by rw [e3]; exact Nat.zero_le _, by rw [e2]; exact .nil⟩
  · cases h
/-- the cell of the class, the file of the code -/
def cellB (K : Fr) (cl : List (Str × Addr)) (C : Addr) : Bool := match cl with
  | [(_, cc)] => (match K.lookup cc with
    | some ⟨_, _, .cell (some (.ref D)), _⟩ => decide (D = C)
    | _ => false)
  | _ => false
def fileB (K : Fr) (cdv : Value) (file : Str) : Bool := match cdv with
  | .ref cd => (match K.lookup cd with
    | some ⟨_, _, .fields vs, _⟩ => (match (vs[2]? : Option Value) with
      | some (.str z _) => file == z
      | _ => false)
    | _ => false)
  | _ => false
theorem cellB_ok {z : Str} {cc C : Addr} (h : cellB K [(z, cc)] C = true) : ∃ cl cld csl, K.lookup cc = some ⟨cl, cld, .cell (some (.ref C)), csl⟩ := by
  unfold cellB at h
  dsimp only at h
  split at h
  · rename_i hl
    rw [of_decide_eq_true h] at hl
    exact ⟨_, _, _, hl⟩
  · cases h
theorem fileB_ok {cdv : Value} {file : Str} (h : fileB K cdv file = true) : ∃ cd, cdv = .ref cd ∧ ∃ ccl cdd vs ccs fl tf, K.lookup cd = some ⟨ccl, cdd, .fields vs, ccs⟩ ∧ vs[2]? = some (.str fl tf) ∧ (file == fl) = true := by
  unfold fileB at h
  split at h
  · rename_i cd
    split at h
    · rename_i hl
      split at h
      · rename_i hv
        exact ⟨cd, rfl, _, _, _, _, _, _, hl, hv, h⟩
      · cases h
    · cases h
  · cases h
def supB (K : Fr) (a C : Addr) (file : Str) : Bool := match K.lookup a with
  | some ⟨_, _, .func fd, _⟩ => cellB K fd.closure C && fileB K fd.code file
  | _ => false
theorem SaysK.fs (c : SaysK cks fns K) (i : Nat) {d : FnA} {C : Addr} {file : Str} (h : fns[i]? = some d) (hc : d.cl = ([(("__class__" : String) : Str)] : List Str)) (hs : supB K (d.at_ K) C file = true) (hd : d.df = false := by rfl) : ∃ oc od osl kV doc pm an cda ct cc, K.lookup (d.at_ K) = some ⟨oc, od, .func (PySem.W.ksFn d.name d.qual (defArgs d.st) (defBody d.st) (defScope d.st) .none kV doc pm an (.ref cda) ct cc), osl⟩ ∧ PySem.W.codeIn K (.ref cda) d.qual = true ∧
    (∃ cl cld csl, K.lookup cc = some ⟨cl, cld, .cell (some (.ref C)), csl⟩) ∧ ∃ ccl cdd vs ccs fl tf, K.lookup cda = some ⟨ccl, cdd, .fields vs, ccs⟩ ∧ vs[2]? = some (.str fl tf) ∧ (file == fl) = true := by
  obtain ⟨oc, od, osl, cl, kV, doc, pm, an, cdv, ct, e, l, k⟩ := fn_any hd (c.ft i h) (c.fb i h)
  rw [hc] at e
  match cl, e with
  | [(z, cc)], e =>
    obtain rfl : z = "__class__" := (List.cons.inj e).1
    unfold supB at hs
    rw [l] at hs
    obtain ⟨h1, h2⟩ := Bool.and_eq_true_iff.mp (show (cellB K [(("__class__" : Str), cc)] C && fileB K cdv file) = true from hs)
    obtain ⟨cd, rfl, h3⟩ := fileB_ok h2
    exact ⟨oc, od, osl, kV, doc, pm, an, cd, ct, cc, l, k, cellB_ok h1, h3⟩
end
/-! ### own errors, classmethods, texts and tuples of the top -/
def exoB (K : Fr) (C : Addr) : Bool := match K.lookup C with
  | some ⟨.type t, _, .cls cd, sl⟩ => decide (t = "type") && (match cd.mro, sl.toList with
    | .ref D :: bm, [_, _, _, _, some (.builtin n), _] => decide (D = C) && (decide (n = "ValueError.__new__") && (cd.hasDict && (!cd.hasDel && PySem.HandSPX.refsVE bm)))
    | _, _ => false)
  | _ => false
theorem exoB_ok {K : Fr} {C : Addr} (h : exoB K C = true) : ∃ nm q N bs bm sn sub ab col dd k0 k1 k2 k3 k5, K.lookup C = some (excClassObj nm q C N bs bm true sn sub ab col dd k0 k1 k2 k3 k5 "ValueError.__new__") ∧ PySem.HandSPX.refsVE bm = true := by
  unfold exoB at h
  split at h
  · rename_i t dd cd sl hl
    obtain ⟨h1, h2⟩ := Bool.and_eq_true_iff.mp h
    obtain rfl := of_decide_eq_true h1
    split at h2
    · rename_i D bm k0 k1 k2 k3 n k5 hm hs
      obtain ⟨h3, h4⟩ := Bool.and_eq_true_iff.mp h2
      obtain ⟨h5, h6⟩ := Bool.and_eq_true_iff.mp h4
      obtain ⟨h7, h8⟩ := Bool.and_eq_true_iff.mp h6
      obtain ⟨h9, h10⟩ := Bool.and_eq_true_iff.mp h8
      obtain rfl := of_decide_eq_true h3
      obtain rfl := of_decide_eq_true h5
      obtain ⟨nm, bs, mro, ns, qn, hd, sn, sb, ab, col, del⟩ := cd
      have hm2 : mro = .ref D :: bm := hm
      have h72 : hd = true := h7
      have h92 : (!del) = true := h9
      clear hm h7 h9 h6 h8 h4 h2 h
      subst hm2 h72
      cases del with
      | true => cases h92
      | false =>
      have es : sl = #[k0, k1, k2, k3, some (.builtin "ValueError.__new__"), k5] := by
        rw [← Array.toList_inj, hs]
      subst es
      exact ⟨nm, qn, ns, bs, bm, sn, sb, ab, col, dd, k0, k1, k2, k3, k5, hl, h10⟩
    · cases h2
  · cases h
/-- a text of the top -/
def strB (K : Fr) (x z : Str) : Bool := match PySem.W.nsIn K mainGlobals x with
  | some (some (.str y _)) => decide (y = z)
  | _ => false
theorem strB_ok {K : Fr} {x z : Str} (h : strB K x z = true) : ∃ tk, PySem.W.nsIn K mainGlobals x = some (some (.str z tk)) := by
  unfold strB at h
  split at h
  · rename_i y tk e
    rw [of_decide_eq_true h] at e
    exact ⟨tk, e⟩
  · cases h
/-- a classmethod of the class: the descriptor, the def behind it -/
def cmQ (K : Fr) (C : Addr) (m : Str) : Addr := match PySem.W.findIn K (.ref C) m with
  | some (some (.ref q)) => q
  | _ => 0
def cmF (K : Fr) (C : Addr) (m : Str) (T : String) : Addr := match PySem.W.recIn K (cmQ K C m) T with
  | some (.ref f :: _) => f
  | _ => 0
def cmR (K : Fr) (C : Addr) (m : Str) (T : String) : List Value := match PySem.W.recIn K (cmQ K C m) T with
  | some (_ :: r) => r
  | _ => []
def cmB (K : Fr) (C : Addr) (m : Str) : Bool := match PySem.W.findCls K (.ref C) (.type "type") m with
  | some (.get a b c d) => decide (a = .builtin "classmethod.__get__") && (decide (b = .ref (cmQ K C m)) && (decide (c = .none) && decide (d = .ref C)))
  | _ => false
theorem cmB_ok {K : Fr} {C : Addr} {m : Str} (h : cmB K C m = true) : PySem.W.findCls K (.ref C) (.type "type") m = some (.get (.builtin "classmethod.__get__") (.ref (cmQ K C m)) .none (.ref C)) := by
  unfold cmB at h
  split at h
  · rename_i a b c d e
    obtain ⟨h1, h2⟩ := Bool.and_eq_true_iff.mp h
    obtain ⟨h3, h4⟩ := Bool.and_eq_true_iff.mp h2
    obtain ⟨h5, h6⟩ := Bool.and_eq_true_iff.mp h4
    rw [of_decide_eq_true h1, of_decide_eq_true h3, of_decide_eq_true h5, of_decide_eq_true h6] at e
    exact e
  · cases h
theorem tup_at {K : Fr} {x : Str} {zs : List Str} (h : He.tupB K x (zs.map He.Dv.str) = true) : ∀ H : Hp, SqT K H (He.ga K x) (zs.map V.str) := fun H => by
  have z := He.tupB_ok h H
  rw [List.map_map] at z
  exact z
end Cs

set_option Elab.async false
set_option linter.all false
set_option maxRecDepth 100000
set_option maxHeartbeats 4000000
/-! The check of an own error's class over any base, for HeadK's heads. -/
namespace Cs
open PySem L2
def exoT (K : Fr) (C : Addr) (nid : String) (tl : List Value) : Bool := match K.lookup C with
  | some ⟨.type t, _, .cls cd, sl⟩ => decide (t = "type") && (match cd.mro, sl.toList with
    | .ref D :: bm, [_, _, _, _, some (.builtin n), _] => decide (D = C) && (decide (n = nid) && (cd.hasDict && (!cd.hasDel && refsT tl bm)))
    | _, _ => false)
  | _ => false
theorem exoT_ok {K : Fr} {C : Addr} {nid : String} {tl : List Value} (h : exoT K C nid tl = true) : ∃ nm q N bs bm sn sub ab col dd k0 k1 k2 k3 k5, K.lookup C = some (excClassObj nm q C N bs bm true sn sub ab col dd k0 k1 k2 k3 k5 nid) ∧ refsT tl bm = true := by
  unfold exoT at h
  split at h
  · rename_i t dd cd sl hl
    obtain ⟨h1, h2⟩ := Bool.and_eq_true_iff.mp h
    obtain rfl := of_decide_eq_true h1
    split at h2
    · rename_i D bm k0 k1 k2 k3 n k5 hm hs
      obtain ⟨h3, h4⟩ := Bool.and_eq_true_iff.mp h2
      obtain ⟨h5, h6⟩ := Bool.and_eq_true_iff.mp h4
      obtain ⟨h7, h8⟩ := Bool.and_eq_true_iff.mp h6
      obtain ⟨h9, h10⟩ := Bool.and_eq_true_iff.mp h8
      obtain rfl := of_decide_eq_true h3
      obtain rfl := of_decide_eq_true h5
      obtain ⟨nm, bs, mro, ns, qn, hd, sn, sb, ab, col, del⟩ := cd
      have hm2 : mro = .ref D :: bm := hm
      have h72 : hd = true := h7
      have h92 : (!del) = true := h9
      clear hm h7 h9 h6 h8 h4 h2 h
      subst hm2 h72
      cases del with
      | true => cases h92
      | false =>
      have es : sl = #[k0, k1, k2, k3, some (.builtin n), k5] := by
        rw [← Array.toList_inj, hs]
      subst es
      exact ⟨nm, qn, ns, bs, bm, sn, sb, ab, col, dd, k0, k1, k2, k3, k5, hl, h10⟩
    · cases h2
  · cases h
end Cs

set_option Elab.async false
set_option linter.all false
set_option maxRecDepth 100000
set_option maxHeartbeats 8000000
namespace Cs
open PySem L2
theorem all_mk {l : PySem.W.OpenLaw} {w : World} {K : PySem.W.Frag} {h : Heap} {mg : Str → Option Value} {fa : Addr} (X : K.In h) (G : h.Ns mainGlobals mg) (hfa : mg "law" = some (.ref fa))
    {f_isint : Addr} {oc_isint kV_isint dc_isint pm_isint cd_isint ct_isint : Value} {od_isint an_isint : Option Addr} {sl_isint : Array (Option Value)}
    {f_isword : Addr} {oc_isword kV_isword dc_isword pm_isword cd_isword ct_isword : Value} {od_isword an_isword : Option Addr} {sl_isword : Array (Option Value)}
    {f_issmall : Addr} {oc_issmall kV_issmall dc_issmall pm_issmall cd_issmall ct_issmall : Value} {od_issmall an_issmall : Option Addr} {sl_issmall : Array (Option Value)}
    {f_ispair : Addr} {oc_ispair kV_ispair dc_ispair pm_ispair cd_ispair ct_ispair : Value} {od_ispair an_ispair : Option Addr} {sl_ispair : Array (Option Value)}
    {f_distinct : Addr} {oc_distinct kV_distinct dc_distinct pm_distinct cd_distinct ct_distinct : Value} {od_distinct an_distinct : Option Addr} {sl_distinct : Array (Option Value)}
    {f_source : Addr} {oc_source kV_source dc_source pm_source cd_source ct_source : Value} {od_source an_source : Option Addr} {sl_source : Array (Option Value)}
    {f_mixed : Addr} {oc_mixed kV_mixed dc_mixed pm_mixed cd_mixed ct_mixed : Value} {od_mixed an_mixed : Option Addr} {sl_mixed : Array (Option Value)}
    {f_draw : Addr} {oc_draw kV_draw dc_draw pm_draw cd_draw ct_draw : Value} {od_draw an_draw : Option Addr} {sl_draw : Array (Option Value)}
    {f_word : Addr} {oc_word kV_word dc_word pm_word cd_word ct_word : Value} {od_word an_word : Option Addr} {sl_word : Array (Option Value)}
    {f_number : Addr} {oc_number kV_number dc_number pm_number cd_number ct_number : Value} {od_number an_number : Option Addr} {sl_number : Array (Option Value)}
    {f_pairs : Addr} {oc_pairs kV_pairs dc_pairs pm_pairs cd_pairs ct_pairs : Value} {od_pairs an_pairs : Option Addr} {sl_pairs : Array (Option Value)}
    {f_model : Addr} {oc_model kV_model dc_model pm_model cd_model ct_model : Value} {od_model an_model : Option Addr} {sl_model : Array (Option Value)}
    {f_told : Addr} {oc_told kV_told dc_told pm_told cd_told ct_told : Value} {od_told an_told : Option Addr} {sl_told : Array (Option Value)}
    {f_lint : Addr} {oc_lint kV_lint dc_lint pm_lint cd_lint ct_lint : Value} {od_lint an_lint : Option Addr} {sl_lint : Array (Option Value)}
    {f_jw : Addr} {oc_jw kV_jw dc_jw pm_jw cd_jw ct_jw : Value} {od_jw an_jw : Option Addr} {sl_jw : Array (Option Value)}
    {f_equal : Addr} {oc_equal kV_equal dc_equal pm_equal cd_equal ct_equal : Value} {od_equal an_equal : Option Addr} {sl_equal : Array (Option Value)}
    {f_divisor : Addr} {oc_divisor kV_divisor dc_divisor pm_divisor cd_divisor ct_divisor : Value} {od_divisor an_divisor : Option Addr} {sl_divisor : Array (Option Value)}
    {f_due : Addr} {oc_due kV_due dc_due pm_due cd_due ct_due : Value} {od_due an_due : Option Addr} {sl_due : Array (Option Value)}
    {f_refused : Addr} {oc_refused kV_refused dc_refused pm_refused cd_refused ct_refused : Value} {od_refused an_refused : Option Addr} {sl_refused : Array (Option Value)}
    {f_fits : Addr} {oc_fits kV_fits dc_fits pm_fits cd_fits ct_fits : Value} {od_fits an_fits : Option Addr} {sl_fits : Array (Option Value)}
    {f_law : Addr} {oc_law kV_law dc_law pm_law cd_law ct_law : Value} {od_law an_law : Option Addr} {sl_law : Array (Option Value)}
    {C : Addr}
    {f_init : Addr} {oc_init kV_init dc_init pm_init cd_init ct_init : Value} {od_init an_init : Option Addr} {sl_init : Array (Option Value)}
    {f_mwords : Addr} {oc_mwords kV_mwords dc_mwords pm_mwords cd_mwords ct_mwords : Value} {od_mwords an_mwords : Option Addr} {sl_mwords : Array (Option Value)}
    {f_mpairs : Addr} {oc_mpairs kV_mpairs dc_mpairs pm_mpairs cd_mpairs ct_mpairs : Value} {od_mpairs an_mpairs : Option Addr} {sl_mpairs : Array (Option Value)}
    {f_monly : Addr} {oc_monly kV_monly dc_monly pm_monly cd_monly ct_monly : Value} {od_monly an_monly : Option Addr} {sl_monly : Array (Option Value)}
    {f_mget : Addr} {oc_mget kV_mget dc_mget pm_mget cd_mget ct_mget : Value} {od_mget an_mget : Option Addr} {sl_mget : Array (Option Value)}
    {f_madd : Addr} {oc_madd kV_madd dc_madd pm_madd cd_madd ct_madd : Value} {od_madd an_madd : Option Addr} {sl_madd : Array (Option Value)}
    {f_mmul : Addr} {oc_mmul kV_mmul dc_mmul pm_mmul cd_mmul ct_mmul : Value} {od_mmul an_mmul : Option Addr} {sl_mmul : Array (Option Value)}
    {f_mrmul : Addr} {oc_mrmul kV_mrmul dc_mrmul pm_mrmul cd_mrmul ct_mrmul : Value} {od_mrmul an_mrmul : Option Addr} {sl_mrmul : Array (Option Value)}
    {f_msub : Addr} {oc_msub kV_msub dc_msub pm_msub cd_msub ct_msub : Value} {od_msub an_msub : Option Addr} {sl_msub : Array (Option Value)}
    {f_mbool : Addr} {oc_mbool kV_mbool dc_mbool pm_mbool cd_mbool ct_mbool : Value} {od_mbool an_mbool : Option Addr} {sl_mbool : Array (Option Value)}
    {f_meq : Addr} {oc_meq kV_meq dc_meq pm_meq cd_meq ct_meq : Value} {od_meq an_meq : Option Addr} {sl_meq : Array (Option Value)}
    {f_mfl : Addr} {oc_mfl kV_mfl dc_mfl pm_mfl cd_mfl ct_mfl : Value} {od_mfl an_mfl : Option Addr} {sl_mfl : Array (Option Value)}
    {f_mmd : Addr} {oc_mmd kV_mmd dc_mmd pm_mmd cd_mmd ct_mmd : Value} {od_mmd an_mmd : Option Addr} {sl_mmd : Array (Option Value)}
    {ND : Addr}
    {f_xd : Addr} {oc_xd kV_xd dc_xd pm_xd cd_xd ct_xd : Value} {od_xd an_xd : Option Addr} {sl_xd : Array (Option Value)}
    {q_mof : Addr} {r_mof : List Value}
    {f_mof : Addr} {oc_mof kV_mof dc_mof pm_mof cd_mof ct_mof : Value} {od_mof an_mof : Option Addr} {sl_mof : Array (Option Value)}
    {tk_LET : Tok}
    
    {ce : Addr}
    (a_isint : PySem.W.nsIn K mainGlobals "is_integer" = some (some (.ref f_isint)))
    (l_isint : K.lookup f_isint = some ⟨oc_isint, od_isint, .func (PySem.W.fnOf "is_integer" "is_integer" (defArgs s_is_integer) (defBody s_is_integer) (defScope s_is_integer) .none kV_isint dc_isint pm_isint an_isint cd_isint ct_isint), sl_isint⟩)
    (c_isint : PySem.W.codeIn K cd_isint "is_integer" = true)
    (k_isint : PySem.W.keepIn K (.ref f_isint) = true)
    (a_isword : PySem.W.nsIn K mainGlobals "is_word" = some (some (.ref f_isword)))
    (l_isword : K.lookup f_isword = some ⟨oc_isword, od_isword, .func (PySem.W.fnOf "is_word" "is_word" (defArgs s_is_word) (defBody s_is_word) (defScope s_is_word) .none kV_isword dc_isword pm_isword an_isword cd_isword ct_isword), sl_isword⟩)
    (c_isword : PySem.W.codeIn K cd_isword "is_word" = true)
    (k_isword : PySem.W.keepIn K (.ref f_isword) = true)
    (a_issmall : PySem.W.nsIn K mainGlobals "is_small" = some (some (.ref f_issmall)))
    (l_issmall : K.lookup f_issmall = some ⟨oc_issmall, od_issmall, .func (PySem.W.fnOf "is_small" "is_small" (defArgs s_is_small) (defBody s_is_small) (defScope s_is_small) .none kV_issmall dc_issmall pm_issmall an_issmall cd_issmall ct_issmall), sl_issmall⟩)
    (c_issmall : PySem.W.codeIn K cd_issmall "is_small" = true)
    (k_issmall : PySem.W.keepIn K (.ref f_issmall) = true)
    (a_ispair : PySem.W.nsIn K mainGlobals "is_pair" = some (some (.ref f_ispair)))
    (l_ispair : K.lookup f_ispair = some ⟨oc_ispair, od_ispair, .func (PySem.W.fnOf "is_pair" "is_pair" (defArgs s_is_pair) (defBody s_is_pair) (defScope s_is_pair) .none kV_ispair dc_ispair pm_ispair an_ispair cd_ispair ct_ispair), sl_ispair⟩)
    (c_ispair : PySem.W.codeIn K cd_ispair "is_pair" = true)
    (k_ispair : PySem.W.keepIn K (.ref f_ispair) = true)
    (a_distinct : PySem.W.nsIn K mainGlobals "distinct" = some (some (.ref f_distinct)))
    (l_distinct : K.lookup f_distinct = some ⟨oc_distinct, od_distinct, .func (PySem.W.fnOf "distinct" "distinct" (defArgs s_distinct) (defBody s_distinct) (defScope s_distinct) .none kV_distinct dc_distinct pm_distinct an_distinct cd_distinct ct_distinct), sl_distinct⟩)
    (c_distinct : PySem.W.codeIn K cd_distinct "distinct" = true)
    (k_distinct : PySem.W.keepIn K (.ref f_distinct) = true)
    (a_source : PySem.W.nsIn K mainGlobals "_law_source" = some (some (.ref f_source)))
    (l_source : K.lookup f_source = some ⟨oc_source, od_source, .func (PySem.W.fnOf "_law_source" "_law_source" (defArgs s_l_source) (defBody s_l_source) (defScope s_l_source) .none kV_source dc_source pm_source an_source cd_source ct_source), sl_source⟩)
    (c_source : PySem.W.codeIn K cd_source "_law_source" = true)
    (k_source : PySem.W.keepIn K (.ref f_source) = true)
    (a_mixed : PySem.W.nsIn K mainGlobals "_law_mixed" = some (some (.ref f_mixed)))
    (l_mixed : K.lookup f_mixed = some ⟨oc_mixed, od_mixed, .func (PySem.W.fnOf "_law_mixed" "_law_mixed" (defArgs s_l_mixed) (defBody s_l_mixed) (defScope s_l_mixed) .none kV_mixed dc_mixed pm_mixed an_mixed cd_mixed ct_mixed), sl_mixed⟩)
    (c_mixed : PySem.W.codeIn K cd_mixed "_law_mixed" = true)
    (k_mixed : PySem.W.keepIn K (.ref f_mixed) = true)
    (a_draw : PySem.W.nsIn K mainGlobals "_law_draw" = some (some (.ref f_draw)))
    (l_draw : K.lookup f_draw = some ⟨oc_draw, od_draw, .func (PySem.W.fnOf "_law_draw" "_law_draw" (defArgs s_l_draw) (defBody s_l_draw) (defScope s_l_draw) .none kV_draw dc_draw pm_draw an_draw cd_draw ct_draw), sl_draw⟩)
    (c_draw : PySem.W.codeIn K cd_draw "_law_draw" = true)
    (k_draw : PySem.W.keepIn K (.ref f_draw) = true)
    (a_word : PySem.W.nsIn K mainGlobals "_law_word" = some (some (.ref f_word)))
    (l_word : K.lookup f_word = some ⟨oc_word, od_word, .func (PySem.W.fnOf "_law_word" "_law_word" (defArgs s_l_word) (defBody s_l_word) (defScope s_l_word) .none kV_word dc_word pm_word an_word cd_word ct_word), sl_word⟩)
    (c_word : PySem.W.codeIn K cd_word "_law_word" = true)
    (k_word : PySem.W.keepIn K (.ref f_word) = true)
    (a_number : PySem.W.nsIn K mainGlobals "_law_number" = some (some (.ref f_number)))
    (l_number : K.lookup f_number = some ⟨oc_number, od_number, .func (PySem.W.fnOf "_law_number" "_law_number" (defArgs s_l_number) (defBody s_l_number) (defScope s_l_number) .none kV_number dc_number pm_number an_number cd_number ct_number), sl_number⟩)
    (c_number : PySem.W.codeIn K cd_number "_law_number" = true)
    (k_number : PySem.W.keepIn K (.ref f_number) = true)
    (a_pairs : PySem.W.nsIn K mainGlobals "_law_pairs" = some (some (.ref f_pairs)))
    (l_pairs : K.lookup f_pairs = some ⟨oc_pairs, od_pairs, .func (PySem.W.fnOf "_law_pairs" "_law_pairs" (defArgs s_l_pairs) (defBody s_l_pairs) (defScope s_l_pairs) .none kV_pairs dc_pairs pm_pairs an_pairs cd_pairs ct_pairs), sl_pairs⟩)
    (c_pairs : PySem.W.codeIn K cd_pairs "_law_pairs" = true)
    (k_pairs : PySem.W.keepIn K (.ref f_pairs) = true)
    (a_model : PySem.W.nsIn K mainGlobals "_law_model" = some (some (.ref f_model)))
    (l_model : K.lookup f_model = some ⟨oc_model, od_model, .func (PySem.W.fnOf "_law_model" "_law_model" (defArgs s_l_model) (defBody s_l_model) (defScope s_l_model) .none kV_model dc_model pm_model an_model cd_model ct_model), sl_model⟩)
    (c_model : PySem.W.codeIn K cd_model "_law_model" = true)
    (k_model : PySem.W.keepIn K (.ref f_model) = true)
    (a_told : PySem.W.nsIn K mainGlobals "_law_told" = some (some (.ref f_told)))
    (l_told : K.lookup f_told = some ⟨oc_told, od_told, .func (PySem.W.fnOf "_law_told" "_law_told" (defArgs s_l_told) (defBody s_l_told) (defScope s_l_told) .none kV_told dc_told pm_told an_told cd_told ct_told), sl_told⟩)
    (c_told : PySem.W.codeIn K cd_told "_law_told" = true)
    (k_told : PySem.W.keepIn K (.ref f_told) = true)
    (a_lint : PySem.W.nsIn K mainGlobals "_law_is_integer" = some (some (.ref f_lint)))
    (l_lint : K.lookup f_lint = some ⟨oc_lint, od_lint, .func (PySem.W.fnOf "_law_is_integer" "_law_is_integer" (defArgs s_l_is_integer) (defBody s_l_is_integer) (defScope s_l_is_integer) .none kV_lint dc_lint pm_lint an_lint cd_lint ct_lint), sl_lint⟩)
    (c_lint : PySem.W.codeIn K cd_lint "_law_is_integer" = true)
    (k_lint : PySem.W.keepIn K (.ref f_lint) = true)
    (a_jw : PySem.W.nsIn K mainGlobals "joint_words" = some (some (.ref f_jw)))
    (l_jw : K.lookup f_jw = some ⟨oc_jw, od_jw, .func (PySem.W.fnOf "joint_words" "joint_words" (defArgs s_joint_words) (defBody s_joint_words) (defScope s_joint_words) .none kV_jw dc_jw pm_jw an_jw cd_jw ct_jw), sl_jw⟩)
    (c_jw : PySem.W.codeIn K cd_jw "joint_words" = true)
    (k_jw : PySem.W.keepIn K (.ref f_jw) = true)
    (a_equal : PySem.W.nsIn K mainGlobals "_law_equal" = some (some (.ref f_equal)))
    (l_equal : K.lookup f_equal = some ⟨oc_equal, od_equal, .func (PySem.W.fnOf "_law_equal" "_law_equal" (defArgs s_l_equal) (defBody s_l_equal) (defScope s_l_equal) .none kV_equal dc_equal pm_equal an_equal cd_equal ct_equal), sl_equal⟩)
    (c_equal : PySem.W.codeIn K cd_equal "_law_equal" = true)
    (k_equal : PySem.W.keepIn K (.ref f_equal) = true)
    (a_divisor : PySem.W.nsIn K mainGlobals "_law_divisor" = some (some (.ref f_divisor)))
    (l_divisor : K.lookup f_divisor = some ⟨oc_divisor, od_divisor, .func (PySem.W.fnOf "_law_divisor" "_law_divisor" (defArgs s_l_divisor) (defBody s_l_divisor) (defScope s_l_divisor) .none kV_divisor dc_divisor pm_divisor an_divisor cd_divisor ct_divisor), sl_divisor⟩)
    (c_divisor : PySem.W.codeIn K cd_divisor "_law_divisor" = true)
    (k_divisor : PySem.W.keepIn K (.ref f_divisor) = true)
    (a_due : PySem.W.nsIn K mainGlobals "_law_due" = some (some (.ref f_due)))
    (l_due : K.lookup f_due = some ⟨oc_due, od_due, .func (PySem.W.fnOf "_law_due" "_law_due" (defArgs s_l_due) (defBody s_l_due) (defScope s_l_due) .none kV_due dc_due pm_due an_due cd_due ct_due), sl_due⟩)
    (c_due : PySem.W.codeIn K cd_due "_law_due" = true)
    (k_due : PySem.W.keepIn K (.ref f_due) = true)
    (a_refused : PySem.W.nsIn K mainGlobals "_law_refused" = some (some (.ref f_refused)))
    (l_refused : K.lookup f_refused = some ⟨oc_refused, od_refused, .func (PySem.W.fnOf "_law_refused" "_law_refused" (defArgs s_l_refused) (defBody s_l_refused) (defScope s_l_refused) .none kV_refused dc_refused pm_refused an_refused cd_refused ct_refused), sl_refused⟩)
    (c_refused : PySem.W.codeIn K cd_refused "_law_refused" = true)
    (k_refused : PySem.W.keepIn K (.ref f_refused) = true)
    (a_fits : PySem.W.nsIn K mainGlobals "_law_fits" = some (some (.ref f_fits)))
    (l_fits : K.lookup f_fits = some ⟨oc_fits, od_fits, .func (PySem.W.fnOf "_law_fits" "_law_fits" (defArgs s_l_fits) (defBody s_l_fits) (defScope s_l_fits) .none kV_fits dc_fits pm_fits an_fits cd_fits ct_fits), sl_fits⟩)
    (c_fits : PySem.W.codeIn K cd_fits "_law_fits" = true)
    (k_fits : PySem.W.keepIn K (.ref f_fits) = true)
    (a_law : PySem.W.nsIn K mainGlobals "law" = some (some (.ref f_law)))
    (l_law : K.lookup f_law = some ⟨oc_law, od_law, .func (PySem.W.fnOf "law" "law" (defArgs s_law) (defBody s_law) (defScope s_law) .none kV_law dc_law pm_law an_law cd_law ct_law), sl_law⟩)
    (c_law : PySem.W.codeIn K cd_law "law" = true)
    (k_law : PySem.W.keepIn K (.ref f_law) = true)
    (a_C : PySem.W.nsIn K mainGlobals "Counts" = some (some (.ref C)))
    (pg_C : PySem.W.plainGet K C Str.empty = true)
    (hd_C : PySem.W.hasDictIn K C = true)
    (po_C : PySem.W.plainOver K C = true)
    (sa_C : PySem.W.findIn K (.ref C) "__setattr__" = some (some (.builtin "object.__setattr__")))
    (mk_C : PySem.W.makesIn K C = true)
    (kc_C : PySem.W.keepIn K (.ref C) = true)
    (ns_C : PySem.W.noSeq K C = true)
    (n_C_held : PySem.W.findIn K (.ref C) "held" = some none)
    (sf_C : PySem.W.selfFirst K C = true)
    (cc_C : PySem.W.findIn K (.ref C) "__class__" = some (some (.builtin "object.__class__")))
    (ch_C : PySem.W.specialIn K (.builtin "object.__class__") "__get__" = some (some (.builtin "getset_descriptor.__get__")))
    (ct_C : PySem.W.takesIn K (.builtin "object.__class__") = some true)
    (cm_C : PySem.W.mroIn K C (.type "object") = some true)
    (si_C : PySem.W.subIn K (.type "int") (.ref C) = some false)
    (is_C : PySem.W.subIn K (.ref C) (.type "int") = some false)
    (im_C : PySem.W.findIn K (.type "int") "__mul__" = some (some (.builtin "int.__mul__")))
    (ir_C : PySem.W.findIn K (.type "int") "__rmul__" = some (some (.builtin "int.__rmul__")))
    (ne_C : PySem.W.findIn K (.ref C) "__ne__" = some (some (.builtin "object.__ne__")))
    (a_init : PySem.W.findIn K (.ref C) "__init__" = some (some (.ref f_init)))
    (i_init : PySem.W.isFn K (.ref f_init) = true)
    (l_init : K.lookup f_init = some ⟨oc_init, od_init, .func (PySem.W.fnOf "__init__" "Counts.__init__" (defArgs s_Counts_init) (defBody s_Counts_init) (defScope s_Counts_init) .none kV_init dc_init pm_init an_init cd_init ct_init), sl_init⟩)
    (c_init : PySem.W.codeIn K cd_init "Counts.__init__" = true)
    (k_init : PySem.W.keepIn K (.ref f_init) = true)
    (a_mwords : PySem.W.findIn K (.ref C) "words" = some (some (.ref f_mwords)))
    (i_mwords : PySem.W.isFn K (.ref f_mwords) = true)
    (l_mwords : K.lookup f_mwords = some ⟨oc_mwords, od_mwords, .func (PySem.W.fnOf "words" "Counts.words" (defArgs s_Counts_words) (defBody s_Counts_words) (defScope s_Counts_words) .none kV_mwords dc_mwords pm_mwords an_mwords cd_mwords ct_mwords), sl_mwords⟩)
    (c_mwords : PySem.W.codeIn K cd_mwords "Counts.words" = true)
    (k_mwords : PySem.W.keepIn K (.ref f_mwords) = true)
    (a_mpairs : PySem.W.findIn K (.ref C) "pairs" = some (some (.ref f_mpairs)))
    (i_mpairs : PySem.W.isFn K (.ref f_mpairs) = true)
    (l_mpairs : K.lookup f_mpairs = some ⟨oc_mpairs, od_mpairs, .func (PySem.W.fnOf "pairs" "Counts.pairs" (defArgs s_Counts_pairs) (defBody s_Counts_pairs) (defScope s_Counts_pairs) .none kV_mpairs dc_mpairs pm_mpairs an_mpairs cd_mpairs ct_mpairs), sl_mpairs⟩)
    (c_mpairs : PySem.W.codeIn K cd_mpairs "Counts.pairs" = true)
    (k_mpairs : PySem.W.keepIn K (.ref f_mpairs) = true)
    (a_monly : PySem.W.findIn K (.ref C) "only" = some (some (.ref f_monly)))
    (i_monly : PySem.W.isFn K (.ref f_monly) = true)
    (l_monly : K.lookup f_monly = some ⟨oc_monly, od_monly, .func (PySem.W.fnOf "only" "Counts.only" (defArgs s_Counts_only) (defBody s_Counts_only) (defScope s_Counts_only) .none kV_monly dc_monly pm_monly an_monly cd_monly ct_monly), sl_monly⟩)
    (c_monly : PySem.W.codeIn K cd_monly "Counts.only" = true)
    (k_monly : PySem.W.keepIn K (.ref f_monly) = true)
    (a_mget : PySem.W.findIn K (.ref C) "__getitem__" = some (some (.ref f_mget)))
    (i_mget : PySem.W.isFn K (.ref f_mget) = true)
    (l_mget : K.lookup f_mget = some ⟨oc_mget, od_mget, .func (PySem.W.fnOf "__getitem__" "Counts.__getitem__" (defArgs s_Counts_getitem) (defBody s_Counts_getitem) (defScope s_Counts_getitem) .none kV_mget dc_mget pm_mget an_mget cd_mget ct_mget), sl_mget⟩)
    (c_mget : PySem.W.codeIn K cd_mget "Counts.__getitem__" = true)
    (k_mget : PySem.W.keepIn K (.ref f_mget) = true)
    (a_madd : PySem.W.findIn K (.ref C) "__add__" = some (some (.ref f_madd)))
    (i_madd : PySem.W.isFn K (.ref f_madd) = true)
    (l_madd : K.lookup f_madd = some ⟨oc_madd, od_madd, .func (PySem.W.fnOf "__add__" "Counts.__add__" (defArgs s_Counts_add) (defBody s_Counts_add) (defScope s_Counts_add) .none kV_madd dc_madd pm_madd an_madd cd_madd ct_madd), sl_madd⟩)
    (c_madd : PySem.W.codeIn K cd_madd "Counts.__add__" = true)
    (k_madd : PySem.W.keepIn K (.ref f_madd) = true)
    (a_mmul : PySem.W.findIn K (.ref C) "__mul__" = some (some (.ref f_mmul)))
    (i_mmul : PySem.W.isFn K (.ref f_mmul) = true)
    (l_mmul : K.lookup f_mmul = some ⟨oc_mmul, od_mmul, .func (PySem.W.fnOf "__mul__" "Counts.__mul__" (defArgs s_Counts_mul) (defBody s_Counts_mul) (defScope s_Counts_mul) .none kV_mmul dc_mmul pm_mmul an_mmul cd_mmul ct_mmul), sl_mmul⟩)
    (c_mmul : PySem.W.codeIn K cd_mmul "Counts.__mul__" = true)
    (k_mmul : PySem.W.keepIn K (.ref f_mmul) = true)
    (a_mrmul : PySem.W.findIn K (.ref C) "__rmul__" = some (some (.ref f_mrmul)))
    (i_mrmul : PySem.W.isFn K (.ref f_mrmul) = true)
    (l_mrmul : K.lookup f_mrmul = some ⟨oc_mrmul, od_mrmul, .func (PySem.W.fnOf "__rmul__" "Counts.__rmul__" (defArgs s_Counts_rmul) (defBody s_Counts_rmul) (defScope s_Counts_rmul) .none kV_mrmul dc_mrmul pm_mrmul an_mrmul cd_mrmul ct_mrmul), sl_mrmul⟩)
    (c_mrmul : PySem.W.codeIn K cd_mrmul "Counts.__rmul__" = true)
    (k_mrmul : PySem.W.keepIn K (.ref f_mrmul) = true)
    (a_msub : PySem.W.findIn K (.ref C) "__sub__" = some (some (.ref f_msub)))
    (i_msub : PySem.W.isFn K (.ref f_msub) = true)
    (l_msub : K.lookup f_msub = some ⟨oc_msub, od_msub, .func (PySem.W.fnOf "__sub__" "Counts.__sub__" (defArgs s_Counts_sub) (defBody s_Counts_sub) (defScope s_Counts_sub) .none kV_msub dc_msub pm_msub an_msub cd_msub ct_msub), sl_msub⟩)
    (c_msub : PySem.W.codeIn K cd_msub "Counts.__sub__" = true)
    (k_msub : PySem.W.keepIn K (.ref f_msub) = true)
    (a_mbool : PySem.W.findIn K (.ref C) "__bool__" = some (some (.ref f_mbool)))
    (i_mbool : PySem.W.isFn K (.ref f_mbool) = true)
    (l_mbool : K.lookup f_mbool = some ⟨oc_mbool, od_mbool, .func (PySem.W.fnOf "__bool__" "Counts.__bool__" (defArgs s_Counts_bool) (defBody s_Counts_bool) (defScope s_Counts_bool) .none kV_mbool dc_mbool pm_mbool an_mbool cd_mbool ct_mbool), sl_mbool⟩)
    (c_mbool : PySem.W.codeIn K cd_mbool "Counts.__bool__" = true)
    (k_mbool : PySem.W.keepIn K (.ref f_mbool) = true)
    (a_meq : PySem.W.findIn K (.ref C) "__eq__" = some (some (.ref f_meq)))
    (i_meq : PySem.W.isFn K (.ref f_meq) = true)
    (l_meq : K.lookup f_meq = some ⟨oc_meq, od_meq, .func (PySem.W.fnOf "__eq__" "Counts.__eq__" (defArgs s_Counts_eq) (defBody s_Counts_eq) (defScope s_Counts_eq) .none kV_meq dc_meq pm_meq an_meq cd_meq ct_meq), sl_meq⟩)
    (c_meq : PySem.W.codeIn K cd_meq "Counts.__eq__" = true)
    (k_meq : PySem.W.keepIn K (.ref f_meq) = true)
    (a_mfl : PySem.W.findIn K (.ref C) "__floordiv__" = some (some (.ref f_mfl)))
    (i_mfl : PySem.W.isFn K (.ref f_mfl) = true)
    (l_mfl : K.lookup f_mfl = some ⟨oc_mfl, od_mfl, .func (PySem.W.fnOf "__floordiv__" "Counts.__floordiv__" (defArgs s_Counts_floordiv) (defBody s_Counts_floordiv) (defScope s_Counts_floordiv) .none kV_mfl dc_mfl pm_mfl an_mfl cd_mfl ct_mfl), sl_mfl⟩)
    (c_mfl : PySem.W.codeIn K cd_mfl "Counts.__floordiv__" = true)
    (k_mfl : PySem.W.keepIn K (.ref f_mfl) = true)
    (a_mmd : PySem.W.findIn K (.ref C) "__mod__" = some (some (.ref f_mmd)))
    (i_mmd : PySem.W.isFn K (.ref f_mmd) = true)
    (l_mmd : K.lookup f_mmd = some ⟨oc_mmd, od_mmd, .func (PySem.W.fnOf "__mod__" "Counts.__mod__" (defArgs s_Counts_mod) (defBody s_Counts_mod) (defScope s_Counts_mod) .none kV_mmd dc_mmd pm_mmd an_mmd cd_mmd ct_mmd), sl_mmd⟩)
    (c_mmd : PySem.W.codeIn K cd_mmd "Counts.__mod__" = true)
    (k_mmd : PySem.W.keepIn K (.ref f_mmd) = true)
    (a_ND : PySem.W.nsIn K mainGlobals "NoDivisor" = some (some (.ref ND)))
    (x_ND : ∃ nm q N bs bm sn sub ab col dd k0 k1 k2 k3 k5, K.lookup ND = some (excClassObj nm q ND N bs bm true sn sub ab col dd k0 k1 k2 k3 k5 "ZeroDivisionError.__new__") ∧ refsT [.type "ZeroDivisionError", .type "ArithmeticError", .type "Exception", .type "BaseException", .type "object"] bm = true)
    (sa_ND : PySem.W.findIn K (.ref ND) "__setattr__" = some (some (.builtin "object.__setattr__")))
    (ec_ND : PySem.W.subIn K (.ref ND) (.type "BaseException") = some true)
    (ty_ND : PySem.W.typeIn K (.ref ND) = some (.type "type"))
    (kc_ND : PySem.W.keepIn K (.ref ND) = true)
    (is_ND : PySem.W.isClsIn K ND = true)
    (ss_ND : PySem.W.subIn K (.ref ND) (.ref ND) = some true)
    (nf_ND : PySem.W.findIn K (.ref ND) "word" = some none)
    (a_xd : PySem.W.findIn K (.ref ND) "__init__" = some (some (.ref f_xd)))
    (t_xd : PySem.W.typeIn K (.ref f_xd) = some (.type "function"))
    (l_xd : K.lookup f_xd = some ⟨oc_xd, od_xd, .func (PySem.W.fnOf "__init__" "NoDivisor.__init__" (defArgs s_NoDivisor_init) (defBody s_NoDivisor_init) (defScope s_NoDivisor_init) .none kV_xd dc_xd pm_xd an_xd cd_xd ct_xd), sl_xd⟩)
    (c_xd : PySem.W.codeIn K cd_xd "NoDivisor.__init__" = true)
    (k_xd : PySem.W.keepIn K (.ref f_xd) = true)
    (a_mof : PySem.W.findCls K (.ref C) (.type "type") "of" = some (.get (.builtin "classmethod.__get__") (.ref q_mof) .none (.ref C)))
    (rc_mof : PySem.W.recIn K q_mof "classmethod" = some (.ref f_mof :: r_mof))
    (l_mof : K.lookup f_mof = some ⟨oc_mof, od_mof, .func (PySem.W.fnOf "of" "Counts.of" (defArgs s_Counts_of) (defBody s_Counts_of) (defScope s_Counts_of) .none kV_mof dc_mof pm_mof an_mof cd_mof ct_mof), sl_mof⟩)
    (c_mof : PySem.W.codeIn K cd_mof "Counts.of" = true)
    (fi_mof : PySem.W.fnIn K f_mof = true)
    (k_mof : PySem.W.keepIn K (.ref f_mof) = true)
    (rd_C : PySem.W.readsIn K C (.type "type") = true)
    (ga_C : PySem.W.specialIn K (.ref C) "__getattribute__" = some (some (.builtin "type.__getattribute__")))
    (a_LET : PySem.W.nsIn K mainGlobals "LETTERS" = some (some (.str LET tk_LET)))
    (fi_mget : PySem.W.fnIn K f_mget = true)
    (hg_ND : PySem.W.findIn K (.ref ND) "__getattribute__" = some (some (.builtin "BaseException.__getattribute__")))
    (hk_ND : PySem.W.findIn K (.ref ND) "__getattr__" = some none)
    (hd_ND : PySem.W.hasDictIn K ND = true)
    (ca_ND : PySem.W.findIn K (.ref ND) "__class__" = some (some (.builtin "object.__class__")))
    (cm_ND : PySem.W.mroIn K ND (.type "object") = some true)
    (a_ce : PySem.W.nsIn K mainGlobals "CountsheldError" = some (some (.ref ce)))
    (k1_ND : PySem.W.kitOne K (.ref ND) (.ref ce) = some false)
    (k2_ND : PySem.W.kitOne K (.ref ND) (.type "ZeroDivisionError") = some true)
    (z_len : PySem.W.nsIn K mainGlobals "len" = some none)
    (z_int : PySem.W.nsIn K mainGlobals "int" = some none)
    (z_abs : PySem.W.nsIn K mainGlobals "abs" = some none)
    (z_list : PySem.W.nsIn K mainGlobals "list" = some none)
    (z_range : PySem.W.nsIn K mainGlobals "range" = some none)
    (z_sorted : PySem.W.nsIn K mainGlobals "sorted" = some none)
    (z_str : PySem.W.nsIn K mainGlobals "str" = some none)
    (z_isinstance : PySem.W.nsIn K mainGlobals "isinstance" = some none)
    (z_sum : PySem.W.nsIn K mainGlobals "sum" = some none)
    (z_tuple : PySem.W.nsIn K mainGlobals "tuple" = some none)
    (z_dict : PySem.W.nsIn K mainGlobals "dict" = some none)
    (z_all : PySem.W.nsIn K mainGlobals "all" = some none)
    (z_bool : PySem.W.nsIn K mainGlobals "bool" = some none)
    (z_enumerate : PySem.W.nsIn K mainGlobals "enumerate" = some none)
    (z_min : PySem.W.nsIn K mainGlobals "min" = some none)
    (z_max : PySem.W.nsIn K mainGlobals "max" = some none)
    (z_ZeroDivisionError : PySem.W.nsIn K mainGlobals "ZeroDivisionError" = some none)
    : ∃ fd : FuncData, (∀ (s : Shared) (v : Value), BindsTo s fd ⟨[v], []⟩ [("_law_script", v)]) ∧ ∀ base : Heap, K.In base → base.Ns mainGlobals mg → FnOk l.prog w K mg base CX0 7 fa fd ["_law_script"] (spLaw K) := by
  have e := hfa.symm.trans (PySem.W.mg_of X G a_law)
  cases e
  have g : Bi mg := ⟨PySem.W.mg_none_of X G z_len, PySem.W.mg_none_of X G z_int, PySem.W.mg_none_of X G z_abs, PySem.W.mg_none_of X G z_list, PySem.W.mg_none_of X G z_range, PySem.W.mg_none_of X G z_sorted, PySem.W.mg_none_of X G z_str, PySem.W.mg_none_of X G z_isinstance, PySem.W.mg_none_of X G z_sum, PySem.W.mg_none_of X G z_tuple, PySem.W.mg_none_of X G z_dict, PySem.W.mg_none_of X G z_all, PySem.W.mg_none_of X G z_bool, PySem.W.mg_none_of X G z_enumerate⟩
  have F_isint := fun_mk (st := s_is_integer) l_isint c_isint k_isint
  have b_isint := F_isint.binds (ps := ["thing"]) fun _ _ _ _ _ _ us hl => match us, hl with | [_], _ => rfl
  have F_isword := fun_mk (st := s_is_word) l_isword c_isword k_isword
  have b_isword := F_isword.binds (ps := ["thing"]) fun _ _ _ _ _ _ us hl => match us, hl with | [_], _ => rfl
  have F_issmall := fun_mk (st := s_is_small) l_issmall c_issmall k_issmall
  have b_issmall := F_issmall.binds (ps := ["thing"]) fun _ _ _ _ _ _ us hl => match us, hl with | [_], _ => rfl
  have F_ispair := fun_mk (st := s_is_pair) l_ispair c_ispair k_ispair
  have b_ispair := F_ispair.binds (ps := ["thing"]) fun _ _ _ _ _ _ us hl => match us, hl with | [_], _ => rfl
  have F_distinct := fun_mk (st := s_distinct) l_distinct c_distinct k_distinct
  have b_distinct := F_distinct.binds (ps := ["words"]) fun _ _ _ _ _ _ us hl => match us, hl with | [_], _ => rfl
  have F_source := fun_mk (st := s_l_source) l_source c_source k_source
  have b_source := F_source.binds (ps := ["_law_script"]) fun _ _ _ _ _ _ us hl => match us, hl with | [_], _ => rfl
  have F_mixed := fun_mk (st := s_l_mixed) l_mixed c_mixed k_mixed
  have b_mixed := F_mixed.binds (ps := ["_law_cell", "_law_count"]) fun _ _ _ _ _ _ us hl => match us, hl with | [_, _], _ => rfl
  have F_draw := fun_mk (st := s_l_draw) l_draw c_draw k_draw
  have b_draw := F_draw.binds (ps := ["_law_source_here", "_law_size"]) fun _ _ _ _ _ _ us hl => match us, hl with | [_, _], _ => rfl
  have F_word := fun_mk (st := s_l_word) l_word c_word k_word
  have b_word := F_word.binds (ps := ["_law_source_here"]) fun _ _ _ _ _ _ us hl => match us, hl with | [_], _ => rfl
  have F_number := fun_mk (st := s_l_number) l_number c_number k_number
  have b_number := F_number.binds (ps := ["_law_source_here"]) fun _ _ _ _ _ _ us hl => match us, hl with | [_], _ => rfl
  have F_pairs := fun_mk (st := s_l_pairs) l_pairs c_pairs k_pairs
  have b_pairs := F_pairs.binds (ps := ["_law_source_here", "_law_most"]) fun _ _ _ _ _ _ us hl => match us, hl with | [_, _], _ => rfl
  have F_model := fun_mk (st := s_l_model) l_model c_model k_model
  have b_model := F_model.binds (ps := ["_law_pairs_here"]) fun _ _ _ _ _ _ us hl => match us, hl with | [_], _ => rfl
  have F_told := fun_mk (st := s_l_told) l_told c_told k_told
  have b_told := F_told.binds (ps := ["_law_model_here"]) fun _ _ _ _ _ _ us hl => match us, hl with | [_], _ => rfl
  have F_lint := fun_mk (st := s_l_is_integer) l_lint c_lint k_lint
  have b_lint := F_lint.binds (ps := ["_law_thing"]) fun _ _ _ _ _ _ us hl => match us, hl with | [_], _ => rfl
  have F_jw := fun_mk (st := s_joint_words) l_jw c_jw k_jw
  have b_jw := F_jw.binds (ps := ["one", "other"]) fun _ _ _ _ _ _ us hl => match us, hl with | [_, _], _ => rfl
  have F_equal := fun_mk (st := s_l_equal) l_equal c_equal k_equal
  have b_equal := F_equal.binds (ps := ["_law_counts", "_law_model_here"]) fun _ _ _ _ _ _ us hl => match us, hl with | [_, _], _ => rfl
  have F_divisor := fun_mk (st := s_l_divisor) l_divisor c_divisor k_divisor
  have b_divisor := F_divisor.binds (ps := ["_law_source_here", "_law_pairs_here"]) fun _ _ _ _ _ _ us hl => match us, hl with | [_, _], _ => rfl
  have F_due := fun_mk (st := s_l_due) l_due c_due k_due
  have b_due := F_due.binds (ps := ["_law_divisor_here"]) fun _ _ _ _ _ _ us hl => match us, hl with | [_], _ => rfl
  have F_refused := fun_mk (st := s_l_refused) l_refused c_refused k_refused
  have b_refused := F_refused.binds (ps := ["_law_counts", "_law_divisor_here", "_law_word_here"]) fun _ _ _ _ _ _ us hl => match us, hl with | [_, _, _], _ => rfl
  have F_fits := fun_mk (st := s_l_fits) l_fits c_fits k_fits
  have b_fits := F_fits.binds (ps := ["_law_times", "_law_model_here", "_law_divisor_here"]) fun _ _ _ _ _ _ us hl => match us, hl with | [_, _, _], _ => rfl
  have F_law := fun_mk (st := s_law) l_law c_law k_law
  have b_law := F_law.binds (ps := ["_law_script"]) fun _ _ _ _ _ _ us hl => match us, hl with | [_], _ => rfl
  have F_init := fun_mk (st := s_Counts_init) l_init c_init k_init
  have F_mwords := fun_mk (st := s_Counts_words) l_mwords c_mwords k_mwords
  have b_mwords := F_mwords.binds (ps := ["self"]) fun _ _ _ _ _ _ us hl => match us, hl with | [_], _ => rfl
  have F_mpairs := fun_mk (st := s_Counts_pairs) l_mpairs c_mpairs k_mpairs
  have b_mpairs := F_mpairs.binds (ps := ["self"]) fun _ _ _ _ _ _ us hl => match us, hl with | [_], _ => rfl
  have F_monly := fun_mk (st := s_Counts_only) l_monly c_monly k_monly
  have F_mget := fun_mk (st := s_Counts_getitem) l_mget c_mget k_mget
  have b_mget := F_mget.binds (ps := ["self", "word"]) fun _ _ _ _ _ _ us hl => match us, hl with | [_, _], _ => rfl
  have F_madd := fun_mk (st := s_Counts_add) l_madd c_madd k_madd
  have b_madd := F_madd.binds (ps := ["self", "other"]) fun _ _ _ _ _ _ us hl => match us, hl with | [_, _], _ => rfl
  have F_mmul := fun_mk (st := s_Counts_mul) l_mmul c_mmul k_mmul
  have b_mmul := F_mmul.binds (ps := ["self", "times"]) fun _ _ _ _ _ _ us hl => match us, hl with | [_, _], _ => rfl
  have F_mrmul := fun_mk (st := s_Counts_rmul) l_mrmul c_mrmul k_mrmul
  have b_mrmul := F_mrmul.binds (ps := ["self", "times"]) fun _ _ _ _ _ _ us hl => match us, hl with | [_, _], _ => rfl
  have F_msub := fun_mk (st := s_Counts_sub) l_msub c_msub k_msub
  have b_msub := F_msub.binds (ps := ["self", "other"]) fun _ _ _ _ _ _ us hl => match us, hl with | [_, _], _ => rfl
  have F_mbool := fun_mk (st := s_Counts_bool) l_mbool c_mbool k_mbool
  have b_mbool := F_mbool.binds (ps := ["self"]) fun _ _ _ _ _ _ us hl => match us, hl with | [_], _ => rfl
  have F_meq := fun_mk (st := s_Counts_eq) l_meq c_meq k_meq
  have b_meq := F_meq.binds (ps := ["self", "other"]) fun _ _ _ _ _ _ us hl => match us, hl with | [_, _], _ => rfl
  have F_mfl := fun_mk (st := s_Counts_floordiv) l_mfl c_mfl k_mfl
  have b_mfl := F_mfl.binds (ps := ["self", "other"]) fun _ _ _ _ _ _ us hl => match us, hl with | [_, _], _ => rfl
  have F_mmd := fun_mk (st := s_Counts_mod) l_mmd c_mmd k_mmd
  have b_mmd := F_mmd.binds (ps := ["self", "other"]) fun _ _ _ _ _ _ us hl => match us, hl with | [_, _], _ => rfl
  have F_xd := fun_mk (st := s_NoDivisor_init) l_xd c_xd k_xd
  have b_xd := F_xd.binds (ps := ["self", "word"]) fun _ _ _ _ _ _ us hl => match us, hl with | [_, _], _ => rfl
  have F_mof := fun_mk (st := s_Counts_of) l_mof c_mof k_mof
  have b_mof := F_mof.binds (ps := ["cls", "pairs"]) fun _ _ _ _ _ _ us hl => match us, hl with | [_, _], _ => rfl
  refine ⟨PySem.W.fnOf "law" "law" (defArgs s_law) (defBody s_law) (defScope s_law) .none kV_law dc_law pm_law an_law cd_law ct_law, fun s v => .of_eq rfl, fun base _ _ => ?_⟩
  have M := fun {x : Str} {v : Value} (a : PySem.W.nsIn K mainGlobals x = some (some v)) => PySem.W.mg_of X G a
  have gj : Bj mg := ⟨g, PySem.W.mg_none_of X G z_min, PySem.W.mg_none_of X G z_max⟩
  have FII : Def l.prog w K mg base CX0 1 "is_integer" ["thing"] (spIsInteger K) f_isint _ := ⟨ok_is_integer F_isint g, M a_isint, k_isint, b_isint⟩
  have FIW : Def l.prog w K mg base CX0 1 "is_word" ["thing"] (spIsWord K) f_isword _ := ⟨ok_is_word F_isword g (M a_LET), M a_isword, k_isword, b_isword⟩
  have FIS : Def l.prog w K mg base CX0 2 "is_small" ["thing"] (spIsSmall K) f_issmall _ := ⟨ok_is_small F_issmall g FII, M a_issmall, k_issmall, b_issmall⟩
  have FIP : Def l.prog w K mg base CX0 3 "is_pair" ["thing"] (spIsPair K) f_ispair _ := ⟨ok_is_pair F_ispair g FIW FIS, M a_ispair, k_ispair, b_ispair⟩
  have FDI : Def l.prog w K mg base CX0 1 "distinct" ["words"] (spDistinct K) f_distinct _ := ⟨ok_distinct F_distinct g, M a_distinct, k_distinct, b_distinct⟩
  have FSO : Def l.prog w K mg base CX0 1 "_law_source" ["_law_script"] (spSource K) f_source _ := ⟨ok_source F_source g, M a_source, k_source, b_source⟩
  have FDR : Def l.prog w K mg base CX0 2 "_law_draw" ["_law_source_here", "_law_size"] spDraw f_draw _ := ⟨ok_draw F_draw g F_mixed (M a_mixed) b_mixed, M a_draw, k_draw, b_draw⟩
  have FWD : Def l.prog w K mg base CX0 3 "_law_word" ["_law_source_here"] spWord f_word _ := ⟨ok_word F_word g FDR, M a_word, k_word, b_word⟩
  have FNU : Def l.prog w K mg base CX0 3 "_law_number" ["_law_source_here"] spNumber f_number _ := ⟨ok_number F_number g FDR, M a_number, k_number, b_number⟩
  have FPA : Def l.prog w K mg base CX0 4 "_law_pairs" ["_law_source_here", "_law_most"] spPairs f_pairs _ := ⟨ok_pairs F_pairs g FDR FWD FNU, M a_pairs, k_pairs, b_pairs⟩
  have FMO : Def l.prog w K mg base CX0 1 "_law_model" ["_law_pairs_here"] spModel f_model _ := ⟨ok_model F_model g, M a_model, k_model, b_model⟩
  have FTO : Def l.prog w K mg base CX0 1 "_law_told" ["_law_model_here"] spTold f_told _ := ⟨ok_told F_told g, M a_told, k_told, b_told⟩
  have FLI : Def l.prog w K mg base CX0 1 "_law_is_integer" ["_law_thing"] (spIsInteger K) f_lint _ := ⟨ok_lint F_lint g, M a_lint, k_lint, b_lint⟩
  have cl : Cls K C := ⟨pg_C, hd_C, po_C, sa_C⟩
  have ci : CI K C := ⟨cl, cc_C, ch_C, ct_C, cm_C⟩
  have OND : OexA K ND := ⟨⟨_, _, _, _, base_Z, x_ND⟩, sa_ND, ec_ND, ty_ND, kc_ND⟩
  have XND : XDefA l.prog w K mg base "NoDivisor" ND f_xd "word" ["self", "word"] _ := ⟨OND, a_xd, t_xd, ok_xdiv F_xd OND nf_ND, b_xd, M a_ND, exm_self ec_ND is_ND ty_ND ss_ND⟩
  have T : CT l.prog w K mg base C f_init := ⟨cl, n_C_held, M a_C, ⟨mk_C, a_init, i_init, kc_C⟩, ok_init g cl n_C_held l_init c_init⟩
  have MWO : MDef l.prog w K mg base CX0 2 C "words" ["self"] (spWords C) f_mwords _ := ⟨⟨a_mwords, i_mwords, k_mwords⟩, ok_words F_mwords g T FDI, b_mwords⟩
  have MPA : MDef l.prog w K mg base CX0 3 C "pairs" ["self"] (spPairsM C) f_mpairs _ := ⟨⟨a_mpairs, i_mpairs, k_mpairs⟩, ok_pairsM F_mpairs g T MWO, b_mpairs⟩
  have MON : RDef l.prog w K mg base CX0 4 C "only" (spOnly C) f_monly := ⟨⟨a_monly, i_monly, k_monly⟩, ok_only g T MPA l_monly c_monly⟩
  have SGE : GDef l.prog w K mg base CX0 2 C "__getitem__" ["self", "word"] (spGet C) f_mget _ := ⟨⟨a_mget, i_mget⟩, fi_mget, ok_get F_mget g T FIW, b_mget⟩
  have OAD : ODef l.prog w K mg base CX0 4 C "__add__" ["self", "other"] (spBin C fun a b => a + b) f_madd _ := ⟨⟨sf_C, a_madd, i_madd⟩, ok_add F_madd g T ci MPA, b_madd⟩
  have OMU : TDef l.prog w K mg base CX0 3 C "mul" ["self", "times"] (spMul C) f_mmul f_mrmul _ := ⟨⟨sf_C, a_mmul, i_mmul, a_mrmul, i_mrmul, si_C, is_C⟩, im_C, ir_C, ok_mul F_mmul g T MWO, b_mmul⟩
  have ORM := ok_rmul (P := l.prog) (w := w) (mg := mg) (base := base) F_mrmul gj T OMU
  have FJW : Def l.prog w K mg base CX0 3 "joint_words" ["one", "other"] (spJoint C) f_jw _ := ⟨ok_joint F_jw g T FDI MWO, M a_jw, k_jw, b_jw⟩
  have OSU : ODef l.prog w K mg base CX0 4 C "__sub__" ["self", "other"] (spBin C fun a b => a - b) f_msub _ := ⟨⟨sf_C, a_msub, i_msub⟩, ok_sub F_msub gj T ci SGE FJW, b_msub⟩
  have MBO : SDef l.prog w K mg base CX0 1 C "__bool__" ["self"] (spBool C) f_mbool _ := ⟨⟨a_mbool, i_mbool⟩, ns_C, ok_bool F_mbool g T, b_mbool⟩
  have EEQ : EDef l.prog w K mg base CX0 1 C ["self", "other"] (spEq C) f_meq _ := ⟨⟨a_meq, i_meq, ne_C, cm_C⟩, ok_eq F_meq g T ci, b_meq⟩
  have OFX : ODef l.prog w K mg base (L2.CX l.prog w) 4 C "__floordiv__" ["self", "other"] (spFloor C ND) f_mfl _ := ⟨⟨sf_C, a_mfl, i_mfl⟩, ok_floordiv F_mfl gj T ci SGE MWO XND, b_mfl⟩
  have OMX : ODef l.prog w K mg base (L2.CX l.prog w) 5 C "__mod__" ["self", "other"] (spMod C ND) f_mmd _ := ⟨⟨sf_C, a_mmd, i_mmd⟩, ok_mod F_mmd gj T ci OFX OSU OMU, b_mmd⟩
  have MOF : KDef l.prog w K mg base CX0 4 C (.type "type") "of" (spOf K C) q_mof f_mof := ⟨⟨rd_C, ga_C⟩, ⟨a_mof, ⟨_, rc_mof⟩, fi_mof⟩, fnR_of (ok_of F_mof g T FIP) b_mof⟩
  have FEQ : Def l.prog w K mg base CX0 4 "_law_equal" ["_law_counts", "_law_model_here"] (spEqual C) f_equal _ := ⟨ok_equal F_equal g T MPA FTO FLI, M a_equal, k_equal, b_equal⟩
  have OFC : ODef l.prog w K mg base CX0 4 C "__floordiv__" ["self", "other"] (spFloorC C ND) f_mfl _ := ⟨OFX.c, Cs.FnOk.calm OFX.ok, OFX.b⟩
  have OMC : ODef l.prog w K mg base CX0 5 C "__mod__" ["self", "other"] (spModC C ND) f_mmd _ := ⟨OMX.c, Cs.FnOk.calm OMX.ok, OMX.b⟩
  have EC_ND : ExcC K ND := ⟨hg_ND, hk_ND, ec_ND, hd_ND, ca_ND, ch_C, ct_C, cm_ND⟩
  have XF_ND : XfC K ND := ⟨hg_ND, hk_ND, ec_ND, hd_ND⟩
  have FDV : Def l.prog w K mg base CX0 4 "_law_divisor" ["_law_source_here", "_law_pairs_here"] spDivisor f_divisor _ := ⟨ok_divisor F_divisor g FDR FWD, M a_divisor, k_divisor, b_divisor⟩
  have FDU : Def l.prog w K mg base CX0 2 "_law_due" ["_law_divisor_here"] spDue f_due _ := ⟨ok_due F_due g FTO, M a_due, k_due, b_due⟩
  have FRF : Def l.prog w K mg base CX0 6 "_law_refused" ["_law_counts", "_law_divisor_here", "_law_word_here"] (spRefused C) f_refused _ := ⟨ok_refused F_refused g T OFX OMX XND EC_ND XF_ND nf_ND (M a_ce) (PySem.W.mg_none_of X G z_ZeroDivisionError) k1_ND k2_ND FLI, M a_refused, k_refused, b_refused⟩
  have FFI : Def l.prog w K mg base CX0 1 "_law_fits" ["_law_times", "_law_model_here", "_law_divisor_here"] spFits f_fits _ := ⟨ok_fits F_fits g, M a_fits, k_fits, b_fits⟩
  exact ok_law F_law g T FSO FPA FMO MOF FDV FDU FRF FFI FEQ FLI OFC OMC OAD OMU ORM b_mrmul MON MBO EEQ
end Cs
namespace Cs
open PySem PySem.Spec PyProof.Rows L2
abbrev R0 : PySem.W.OpenRow := PySem.W.OpenLaw.row PySem.Challenge.rw_countsheld_k08_counts_divided
def fd0 : FnA := ⟨fun K => (He.ga K "is_integer"), "is_integer", "is_integer", s_is_integer, [], false⟩
def fd1 : FnA := ⟨fun K => (He.ga K "is_word"), "is_word", "is_word", s_is_word, [], false⟩
def fd2 : FnA := ⟨fun K => (He.ga K "is_small"), "is_small", "is_small", s_is_small, [], false⟩
def fd3 : FnA := ⟨fun K => (He.ga K "is_pair"), "is_pair", "is_pair", s_is_pair, [], false⟩
def fd4 : FnA := ⟨fun K => (He.ga K "distinct"), "distinct", "distinct", s_distinct, [], false⟩
def fd5 : FnA := ⟨fun K => (He.ga K "_law_source"), "_law_source", "_law_source", s_l_source, [], false⟩
def fd6 : FnA := ⟨fun K => (He.ga K "_law_mixed"), "_law_mixed", "_law_mixed", s_l_mixed, [], false⟩
def fd7 : FnA := ⟨fun K => (He.ga K "_law_draw"), "_law_draw", "_law_draw", s_l_draw, [], false⟩
def fd8 : FnA := ⟨fun K => (He.ga K "_law_word"), "_law_word", "_law_word", s_l_word, [], false⟩
def fd9 : FnA := ⟨fun K => (He.ga K "_law_number"), "_law_number", "_law_number", s_l_number, [], false⟩
def fd10 : FnA := ⟨fun K => (He.ga K "_law_pairs"), "_law_pairs", "_law_pairs", s_l_pairs, [], false⟩
def fd11 : FnA := ⟨fun K => (He.ga K "_law_model"), "_law_model", "_law_model", s_l_model, [], false⟩
def fd12 : FnA := ⟨fun K => (He.ga K "_law_told"), "_law_told", "_law_told", s_l_told, [], false⟩
def fd13 : FnA := ⟨fun K => (He.ga K "_law_is_integer"), "_law_is_integer", "_law_is_integer", s_l_is_integer, [], false⟩
def fd14 : FnA := ⟨fun K => (He.ga K "joint_words"), "joint_words", "joint_words", s_joint_words, [], false⟩
def fd15 : FnA := ⟨fun K => (He.ga K "_law_equal"), "_law_equal", "_law_equal", s_l_equal, [], false⟩
def fd16 : FnA := ⟨fun K => (He.ga K "_law_divisor"), "_law_divisor", "_law_divisor", s_l_divisor, [], false⟩
def fd17 : FnA := ⟨fun K => (He.ga K "_law_due"), "_law_due", "_law_due", s_l_due, [], false⟩
def fd18 : FnA := ⟨fun K => (He.ga K "_law_refused"), "_law_refused", "_law_refused", s_l_refused, [], false⟩
def fd19 : FnA := ⟨fun K => (He.ga K "_law_fits"), "_law_fits", "_law_fits", s_l_fits, [], false⟩
def fd20 : FnA := ⟨fun K => (He.ga K "law"), "law", "law", s_law, [], false⟩
def fd21 : FnA := ⟨fun K => (He.ma K (He.ga K "Counts") "__init__"), "__init__", "Counts.__init__", s_Counts_init, [], false⟩
def fd22 : FnA := ⟨fun K => (He.ma K (He.ga K "Counts") "words"), "words", "Counts.words", s_Counts_words, [], false⟩
def fd23 : FnA := ⟨fun K => (He.ma K (He.ga K "Counts") "pairs"), "pairs", "Counts.pairs", s_Counts_pairs, [], false⟩
def fd24 : FnA := ⟨fun K => (He.ma K (He.ga K "Counts") "only"), "only", "Counts.only", s_Counts_only, [], false⟩
def fd25 : FnA := ⟨fun K => (He.ma K (He.ga K "Counts") "__getitem__"), "__getitem__", "Counts.__getitem__", s_Counts_getitem, [], false⟩
def fd26 : FnA := ⟨fun K => (He.ma K (He.ga K "Counts") "__add__"), "__add__", "Counts.__add__", s_Counts_add, [], false⟩
def fd27 : FnA := ⟨fun K => (He.ma K (He.ga K "Counts") "__mul__"), "__mul__", "Counts.__mul__", s_Counts_mul, [], false⟩
def fd28 : FnA := ⟨fun K => (He.ma K (He.ga K "Counts") "__rmul__"), "__rmul__", "Counts.__rmul__", s_Counts_rmul, [], false⟩
def fd29 : FnA := ⟨fun K => (He.ma K (He.ga K "Counts") "__sub__"), "__sub__", "Counts.__sub__", s_Counts_sub, [], false⟩
def fd30 : FnA := ⟨fun K => (He.ma K (He.ga K "Counts") "__bool__"), "__bool__", "Counts.__bool__", s_Counts_bool, [], false⟩
def fd31 : FnA := ⟨fun K => (He.ma K (He.ga K "Counts") "__eq__"), "__eq__", "Counts.__eq__", s_Counts_eq, [], false⟩
def fd32 : FnA := ⟨fun K => (He.ma K (He.ga K "Counts") "__floordiv__"), "__floordiv__", "Counts.__floordiv__", s_Counts_floordiv, [], false⟩
def fd33 : FnA := ⟨fun K => (He.ma K (He.ga K "Counts") "__mod__"), "__mod__", "Counts.__mod__", s_Counts_mod, [], false⟩
def fd34 : FnA := ⟨fun K => (He.ma K (He.ga K "NoDivisor") "__init__"), "__init__", "NoDivisor.__init__", s_NoDivisor_init, [], false⟩
def fd35 : FnA := ⟨fun K => (cmF K (He.ga K "Counts") "of" "classmethod"), "of", "Counts.of", s_Counts_of, [], false⟩
def ck0 (K : Fr) : Bool := exoT K (He.ga K "NoDivisor") "ZeroDivisionError.__new__" [.type "ZeroDivisionError", .type "ArithmeticError", .type "Exception", .type "BaseException", .type "object"]
def ck1 (K : Fr) : Bool := cmB K (He.ga K "Counts") "of"
def ck2 (K : Fr) : Bool := decide (PySem.W.nsIn K mainGlobals "is_integer" = some (some (.ref (He.ga K "is_integer"))))
def ck3 (K : Fr) : Bool := decide (PySem.W.keepIn K (.ref (He.ga K "is_integer")) = true)
def ck4 (K : Fr) : Bool := decide (PySem.W.nsIn K mainGlobals "is_word" = some (some (.ref (He.ga K "is_word"))))
def ck5 (K : Fr) : Bool := decide (PySem.W.keepIn K (.ref (He.ga K "is_word")) = true)
def ck6 (K : Fr) : Bool := decide (PySem.W.nsIn K mainGlobals "is_small" = some (some (.ref (He.ga K "is_small"))))
def ck7 (K : Fr) : Bool := decide (PySem.W.keepIn K (.ref (He.ga K "is_small")) = true)
def ck8 (K : Fr) : Bool := decide (PySem.W.nsIn K mainGlobals "is_pair" = some (some (.ref (He.ga K "is_pair"))))
def ck9 (K : Fr) : Bool := decide (PySem.W.keepIn K (.ref (He.ga K "is_pair")) = true)
def ck10 (K : Fr) : Bool := decide (PySem.W.nsIn K mainGlobals "distinct" = some (some (.ref (He.ga K "distinct"))))
def ck11 (K : Fr) : Bool := decide (PySem.W.keepIn K (.ref (He.ga K "distinct")) = true)
def ck12 (K : Fr) : Bool := decide (PySem.W.nsIn K mainGlobals "_law_source" = some (some (.ref (He.ga K "_law_source"))))
def ck13 (K : Fr) : Bool := decide (PySem.W.keepIn K (.ref (He.ga K "_law_source")) = true)
def ck14 (K : Fr) : Bool := decide (PySem.W.nsIn K mainGlobals "_law_mixed" = some (some (.ref (He.ga K "_law_mixed"))))
def ck15 (K : Fr) : Bool := decide (PySem.W.keepIn K (.ref (He.ga K "_law_mixed")) = true)
def ck16 (K : Fr) : Bool := decide (PySem.W.nsIn K mainGlobals "_law_draw" = some (some (.ref (He.ga K "_law_draw"))))
def ck17 (K : Fr) : Bool := decide (PySem.W.keepIn K (.ref (He.ga K "_law_draw")) = true)
def ck18 (K : Fr) : Bool := decide (PySem.W.nsIn K mainGlobals "_law_word" = some (some (.ref (He.ga K "_law_word"))))
def ck19 (K : Fr) : Bool := decide (PySem.W.keepIn K (.ref (He.ga K "_law_word")) = true)
def ck20 (K : Fr) : Bool := decide (PySem.W.nsIn K mainGlobals "_law_number" = some (some (.ref (He.ga K "_law_number"))))
def ck21 (K : Fr) : Bool := decide (PySem.W.keepIn K (.ref (He.ga K "_law_number")) = true)
def ck22 (K : Fr) : Bool := decide (PySem.W.nsIn K mainGlobals "_law_pairs" = some (some (.ref (He.ga K "_law_pairs"))))
def ck23 (K : Fr) : Bool := decide (PySem.W.keepIn K (.ref (He.ga K "_law_pairs")) = true)
def ck24 (K : Fr) : Bool := decide (PySem.W.nsIn K mainGlobals "_law_model" = some (some (.ref (He.ga K "_law_model"))))
def ck25 (K : Fr) : Bool := decide (PySem.W.keepIn K (.ref (He.ga K "_law_model")) = true)
def ck26 (K : Fr) : Bool := decide (PySem.W.nsIn K mainGlobals "_law_told" = some (some (.ref (He.ga K "_law_told"))))
def ck27 (K : Fr) : Bool := decide (PySem.W.keepIn K (.ref (He.ga K "_law_told")) = true)
def ck28 (K : Fr) : Bool := decide (PySem.W.nsIn K mainGlobals "_law_is_integer" = some (some (.ref (He.ga K "_law_is_integer"))))
def ck29 (K : Fr) : Bool := decide (PySem.W.keepIn K (.ref (He.ga K "_law_is_integer")) = true)
def ck30 (K : Fr) : Bool := decide (PySem.W.nsIn K mainGlobals "joint_words" = some (some (.ref (He.ga K "joint_words"))))
def ck31 (K : Fr) : Bool := decide (PySem.W.keepIn K (.ref (He.ga K "joint_words")) = true)
def ck32 (K : Fr) : Bool := decide (PySem.W.nsIn K mainGlobals "_law_equal" = some (some (.ref (He.ga K "_law_equal"))))
def ck33 (K : Fr) : Bool := decide (PySem.W.keepIn K (.ref (He.ga K "_law_equal")) = true)
def ck34 (K : Fr) : Bool := decide (PySem.W.nsIn K mainGlobals "_law_divisor" = some (some (.ref (He.ga K "_law_divisor"))))
def ck35 (K : Fr) : Bool := decide (PySem.W.keepIn K (.ref (He.ga K "_law_divisor")) = true)
def ck36 (K : Fr) : Bool := decide (PySem.W.nsIn K mainGlobals "_law_due" = some (some (.ref (He.ga K "_law_due"))))
def ck37 (K : Fr) : Bool := decide (PySem.W.keepIn K (.ref (He.ga K "_law_due")) = true)
def ck38 (K : Fr) : Bool := decide (PySem.W.nsIn K mainGlobals "_law_refused" = some (some (.ref (He.ga K "_law_refused"))))
def ck39 (K : Fr) : Bool := decide (PySem.W.keepIn K (.ref (He.ga K "_law_refused")) = true)
def ck40 (K : Fr) : Bool := decide (PySem.W.nsIn K mainGlobals "_law_fits" = some (some (.ref (He.ga K "_law_fits"))))
def ck41 (K : Fr) : Bool := decide (PySem.W.keepIn K (.ref (He.ga K "_law_fits")) = true)
def ck42 (K : Fr) : Bool := decide (PySem.W.nsIn K mainGlobals "law" = some (some (.ref (He.ga K "law"))))
def ck43 (K : Fr) : Bool := decide (PySem.W.keepIn K (.ref (He.ga K "law")) = true)
def ck44 (K : Fr) : Bool := decide (PySem.W.nsIn K mainGlobals "Counts" = some (some (.ref (He.ga K "Counts"))))
def ck45 (K : Fr) : Bool := decide (PySem.W.plainGet K (He.ga K "Counts") Str.empty = true)
def ck46 (K : Fr) : Bool := decide (PySem.W.hasDictIn K (He.ga K "Counts") = true)
def ck47 (K : Fr) : Bool := decide (PySem.W.plainOver K (He.ga K "Counts") = true)
def ck48 (K : Fr) : Bool := decide (PySem.W.findIn K (.ref (He.ga K "Counts")) "__setattr__" = some (some (.builtin "object.__setattr__")))
def ck49 (K : Fr) : Bool := decide (PySem.W.makesIn K (He.ga K "Counts") = true)
def ck50 (K : Fr) : Bool := decide (PySem.W.keepIn K (.ref (He.ga K "Counts")) = true)
def ck51 (K : Fr) : Bool := decide (PySem.W.noSeq K (He.ga K "Counts") = true)
def ck52 (K : Fr) : Bool := decide (PySem.W.findIn K (.ref (He.ga K "Counts")) "held" = some none)
def ck53 (K : Fr) : Bool := decide (PySem.W.selfFirst K (He.ga K "Counts") = true)
def ck54 (K : Fr) : Bool := decide (PySem.W.findIn K (.ref (He.ga K "Counts")) "__class__" = some (some (.builtin "object.__class__")))
def ck55 (K : Fr) : Bool := decide (PySem.W.specialIn K (.builtin "object.__class__") "__get__" = some (some (.builtin "getset_descriptor.__get__")))
def ck56 (K : Fr) : Bool := decide (PySem.W.takesIn K (.builtin "object.__class__") = some true)
def ck57 (K : Fr) : Bool := decide (PySem.W.mroIn K (He.ga K "Counts") (.type "object") = some true)
def ck58 (K : Fr) : Bool := decide (PySem.W.subIn K (.type "int") (.ref (He.ga K "Counts")) = some false)
def ck59 (K : Fr) : Bool := decide (PySem.W.subIn K (.ref (He.ga K "Counts")) (.type "int") = some false)
def ck60 (K : Fr) : Bool := decide (PySem.W.findIn K (.type "int") "__mul__" = some (some (.builtin "int.__mul__")))
def ck61 (K : Fr) : Bool := decide (PySem.W.findIn K (.type "int") "__rmul__" = some (some (.builtin "int.__rmul__")))
def ck62 (K : Fr) : Bool := decide (PySem.W.findIn K (.ref (He.ga K "Counts")) "__ne__" = some (some (.builtin "object.__ne__")))
def ck63 (K : Fr) : Bool := decide (PySem.W.findIn K (.ref (He.ga K "Counts")) "__init__" = some (some (.ref (He.ma K (He.ga K "Counts") "__init__"))))
def ck64 (K : Fr) : Bool := decide (PySem.W.isFn K (.ref (He.ma K (He.ga K "Counts") "__init__")) = true)
def ck65 (K : Fr) : Bool := decide (PySem.W.keepIn K (.ref (He.ma K (He.ga K "Counts") "__init__")) = true)
def ck66 (K : Fr) : Bool := decide (PySem.W.findIn K (.ref (He.ga K "Counts")) "words" = some (some (.ref (He.ma K (He.ga K "Counts") "words"))))
def ck67 (K : Fr) : Bool := decide (PySem.W.isFn K (.ref (He.ma K (He.ga K "Counts") "words")) = true)
def ck68 (K : Fr) : Bool := decide (PySem.W.keepIn K (.ref (He.ma K (He.ga K "Counts") "words")) = true)
def ck69 (K : Fr) : Bool := decide (PySem.W.findIn K (.ref (He.ga K "Counts")) "pairs" = some (some (.ref (He.ma K (He.ga K "Counts") "pairs"))))
def ck70 (K : Fr) : Bool := decide (PySem.W.isFn K (.ref (He.ma K (He.ga K "Counts") "pairs")) = true)
def ck71 (K : Fr) : Bool := decide (PySem.W.keepIn K (.ref (He.ma K (He.ga K "Counts") "pairs")) = true)
def ck72 (K : Fr) : Bool := decide (PySem.W.findIn K (.ref (He.ga K "Counts")) "only" = some (some (.ref (He.ma K (He.ga K "Counts") "only"))))
def ck73 (K : Fr) : Bool := decide (PySem.W.isFn K (.ref (He.ma K (He.ga K "Counts") "only")) = true)
def ck74 (K : Fr) : Bool := decide (PySem.W.keepIn K (.ref (He.ma K (He.ga K "Counts") "only")) = true)
def ck75 (K : Fr) : Bool := decide (PySem.W.findIn K (.ref (He.ga K "Counts")) "__getitem__" = some (some (.ref (He.ma K (He.ga K "Counts") "__getitem__"))))
def ck76 (K : Fr) : Bool := decide (PySem.W.isFn K (.ref (He.ma K (He.ga K "Counts") "__getitem__")) = true)
def ck77 (K : Fr) : Bool := decide (PySem.W.keepIn K (.ref (He.ma K (He.ga K "Counts") "__getitem__")) = true)
def ck78 (K : Fr) : Bool := decide (PySem.W.findIn K (.ref (He.ga K "Counts")) "__add__" = some (some (.ref (He.ma K (He.ga K "Counts") "__add__"))))
def ck79 (K : Fr) : Bool := decide (PySem.W.isFn K (.ref (He.ma K (He.ga K "Counts") "__add__")) = true)
def ck80 (K : Fr) : Bool := decide (PySem.W.keepIn K (.ref (He.ma K (He.ga K "Counts") "__add__")) = true)
def ck81 (K : Fr) : Bool := decide (PySem.W.findIn K (.ref (He.ga K "Counts")) "__mul__" = some (some (.ref (He.ma K (He.ga K "Counts") "__mul__"))))
def ck82 (K : Fr) : Bool := decide (PySem.W.isFn K (.ref (He.ma K (He.ga K "Counts") "__mul__")) = true)
def ck83 (K : Fr) : Bool := decide (PySem.W.keepIn K (.ref (He.ma K (He.ga K "Counts") "__mul__")) = true)
def ck84 (K : Fr) : Bool := decide (PySem.W.findIn K (.ref (He.ga K "Counts")) "__rmul__" = some (some (.ref (He.ma K (He.ga K "Counts") "__rmul__"))))
def ck85 (K : Fr) : Bool := decide (PySem.W.isFn K (.ref (He.ma K (He.ga K "Counts") "__rmul__")) = true)
def ck86 (K : Fr) : Bool := decide (PySem.W.keepIn K (.ref (He.ma K (He.ga K "Counts") "__rmul__")) = true)
def ck87 (K : Fr) : Bool := decide (PySem.W.findIn K (.ref (He.ga K "Counts")) "__sub__" = some (some (.ref (He.ma K (He.ga K "Counts") "__sub__"))))
def ck88 (K : Fr) : Bool := decide (PySem.W.isFn K (.ref (He.ma K (He.ga K "Counts") "__sub__")) = true)
def ck89 (K : Fr) : Bool := decide (PySem.W.keepIn K (.ref (He.ma K (He.ga K "Counts") "__sub__")) = true)
def ck90 (K : Fr) : Bool := decide (PySem.W.findIn K (.ref (He.ga K "Counts")) "__bool__" = some (some (.ref (He.ma K (He.ga K "Counts") "__bool__"))))
def ck91 (K : Fr) : Bool := decide (PySem.W.isFn K (.ref (He.ma K (He.ga K "Counts") "__bool__")) = true)
def ck92 (K : Fr) : Bool := decide (PySem.W.keepIn K (.ref (He.ma K (He.ga K "Counts") "__bool__")) = true)
def ck93 (K : Fr) : Bool := decide (PySem.W.findIn K (.ref (He.ga K "Counts")) "__eq__" = some (some (.ref (He.ma K (He.ga K "Counts") "__eq__"))))
def ck94 (K : Fr) : Bool := decide (PySem.W.isFn K (.ref (He.ma K (He.ga K "Counts") "__eq__")) = true)
def ck95 (K : Fr) : Bool := decide (PySem.W.keepIn K (.ref (He.ma K (He.ga K "Counts") "__eq__")) = true)
def ck96 (K : Fr) : Bool := decide (PySem.W.findIn K (.ref (He.ga K "Counts")) "__floordiv__" = some (some (.ref (He.ma K (He.ga K "Counts") "__floordiv__"))))
def ck97 (K : Fr) : Bool := decide (PySem.W.isFn K (.ref (He.ma K (He.ga K "Counts") "__floordiv__")) = true)
def ck98 (K : Fr) : Bool := decide (PySem.W.keepIn K (.ref (He.ma K (He.ga K "Counts") "__floordiv__")) = true)
def ck99 (K : Fr) : Bool := decide (PySem.W.findIn K (.ref (He.ga K "Counts")) "__mod__" = some (some (.ref (He.ma K (He.ga K "Counts") "__mod__"))))
def ck100 (K : Fr) : Bool := decide (PySem.W.isFn K (.ref (He.ma K (He.ga K "Counts") "__mod__")) = true)
def ck101 (K : Fr) : Bool := decide (PySem.W.keepIn K (.ref (He.ma K (He.ga K "Counts") "__mod__")) = true)
def ck102 (K : Fr) : Bool := decide (PySem.W.nsIn K mainGlobals "NoDivisor" = some (some (.ref (He.ga K "NoDivisor"))))
def ck103 (K : Fr) : Bool := decide (PySem.W.findIn K (.ref (He.ga K "NoDivisor")) "__setattr__" = some (some (.builtin "object.__setattr__")))
def ck104 (K : Fr) : Bool := decide (PySem.W.subIn K (.ref (He.ga K "NoDivisor")) (.type "BaseException") = some true)
def ck105 (K : Fr) : Bool := decide (PySem.W.typeIn K (.ref (He.ga K "NoDivisor")) = some (.type "type"))
def ck106 (K : Fr) : Bool := decide (PySem.W.keepIn K (.ref (He.ga K "NoDivisor")) = true)
def ck107 (K : Fr) : Bool := decide (PySem.W.isClsIn K (He.ga K "NoDivisor") = true)
def ck108 (K : Fr) : Bool := decide (PySem.W.subIn K (.ref (He.ga K "NoDivisor")) (.ref (He.ga K "NoDivisor")) = some true)
def ck109 (K : Fr) : Bool := decide (PySem.W.findIn K (.ref (He.ga K "NoDivisor")) "word" = some none)
def ck110 (K : Fr) : Bool := decide (PySem.W.findIn K (.ref (He.ga K "NoDivisor")) "__init__" = some (some (.ref (He.ma K (He.ga K "NoDivisor") "__init__"))))
def ck111 (K : Fr) : Bool := decide (PySem.W.typeIn K (.ref (He.ma K (He.ga K "NoDivisor") "__init__")) = some (.type "function"))
def ck112 (K : Fr) : Bool := decide (PySem.W.keepIn K (.ref (He.ma K (He.ga K "NoDivisor") "__init__")) = true)
def ck113 (K : Fr) : Bool := decide (PySem.W.recIn K (cmQ K (He.ga K "Counts") "of") "classmethod" = some (.ref (cmF K (He.ga K "Counts") "of" "classmethod") :: (cmR K (He.ga K "Counts") "of" "classmethod")))
def ck114 (K : Fr) : Bool := decide (PySem.W.fnIn K (cmF K (He.ga K "Counts") "of" "classmethod") = true)
def ck115 (K : Fr) : Bool := decide (PySem.W.keepIn K (.ref (cmF K (He.ga K "Counts") "of" "classmethod")) = true)
def ck116 (K : Fr) : Bool := decide (PySem.W.readsIn K (He.ga K "Counts") (.type "type") = true)
def ck117 (K : Fr) : Bool := decide (PySem.W.specialIn K (.ref (He.ga K "Counts")) "__getattribute__" = some (some (.builtin "type.__getattribute__")))
def ck118 (K : Fr) : Bool := strB K "LETTERS" LET
def ck119 (K : Fr) : Bool := decide (PySem.W.fnIn K (He.ma K (He.ga K "Counts") "__getitem__") = true)
def ck120 (K : Fr) : Bool := decide (PySem.W.findIn K (.ref (He.ga K "NoDivisor")) "__getattribute__" = some (some (.builtin "BaseException.__getattribute__")))
def ck121 (K : Fr) : Bool := decide (PySem.W.findIn K (.ref (He.ga K "NoDivisor")) "__getattr__" = some none)
def ck122 (K : Fr) : Bool := decide (PySem.W.hasDictIn K (He.ga K "NoDivisor") = true)
def ck123 (K : Fr) : Bool := decide (PySem.W.findIn K (.ref (He.ga K "NoDivisor")) "__class__" = some (some (.builtin "object.__class__")))
def ck124 (K : Fr) : Bool := decide (PySem.W.mroIn K (He.ga K "NoDivisor") (.type "object") = some true)
def ck125 (K : Fr) : Bool := decide (PySem.W.nsIn K mainGlobals "CountsheldError" = some (some (.ref (He.ga K "CountsheldError"))))
def ck126 (K : Fr) : Bool := decide (PySem.W.kitOne K (.ref (He.ga K "NoDivisor")) (.ref (He.ga K "CountsheldError")) = some false)
def ck127 (K : Fr) : Bool := decide (PySem.W.kitOne K (.ref (He.ga K "NoDivisor")) (.type "ZeroDivisionError") = some true)
def ck128 (K : Fr) : Bool := decide (PySem.W.nsIn K mainGlobals "len" = some none)
def ck129 (K : Fr) : Bool := decide (PySem.W.nsIn K mainGlobals "int" = some none)
def ck130 (K : Fr) : Bool := decide (PySem.W.nsIn K mainGlobals "abs" = some none)
def ck131 (K : Fr) : Bool := decide (PySem.W.nsIn K mainGlobals "list" = some none)
def ck132 (K : Fr) : Bool := decide (PySem.W.nsIn K mainGlobals "range" = some none)
def ck133 (K : Fr) : Bool := decide (PySem.W.nsIn K mainGlobals "sorted" = some none)
def ck134 (K : Fr) : Bool := decide (PySem.W.nsIn K mainGlobals "str" = some none)
def ck135 (K : Fr) : Bool := decide (PySem.W.nsIn K mainGlobals "isinstance" = some none)
def ck136 (K : Fr) : Bool := decide (PySem.W.nsIn K mainGlobals "sum" = some none)
def ck137 (K : Fr) : Bool := decide (PySem.W.nsIn K mainGlobals "tuple" = some none)
def ck138 (K : Fr) : Bool := decide (PySem.W.nsIn K mainGlobals "dict" = some none)
def ck139 (K : Fr) : Bool := decide (PySem.W.nsIn K mainGlobals "all" = some none)
def ck140 (K : Fr) : Bool := decide (PySem.W.nsIn K mainGlobals "bool" = some none)
def ck141 (K : Fr) : Bool := decide (PySem.W.nsIn K mainGlobals "enumerate" = some none)
def ck142 (K : Fr) : Bool := decide (PySem.W.nsIn K mainGlobals "min" = some none)
def ck143 (K : Fr) : Bool := decide (PySem.W.nsIn K mainGlobals "max" = some none)
def ck144 (K : Fr) : Bool := decide (PySem.W.nsIn K mainGlobals "ZeroDivisionError" = some none)
def cks_0 : List (Fr → Bool) := [ck0, ck1, ck2, ck3, ck4, ck5, ck6, ck7, ck8, ck9, ck10, ck11, ck12, ck13, ck14, ck15, ck16, ck17, ck18, ck19, ck20, ck21, ck22, ck23, ck24, ck25, ck26, ck27, ck28, ck29]
def cks_1 : List (Fr → Bool) := [ck30, ck31, ck32, ck33, ck34, ck35, ck36, ck37, ck38, ck39, ck40, ck41, ck42, ck43, ck44, ck45, ck46, ck47, ck48, ck49, ck50, ck51, ck52, ck53, ck54, ck55, ck56, ck57, ck58, ck59]
def cks_2 : List (Fr → Bool) := [ck60, ck61, ck62, ck63, ck64, ck65, ck66, ck67, ck68, ck69, ck70, ck71, ck72, ck73, ck74, ck75, ck76, ck77, ck78, ck79, ck80, ck81, ck82, ck83, ck84, ck85, ck86, ck87, ck88, ck89]
def cks_3 : List (Fr → Bool) := [ck90, ck91, ck92, ck93, ck94, ck95, ck96, ck97, ck98, ck99, ck100, ck101, ck102, ck103, ck104, ck105, ck106, ck107, ck108, ck109, ck110, ck111, ck112, ck113, ck114, ck115, ck116, ck117, ck118, ck119]
def cks_4 : List (Fr → Bool) := [ck120, ck121, ck122, ck123, ck124, ck125, ck126, ck127, ck128, ck129, ck130, ck131, ck132, ck133, ck134, ck135, ck136, ck137, ck138, ck139, ck140, ck141, ck142, ck143, ck144]
def cks : List (Fr → Bool) := cks_0 ++ (cks_1 ++ (cks_2 ++ (cks_3 ++ (cks_4))))
def fns_0 : List FnA := [fd0, fd1, fd2, fd3, fd4, fd5, fd6, fd7, fd8, fd9, fd10, fd11, fd12, fd13, fd14, fd15, fd16, fd17, fd18, fd19, fd20, fd21, fd22, fd23, fd24, fd25, fd26, fd27, fd28, fd29]
def fns_1 : List FnA := [fd30, fd31, fd32, fd33, fd34, fd35]
def fns : List FnA := fns_0 ++ (fns_1)
def nms_0 : List Str := ["_wall", "__name__", "CountsheldError", "BadWord", "BadNumber", "BadCounts", "NoDivisor", "is_integer", "LETTERS", "is_word", "is_small", "distinct", "is_pair", "joint_words", "Counts", "_law_source", "_law_mixed", "_law_draw", "_law_word", "_law_number", "_law_pairs", "_law_model", "_law_told", "_law_is_integer", "_law_equal", "_law_divisor", "_law_due", "_law_refused", "_law_fits"]
def nms : List Str := nms_0
abbrev hkK : PySem.W.Hook := hookK 6 cks fns
def obT (s : PySem.W.SharedT) : AlK := obsKG 6 cks fns (HandSHeadRun.getT s)
theorem obT_eq (s : PySem.W.SharedT) : obT s = hkK.obs s.abs := obsKG_eq (HandSHeadRun.getT_eq s)
set_option maxHeartbeats 0 in
theorem runK (w : World) : HandSHeadRun.RunEq R0 (PySem.W.view R0.prog [33]) hkK obT 60000 nms w := by
  intro os
  kernel_rfl
theorem factsK {w : World} {K : Fr} {h : Heap} {mg : Str → Option Value} {fa : Addr} (X : K.In h) (G : h.Ns mainGlobals mg) (hfa : mg "law" = some (.ref fa)) (c : SaysK cks fns K) : ∃ fd : FuncData, (∀ (s : Shared) (v : Value), BindsTo s fd ⟨[v], []⟩ [("_law_script", v)]) ∧ ∀ base : Heap, K.In base → base.Ns mainGlobals mg → FnOk (PySem.Challenge.rw_countsheld_k08_counts_divided).prog w K mg base CX0 7 fa fd ["_law_script"] (spLaw K) := by
  obtain ⟨oc_isint, od_isint, sl_isint, kV_isint, dc_isint, pm_isint, an_isint, cd_isint, ct_isint, l_isint, c_isint⟩ := c.fn 0 (d := fd0) rfl rfl
  obtain ⟨oc_isword, od_isword, sl_isword, kV_isword, dc_isword, pm_isword, an_isword, cd_isword, ct_isword, l_isword, c_isword⟩ := c.fn 1 (d := fd1) rfl rfl
  obtain ⟨oc_issmall, od_issmall, sl_issmall, kV_issmall, dc_issmall, pm_issmall, an_issmall, cd_issmall, ct_issmall, l_issmall, c_issmall⟩ := c.fn 2 (d := fd2) rfl rfl
  obtain ⟨oc_ispair, od_ispair, sl_ispair, kV_ispair, dc_ispair, pm_ispair, an_ispair, cd_ispair, ct_ispair, l_ispair, c_ispair⟩ := c.fn 3 (d := fd3) rfl rfl
  obtain ⟨oc_distinct, od_distinct, sl_distinct, kV_distinct, dc_distinct, pm_distinct, an_distinct, cd_distinct, ct_distinct, l_distinct, c_distinct⟩ := c.fn 4 (d := fd4) rfl rfl
  obtain ⟨oc_source, od_source, sl_source, kV_source, dc_source, pm_source, an_source, cd_source, ct_source, l_source, c_source⟩ := c.fn 5 (d := fd5) rfl rfl
  obtain ⟨oc_mixed, od_mixed, sl_mixed, kV_mixed, dc_mixed, pm_mixed, an_mixed, cd_mixed, ct_mixed, l_mixed, c_mixed⟩ := c.fn 6 (d := fd6) rfl rfl
  obtain ⟨oc_draw, od_draw, sl_draw, kV_draw, dc_draw, pm_draw, an_draw, cd_draw, ct_draw, l_draw, c_draw⟩ := c.fn 7 (d := fd7) rfl rfl
  obtain ⟨oc_word, od_word, sl_word, kV_word, dc_word, pm_word, an_word, cd_word, ct_word, l_word, c_word⟩ := c.fn 8 (d := fd8) rfl rfl
  obtain ⟨oc_number, od_number, sl_number, kV_number, dc_number, pm_number, an_number, cd_number, ct_number, l_number, c_number⟩ := c.fn 9 (d := fd9) rfl rfl
  obtain ⟨oc_pairs, od_pairs, sl_pairs, kV_pairs, dc_pairs, pm_pairs, an_pairs, cd_pairs, ct_pairs, l_pairs, c_pairs⟩ := c.fn 10 (d := fd10) rfl rfl
  obtain ⟨oc_model, od_model, sl_model, kV_model, dc_model, pm_model, an_model, cd_model, ct_model, l_model, c_model⟩ := c.fn 11 (d := fd11) rfl rfl
  obtain ⟨oc_told, od_told, sl_told, kV_told, dc_told, pm_told, an_told, cd_told, ct_told, l_told, c_told⟩ := c.fn 12 (d := fd12) rfl rfl
  obtain ⟨oc_lint, od_lint, sl_lint, kV_lint, dc_lint, pm_lint, an_lint, cd_lint, ct_lint, l_lint, c_lint⟩ := c.fn 13 (d := fd13) rfl rfl
  obtain ⟨oc_jw, od_jw, sl_jw, kV_jw, dc_jw, pm_jw, an_jw, cd_jw, ct_jw, l_jw, c_jw⟩ := c.fn 14 (d := fd14) rfl rfl
  obtain ⟨oc_equal, od_equal, sl_equal, kV_equal, dc_equal, pm_equal, an_equal, cd_equal, ct_equal, l_equal, c_equal⟩ := c.fn 15 (d := fd15) rfl rfl
  obtain ⟨oc_divisor, od_divisor, sl_divisor, kV_divisor, dc_divisor, pm_divisor, an_divisor, cd_divisor, ct_divisor, l_divisor, c_divisor⟩ := c.fn 16 (d := fd16) rfl rfl
  obtain ⟨oc_due, od_due, sl_due, kV_due, dc_due, pm_due, an_due, cd_due, ct_due, l_due, c_due⟩ := c.fn 17 (d := fd17) rfl rfl
  obtain ⟨oc_refused, od_refused, sl_refused, kV_refused, dc_refused, pm_refused, an_refused, cd_refused, ct_refused, l_refused, c_refused⟩ := c.fn 18 (d := fd18) rfl rfl
  obtain ⟨oc_fits, od_fits, sl_fits, kV_fits, dc_fits, pm_fits, an_fits, cd_fits, ct_fits, l_fits, c_fits⟩ := c.fn 19 (d := fd19) rfl rfl
  obtain ⟨oc_law, od_law, sl_law, kV_law, dc_law, pm_law, an_law, cd_law, ct_law, l_law, c_law⟩ := c.fn 20 (d := fd20) rfl rfl
  obtain ⟨oc_init, od_init, sl_init, kV_init, dc_init, pm_init, an_init, cd_init, ct_init, l_init, c_init⟩ := c.fn 21 (d := fd21) rfl rfl
  obtain ⟨oc_mwords, od_mwords, sl_mwords, kV_mwords, dc_mwords, pm_mwords, an_mwords, cd_mwords, ct_mwords, l_mwords, c_mwords⟩ := c.fn 22 (d := fd22) rfl rfl
  obtain ⟨oc_mpairs, od_mpairs, sl_mpairs, kV_mpairs, dc_mpairs, pm_mpairs, an_mpairs, cd_mpairs, ct_mpairs, l_mpairs, c_mpairs⟩ := c.fn 23 (d := fd23) rfl rfl
  obtain ⟨oc_monly, od_monly, sl_monly, kV_monly, dc_monly, pm_monly, an_monly, cd_monly, ct_monly, l_monly, c_monly⟩ := c.fn 24 (d := fd24) rfl rfl
  obtain ⟨oc_mget, od_mget, sl_mget, kV_mget, dc_mget, pm_mget, an_mget, cd_mget, ct_mget, l_mget, c_mget⟩ := c.fn 25 (d := fd25) rfl rfl
  obtain ⟨oc_madd, od_madd, sl_madd, kV_madd, dc_madd, pm_madd, an_madd, cd_madd, ct_madd, l_madd, c_madd⟩ := c.fn 26 (d := fd26) rfl rfl
  obtain ⟨oc_mmul, od_mmul, sl_mmul, kV_mmul, dc_mmul, pm_mmul, an_mmul, cd_mmul, ct_mmul, l_mmul, c_mmul⟩ := c.fn 27 (d := fd27) rfl rfl
  obtain ⟨oc_mrmul, od_mrmul, sl_mrmul, kV_mrmul, dc_mrmul, pm_mrmul, an_mrmul, cd_mrmul, ct_mrmul, l_mrmul, c_mrmul⟩ := c.fn 28 (d := fd28) rfl rfl
  obtain ⟨oc_msub, od_msub, sl_msub, kV_msub, dc_msub, pm_msub, an_msub, cd_msub, ct_msub, l_msub, c_msub⟩ := c.fn 29 (d := fd29) rfl rfl
  obtain ⟨oc_mbool, od_mbool, sl_mbool, kV_mbool, dc_mbool, pm_mbool, an_mbool, cd_mbool, ct_mbool, l_mbool, c_mbool⟩ := c.fn 30 (d := fd30) rfl rfl
  obtain ⟨oc_meq, od_meq, sl_meq, kV_meq, dc_meq, pm_meq, an_meq, cd_meq, ct_meq, l_meq, c_meq⟩ := c.fn 31 (d := fd31) rfl rfl
  obtain ⟨oc_mfl, od_mfl, sl_mfl, kV_mfl, dc_mfl, pm_mfl, an_mfl, cd_mfl, ct_mfl, l_mfl, c_mfl⟩ := c.fn 32 (d := fd32) rfl rfl
  obtain ⟨oc_mmd, od_mmd, sl_mmd, kV_mmd, dc_mmd, pm_mmd, an_mmd, cd_mmd, ct_mmd, l_mmd, c_mmd⟩ := c.fn 33 (d := fd33) rfl rfl
  obtain ⟨oc_xd, od_xd, sl_xd, kV_xd, dc_xd, pm_xd, an_xd, cd_xd, ct_xd, l_xd, c_xd⟩ := c.fn 34 (d := fd34) rfl rfl
  obtain ⟨oc_mof, od_mof, sl_mof, kV_mof, dc_mof, pm_mof, an_mof, cd_mof, ct_mof, l_mof, c_mof⟩ := c.fn 35 (d := fd35) rfl rfl
  obtain ⟨tk_a_LET, h_a_LET⟩ := strB_ok (c.ck 118 (f := ck118) rfl)
  exact all_mk (l := PySem.Challenge.rw_countsheld_k08_counts_divided) X G hfa (of_decide_eq_true (c.ck 2 (f := ck2) rfl)) l_isint c_isint (of_decide_eq_true (c.ck 3 (f := ck3) rfl)) (of_decide_eq_true (c.ck 4 (f := ck4) rfl)) l_isword c_isword (of_decide_eq_true (c.ck 5 (f := ck5) rfl)) (of_decide_eq_true (c.ck 6 (f := ck6) rfl)) l_issmall c_issmall (of_decide_eq_true (c.ck 7 (f := ck7) rfl)) (of_decide_eq_true (c.ck 8 (f := ck8) rfl)) l_ispair c_ispair (of_decide_eq_true (c.ck 9 (f := ck9) rfl)) (of_decide_eq_true (c.ck 10 (f := ck10) rfl)) l_distinct c_distinct (of_decide_eq_true (c.ck 11 (f := ck11) rfl)) (of_decide_eq_true (c.ck 12 (f := ck12) rfl)) l_source c_source (of_decide_eq_true (c.ck 13 (f := ck13) rfl)) (of_decide_eq_true (c.ck 14 (f := ck14) rfl)) l_mixed c_mixed (of_decide_eq_true (c.ck 15 (f := ck15) rfl)) (of_decide_eq_true (c.ck 16 (f := ck16) rfl)) l_draw c_draw (of_decide_eq_true (c.ck 17 (f := ck17) rfl)) (of_decide_eq_true (c.ck 18 (f := ck18) rfl)) l_word c_word (of_decide_eq_true (c.ck 19 (f := ck19) rfl)) (of_decide_eq_true (c.ck 20 (f := ck20) rfl)) l_number c_number (of_decide_eq_true (c.ck 21 (f := ck21) rfl)) (of_decide_eq_true (c.ck 22 (f := ck22) rfl)) l_pairs c_pairs (of_decide_eq_true (c.ck 23 (f := ck23) rfl)) (of_decide_eq_true (c.ck 24 (f := ck24) rfl)) l_model c_model (of_decide_eq_true (c.ck 25 (f := ck25) rfl)) (of_decide_eq_true (c.ck 26 (f := ck26) rfl)) l_told c_told (of_decide_eq_true (c.ck 27 (f := ck27) rfl)) (of_decide_eq_true (c.ck 28 (f := ck28) rfl)) l_lint c_lint (of_decide_eq_true (c.ck 29 (f := ck29) rfl)) (of_decide_eq_true (c.ck 30 (f := ck30) rfl)) l_jw c_jw (of_decide_eq_true (c.ck 31 (f := ck31) rfl)) (of_decide_eq_true (c.ck 32 (f := ck32) rfl)) l_equal c_equal (of_decide_eq_true (c.ck 33 (f := ck33) rfl)) (of_decide_eq_true (c.ck 34 (f := ck34) rfl)) l_divisor c_divisor (of_decide_eq_true (c.ck 35 (f := ck35) rfl)) (of_decide_eq_true (c.ck 36 (f := ck36) rfl)) l_due c_due (of_decide_eq_true (c.ck 37 (f := ck37) rfl)) (of_decide_eq_true (c.ck 38 (f := ck38) rfl)) l_refused c_refused (of_decide_eq_true (c.ck 39 (f := ck39) rfl)) (of_decide_eq_true (c.ck 40 (f := ck40) rfl)) l_fits c_fits (of_decide_eq_true (c.ck 41 (f := ck41) rfl)) (of_decide_eq_true (c.ck 42 (f := ck42) rfl)) l_law c_law (of_decide_eq_true (c.ck 43 (f := ck43) rfl)) (of_decide_eq_true (c.ck 44 (f := ck44) rfl)) (of_decide_eq_true (c.ck 45 (f := ck45) rfl)) (of_decide_eq_true (c.ck 46 (f := ck46) rfl)) (of_decide_eq_true (c.ck 47 (f := ck47) rfl)) (of_decide_eq_true (c.ck 48 (f := ck48) rfl)) (of_decide_eq_true (c.ck 49 (f := ck49) rfl)) (of_decide_eq_true (c.ck 50 (f := ck50) rfl)) (of_decide_eq_true (c.ck 51 (f := ck51) rfl)) (of_decide_eq_true (c.ck 52 (f := ck52) rfl)) (of_decide_eq_true (c.ck 53 (f := ck53) rfl)) (of_decide_eq_true (c.ck 54 (f := ck54) rfl)) (of_decide_eq_true (c.ck 55 (f := ck55) rfl)) (of_decide_eq_true (c.ck 56 (f := ck56) rfl)) (of_decide_eq_true (c.ck 57 (f := ck57) rfl)) (of_decide_eq_true (c.ck 58 (f := ck58) rfl)) (of_decide_eq_true (c.ck 59 (f := ck59) rfl)) (of_decide_eq_true (c.ck 60 (f := ck60) rfl)) (of_decide_eq_true (c.ck 61 (f := ck61) rfl)) (of_decide_eq_true (c.ck 62 (f := ck62) rfl)) (of_decide_eq_true (c.ck 63 (f := ck63) rfl)) (of_decide_eq_true (c.ck 64 (f := ck64) rfl)) l_init c_init (of_decide_eq_true (c.ck 65 (f := ck65) rfl)) (of_decide_eq_true (c.ck 66 (f := ck66) rfl)) (of_decide_eq_true (c.ck 67 (f := ck67) rfl)) l_mwords c_mwords (of_decide_eq_true (c.ck 68 (f := ck68) rfl)) (of_decide_eq_true (c.ck 69 (f := ck69) rfl)) (of_decide_eq_true (c.ck 70 (f := ck70) rfl)) l_mpairs c_mpairs (of_decide_eq_true (c.ck 71 (f := ck71) rfl)) (of_decide_eq_true (c.ck 72 (f := ck72) rfl)) (of_decide_eq_true (c.ck 73 (f := ck73) rfl)) l_monly c_monly (of_decide_eq_true (c.ck 74 (f := ck74) rfl)) (of_decide_eq_true (c.ck 75 (f := ck75) rfl)) (of_decide_eq_true (c.ck 76 (f := ck76) rfl)) l_mget c_mget (of_decide_eq_true (c.ck 77 (f := ck77) rfl)) (of_decide_eq_true (c.ck 78 (f := ck78) rfl)) (of_decide_eq_true (c.ck 79 (f := ck79) rfl)) l_madd c_madd (of_decide_eq_true (c.ck 80 (f := ck80) rfl)) (of_decide_eq_true (c.ck 81 (f := ck81) rfl)) (of_decide_eq_true (c.ck 82 (f := ck82) rfl)) l_mmul c_mmul (of_decide_eq_true (c.ck 83 (f := ck83) rfl)) (of_decide_eq_true (c.ck 84 (f := ck84) rfl)) (of_decide_eq_true (c.ck 85 (f := ck85) rfl)) l_mrmul c_mrmul (of_decide_eq_true (c.ck 86 (f := ck86) rfl)) (of_decide_eq_true (c.ck 87 (f := ck87) rfl)) (of_decide_eq_true (c.ck 88 (f := ck88) rfl)) l_msub c_msub (of_decide_eq_true (c.ck 89 (f := ck89) rfl)) (of_decide_eq_true (c.ck 90 (f := ck90) rfl)) (of_decide_eq_true (c.ck 91 (f := ck91) rfl)) l_mbool c_mbool (of_decide_eq_true (c.ck 92 (f := ck92) rfl)) (of_decide_eq_true (c.ck 93 (f := ck93) rfl)) (of_decide_eq_true (c.ck 94 (f := ck94) rfl)) l_meq c_meq (of_decide_eq_true (c.ck 95 (f := ck95) rfl)) (of_decide_eq_true (c.ck 96 (f := ck96) rfl)) (of_decide_eq_true (c.ck 97 (f := ck97) rfl)) l_mfl c_mfl (of_decide_eq_true (c.ck 98 (f := ck98) rfl)) (of_decide_eq_true (c.ck 99 (f := ck99) rfl)) (of_decide_eq_true (c.ck 100 (f := ck100) rfl)) l_mmd c_mmd (of_decide_eq_true (c.ck 101 (f := ck101) rfl)) (of_decide_eq_true (c.ck 102 (f := ck102) rfl)) (exoT_ok (c.ck 0 (f := ck0) rfl)) (of_decide_eq_true (c.ck 103 (f := ck103) rfl)) (of_decide_eq_true (c.ck 104 (f := ck104) rfl)) (of_decide_eq_true (c.ck 105 (f := ck105) rfl)) (of_decide_eq_true (c.ck 106 (f := ck106) rfl)) (of_decide_eq_true (c.ck 107 (f := ck107) rfl)) (of_decide_eq_true (c.ck 108 (f := ck108) rfl)) (of_decide_eq_true (c.ck 109 (f := ck109) rfl)) (of_decide_eq_true (c.ck 110 (f := ck110) rfl)) (of_decide_eq_true (c.ck 111 (f := ck111) rfl)) l_xd c_xd (of_decide_eq_true (c.ck 112 (f := ck112) rfl)) (cmB_ok (c.ck 1 (f := ck1) rfl)) (of_decide_eq_true (c.ck 113 (f := ck113) rfl)) l_mof c_mof (of_decide_eq_true (c.ck 114 (f := ck114) rfl)) (of_decide_eq_true (c.ck 115 (f := ck115) rfl)) (of_decide_eq_true (c.ck 116 (f := ck116) rfl)) (of_decide_eq_true (c.ck 117 (f := ck117) rfl)) (h_a_LET) (of_decide_eq_true (c.ck 119 (f := ck119) rfl)) (of_decide_eq_true (c.ck 120 (f := ck120) rfl)) (of_decide_eq_true (c.ck 121 (f := ck121) rfl)) (of_decide_eq_true (c.ck 122 (f := ck122) rfl)) (of_decide_eq_true (c.ck 123 (f := ck123) rfl)) (of_decide_eq_true (c.ck 124 (f := ck124) rfl)) (of_decide_eq_true (c.ck 125 (f := ck125) rfl)) (of_decide_eq_true (c.ck 126 (f := ck126) rfl)) (of_decide_eq_true (c.ck 127 (f := ck127) rfl)) (of_decide_eq_true (c.ck 128 (f := ck128) rfl)) (of_decide_eq_true (c.ck 129 (f := ck129) rfl)) (of_decide_eq_true (c.ck 130 (f := ck130) rfl)) (of_decide_eq_true (c.ck 131 (f := ck131) rfl)) (of_decide_eq_true (c.ck 132 (f := ck132) rfl)) (of_decide_eq_true (c.ck 133 (f := ck133) rfl)) (of_decide_eq_true (c.ck 134 (f := ck134) rfl)) (of_decide_eq_true (c.ck 135 (f := ck135) rfl)) (of_decide_eq_true (c.ck 136 (f := ck136) rfl)) (of_decide_eq_true (c.ck 137 (f := ck137) rfl)) (of_decide_eq_true (c.ck 138 (f := ck138) rfl)) (of_decide_eq_true (c.ck 139 (f := ck139) rfl)) (of_decide_eq_true (c.ck 140 (f := ck140) rfl)) (of_decide_eq_true (c.ck 141 (f := ck141) rfl)) (of_decide_eq_true (c.ck 142 (f := ck142) rfl)) (of_decide_eq_true (c.ck 143 (f := ck143) rfl)) (of_decide_eq_true (c.ck 144 (f := ck144) rfl))
end Cs
open PySem PySem.W PySem.Calls PyProof.Rows
set_option maxRecDepth 100000 in
set_option maxHeartbeats 0 in
theorem PySem.Challenge.cw_countsheld_k08_counts_divided_holds : PySem.Challenge.rw_countsheld_k08_counts_divided.Holds := by
  w_on; o_law
  refine HandSHeadRun.head_any (r := Cs.R0) (q := view Cs.R0.prog [33]) (H := Cs.hkK) (ob := Cs.obT) (M := 60000) (loose := Cs.nms) (d := HandSHeadRun.topDef Cs.R0.prog 33) (kwd := []) Cs.obT_eq
    (by kernel_rfl) (fun s => by kernel_rfl) Cs.runK (by kernel_rfl) (by kernel_rfl) (by kernel_rfl) (by rfl) (by first | assumption | decide +kernel) (by decide +kernel) ⟨rfl, rfl, rfl, rfl, rfl, by decide +kernel⟩ ?hw ?hc
  case hw => w_witness2
  case hc =>
    refine L2.walk_ofE (l := PySem.Challenge.rw_countsheld_k08_counts_divided) (n := 63) (k := 7) (x := "_law_script") (CX := L2.CX0) rfl (by decide) (by kernel_rfl) ⟨rfl, by decide, by decide⟩ ?F (fun _ _ _ _ z => z)
    intro w mg fa h Y G hmg0
    obtain ⟨K, KX, c⟩ := Y
    have hmg : mg ("law" : PySem.Str) = some (.ref fa) := by
      have e : (HandSHeadRun.topDef Cs.R0.prog 33).name = ("law" : PySem.Str) := by kernel_rfl
      rw [← e]
      exact hmg0
    obtain ⟨fd, hb, hF⟩ := Cs.factsK (w := w) KX G hmg c
    exact ⟨K, fd, Cs.spLaw K, KX, hb, fun H a ns hl _ hS => ⟨a, ns, rfl, hS, hl, fun _ => rfl⟩, hF⟩
