import PyProof.Rows.All
import Wide.All
import OpenK.AllK
import Wide.FinOn
import HandS.ForMost
import HandS.Set
import HandS.SetBool
import PyProof.Rows.SortShellAny
import HandS.Codes
import HandS.IsInst
import HandS.RaiseMore
import HandS.Walk
import HandS.ListItems
import HandS.DictComp
import HandS.Star
import KE.KOpsOwn
import HandS.ClsMeth
import HandS.Property
import HandS.CallRecv
import PySem.Challenge.RW_countsheld_k11_chosen_words
set_option Elab.async false
set_option linter.all false
set_option maxRecDepth 100000
set_option maxHeartbeats 4000000
namespace Cs
open PySem L2
def top (i : Nat) : Stmt := PySem.Challenge.pw_countsheld_k11_chosen_words.main.body.getD i (.Pass ⟨0, 0, 0, 0⟩)
abbrev s_BadWord_init : Stmt := inClass (top 3) 0
theorem sc_BadWord_init : FnScope ["self", "word"] ["self", "word"] (defScope s_BadWord_init) :=
  ⟨rfl, rfl, rfl, by decide +kernel, rfl, by decide +kernel, by decide +kernel⟩
abbrev s_BadNumber_init : Stmt := inClass (top 4) 0
theorem sc_BadNumber_init : FnScope ["self", "number"] ["self", "number"] (defScope s_BadNumber_init) :=
  ⟨rfl, rfl, rfl, by decide +kernel, rfl, by decide +kernel, by decide +kernel⟩
abbrev s_BadCounts_init : Stmt := inClass (top 5) 0
theorem sc_BadCounts_init : FnScope ["self", "at"] ["self", "at"] (defScope s_BadCounts_init) :=
  ⟨rfl, rfl, rfl, by decide +kernel, rfl, by decide +kernel, by decide +kernel⟩
abbrev s_NoDivisor_init : Stmt := inClass (top 6) 0
theorem sc_NoDivisor_init : FnScope ["self", "word"] ["self", "word"] (defScope s_NoDivisor_init) :=
  ⟨rfl, rfl, rfl, by decide +kernel, rfl, by decide +kernel, by decide +kernel⟩
abbrev s_is_integer : Stmt := top 8
theorem sc_is_integer : FnScope ["thing"] ["thing"] (defScope s_is_integer) :=
  ⟨rfl, rfl, rfl, by decide +kernel, rfl, by decide +kernel, by decide +kernel⟩
abbrev s_is_word : Stmt := top 11
theorem sc_is_word : FnScope ["thing", "sign"] ["thing"] (defScope s_is_word) :=
  ⟨rfl, rfl, rfl, by decide +kernel, rfl, by decide +kernel, by decide +kernel⟩
abbrev s_is_small : Stmt := top 12
theorem sc_is_small : FnScope ["thing"] ["thing"] (defScope s_is_small) :=
  ⟨rfl, rfl, rfl, by decide +kernel, rfl, by decide +kernel, by decide +kernel⟩
abbrev s_distinct : Stmt := top 13
theorem sc_distinct : FnScope ["words", "word"] ["words"] (defScope s_distinct) :=
  ⟨rfl, rfl, rfl, by decide +kernel, rfl, by decide +kernel, by decide +kernel⟩
abbrev s_is_pair : Stmt := top 15
theorem sc_is_pair : FnScope ["thing"] ["thing"] (defScope s_is_pair) :=
  ⟨rfl, rfl, rfl, by decide +kernel, rfl, by decide +kernel, by decide +kernel⟩
abbrev s_joint_words : Stmt := top 16
theorem sc_joint_words : FnScope ["one", "other"] ["one", "other"] (defScope s_joint_words) :=
  ⟨rfl, rfl, rfl, by decide +kernel, rfl, by decide +kernel, by decide +kernel⟩
abbrev s_Counts_init : Stmt := inClass (top 17) 0
theorem sc_Counts_init : FnScope ["self", "pairs", "numbers", "word", "held", "number"] ["self", "pairs", "numbers"] (defScope s_Counts_init) :=
  ⟨rfl, rfl, rfl, by decide +kernel, rfl, by decide +kernel, by decide +kernel⟩
abbrev s_Counts_of : Stmt := inClass (top 17) 1
theorem sc_Counts_of : FnScope ["cls", "pairs", "at", "pair"] ["cls", "pairs"] (defScope s_Counts_of) :=
  ⟨rfl, rfl, rfl, by decide +kernel, rfl, by decide +kernel, by decide +kernel⟩
abbrev s_Counts_words : Stmt := inClass (top 17) 3
theorem sc_Counts_words : FnScope ["self"] ["self"] (defScope s_Counts_words) :=
  ⟨rfl, rfl, rfl, by decide +kernel, rfl, by decide +kernel, by decide +kernel⟩
abbrev s_Counts_pairs : Stmt := inClass (top 17) 4
theorem sc_Counts_pairs : FnScope ["self", "word"] ["self"] (defScope s_Counts_pairs) :=
  ⟨rfl, rfl, rfl, by decide +kernel, rfl, by decide +kernel, by decide +kernel⟩
abbrev s_Counts_only : Stmt := inClass (top 17) 5
theorem sc_Counts_only : FnScope ["self", "words", "pairs", "pair"] ["self", "words"] (defScope s_Counts_only) :=
  ⟨rfl, rfl, rfl, by decide +kernel, rfl, by decide +kernel, by decide +kernel⟩
abbrev s_Counts_copy : Stmt := inClass (top 17) 6
theorem sc_Counts_copy : FnScope ["self", "pairs"] ["self"] (defScope s_Counts_copy) :=
  ⟨rfl, rfl, rfl, by decide +kernel, rfl, by decide +kernel, by decide +kernel⟩
abbrev s_Counts_total : Stmt := inClass (top 17) 8
theorem sc_Counts_total : FnScope ["self", "number"] ["self"] (defScope s_Counts_total) :=
  ⟨rfl, rfl, rfl, by decide +kernel, rfl, by decide +kernel, by decide +kernel⟩
abbrev s_Counts_getitem : Stmt := inClass (top 17) 9
theorem sc_Counts_getitem : FnScope ["self", "word"] ["self", "word"] (defScope s_Counts_getitem) :=
  ⟨rfl, rfl, rfl, by decide +kernel, rfl, by decide +kernel, by decide +kernel⟩
abbrev s_Counts_setitem : Stmt := inClass (top 17) 10
theorem sc_Counts_setitem : FnScope ["self", "word", "number"] ["self", "word", "number"] (defScope s_Counts_setitem) :=
  ⟨rfl, rfl, rfl, by decide +kernel, rfl, by decide +kernel, by decide +kernel⟩
abbrev s_Counts_iter : Stmt := inClass (top 17) 11
theorem sc_Counts_iter : FnScope ["self"] ["self"] (defScope s_Counts_iter) :=
  ⟨rfl, rfl, rfl, by decide +kernel, rfl, by decide +kernel, by decide +kernel⟩
abbrev s_Counts_contains : Stmt := inClass (top 17) 12
theorem sc_Counts_contains : FnScope ["self", "word"] ["self", "word"] (defScope s_Counts_contains) :=
  ⟨rfl, rfl, rfl, by decide +kernel, rfl, by decide +kernel, by decide +kernel⟩
abbrev s_Counts_len : Stmt := inClass (top 17) 13
theorem sc_Counts_len : FnScope ["self"] ["self"] (defScope s_Counts_len) :=
  ⟨rfl, rfl, rfl, by decide +kernel, rfl, by decide +kernel, by decide +kernel⟩
abbrev s_Counts_bool : Stmt := inClass (top 17) 14
theorem sc_Counts_bool : FnScope ["self"] ["self"] (defScope s_Counts_bool) :=
  ⟨rfl, rfl, rfl, by decide +kernel, rfl, by decide +kernel, by decide +kernel⟩
abbrev s_Counts_eq : Stmt := inClass (top 17) 15
theorem sc_Counts_eq : FnScope ["self", "other"] ["self", "other"] (defScope s_Counts_eq) :=
  ⟨rfl, rfl, rfl, by decide +kernel, rfl, by decide +kernel, by decide +kernel⟩
abbrev s_Counts_le : Stmt := inClass (top 17) 16
theorem sc_Counts_le : FnScope ["self", "other", "word"] ["self", "other"] (defScope s_Counts_le) :=
  ⟨rfl, rfl, rfl, by decide +kernel, rfl, by decide +kernel, by decide +kernel⟩
abbrev s_Counts_lt : Stmt := inClass (top 17) 17
theorem sc_Counts_lt : FnScope ["self", "other"] ["self", "other"] (defScope s_Counts_lt) :=
  ⟨rfl, rfl, rfl, by decide +kernel, rfl, by decide +kernel, by decide +kernel⟩
abbrev s_Counts_add : Stmt := inClass (top 17) 18
theorem sc_Counts_add : FnScope ["self", "other", "pairs"] ["self", "other"] (defScope s_Counts_add) :=
  ⟨rfl, rfl, rfl, by decide +kernel, rfl, by decide +kernel, by decide +kernel⟩
abbrev s_Counts_neg : Stmt := inClass (top 17) 19
theorem sc_Counts_neg : FnScope ["self", "pairs", "word"] ["self"] (defScope s_Counts_neg) :=
  ⟨rfl, rfl, rfl, by decide +kernel, rfl, by decide +kernel, by decide +kernel⟩
abbrev s_Counts_abs : Stmt := inClass (top 17) 20
theorem sc_Counts_abs : FnScope ["self", "pairs", "word"] ["self"] (defScope s_Counts_abs) :=
  ⟨rfl, rfl, rfl, by decide +kernel, rfl, by decide +kernel, by decide +kernel⟩
abbrev s_Counts_sub : Stmt := inClass (top 17) 21
theorem sc_Counts_sub : FnScope ["self", "other", "pairs", "word"] ["self", "other"] (defScope s_Counts_sub) :=
  ⟨rfl, rfl, rfl, by decide +kernel, rfl, by decide +kernel, by decide +kernel⟩
abbrev s_Counts_and : Stmt := inClass (top 17) 22
theorem sc_Counts_and : FnScope ["self", "other", "pairs", "word"] ["self", "other"] (defScope s_Counts_and) :=
  ⟨rfl, rfl, rfl, by decide +kernel, rfl, by decide +kernel, by decide +kernel⟩
abbrev s_Counts_or : Stmt := inClass (top 17) 23
theorem sc_Counts_or : FnScope ["self", "other", "pairs", "word"] ["self", "other"] (defScope s_Counts_or) :=
  ⟨rfl, rfl, rfl, by decide +kernel, rfl, by decide +kernel, by decide +kernel⟩
abbrev s_Counts_xor : Stmt := inClass (top 17) 24
theorem sc_Counts_xor : FnScope ["self", "other"] ["self", "other"] (defScope s_Counts_xor) :=
  ⟨rfl, rfl, rfl, by decide +kernel, rfl, by decide +kernel, by decide +kernel⟩
abbrev s_Counts_mul : Stmt := inClass (top 17) 25
theorem sc_Counts_mul : FnScope ["self", "times", "pairs", "word"] ["self", "times"] (defScope s_Counts_mul) :=
  ⟨rfl, rfl, rfl, by decide +kernel, rfl, by decide +kernel, by decide +kernel⟩
abbrev s_Counts_rmul : Stmt := inClass (top 17) 26
theorem sc_Counts_rmul : FnScope ["self", "times"] ["self", "times"] (defScope s_Counts_rmul) :=
  ⟨rfl, rfl, rfl, by decide +kernel, rfl, by decide +kernel, by decide +kernel⟩
abbrev s_Counts_floordiv : Stmt := inClass (top 17) 27
theorem sc_Counts_floordiv : FnScope ["self", "other", "word"] ["self", "other"] (defScope s_Counts_floordiv) :=
  ⟨rfl, rfl, rfl, by decide +kernel, rfl, by decide +kernel, by decide +kernel⟩
abbrev s_Counts_mod : Stmt := inClass (top 17) 28
theorem sc_Counts_mod : FnScope ["self", "other", "times"] ["self", "other"] (defScope s_Counts_mod) :=
  ⟨rfl, rfl, rfl, by decide +kernel, rfl, by decide +kernel, by decide +kernel⟩
abbrev s_Counts_iadd : Stmt := inClass (top 17) 29
theorem sc_Counts_iadd : FnScope ["self", "other", "result"] ["self", "other"] (defScope s_Counts_iadd) :=
  ⟨rfl, rfl, rfl, by decide +kernel, rfl, by decide +kernel, by decide +kernel⟩
abbrev s_Counts_isub : Stmt := inClass (top 17) 30
theorem sc_Counts_isub : FnScope ["self", "other", "result"] ["self", "other"] (defScope s_Counts_isub) :=
  ⟨rfl, rfl, rfl, by decide +kernel, rfl, by decide +kernel, by decide +kernel⟩
abbrev s_Counts_iand : Stmt := inClass (top 17) 31
theorem sc_Counts_iand : FnScope ["self", "other", "result"] ["self", "other"] (defScope s_Counts_iand) :=
  ⟨rfl, rfl, rfl, by decide +kernel, rfl, by decide +kernel, by decide +kernel⟩
abbrev s_Counts_ior : Stmt := inClass (top 17) 32
theorem sc_Counts_ior : FnScope ["self", "other", "result"] ["self", "other"] (defScope s_Counts_ior) :=
  ⟨rfl, rfl, rfl, by decide +kernel, rfl, by decide +kernel, by decide +kernel⟩
abbrev s_Counts_imul : Stmt := inClass (top 17) 33
theorem sc_Counts_imul : FnScope ["self", "times", "result"] ["self", "times"] (defScope s_Counts_imul) :=
  ⟨rfl, rfl, rfl, by decide +kernel, rfl, by decide +kernel, by decide +kernel⟩
abbrev s_Counts_repr : Stmt := inClass (top 17) 34
theorem sc_Counts_repr : FnScope ["self", "parts", "inside", "word"] ["self"] (defScope s_Counts_repr) :=
  ⟨rfl, rfl, rfl, by decide +kernel, rfl, by decide +kernel, by decide +kernel⟩
abbrev s_l_source : Stmt := top 19
theorem sc_l_source : FnScope ["_law_script"] ["_law_script"] (defScope s_l_source) :=
  ⟨rfl, rfl, rfl, by decide +kernel, rfl, by decide +kernel, by decide +kernel⟩
abbrev s_l_mixed : Stmt := top 20
theorem sc_l_mixed : FnScope ["_law_cell", "_law_count", "_law_first"] ["_law_cell", "_law_count"] (defScope s_l_mixed) :=
  ⟨rfl, rfl, rfl, by decide +kernel, rfl, by decide +kernel, by decide +kernel⟩
abbrev s_l_draw : Stmt := top 21
theorem sc_l_draw : FnScope ["_law_source_here", "_law_size", "_law_at", "_law_cell", "_law_value"] ["_law_source_here", "_law_size"] (defScope s_l_draw) :=
  ⟨rfl, rfl, rfl, by decide +kernel, rfl, by decide +kernel, by decide +kernel⟩
abbrev s_l_word : Stmt := top 22
theorem sc_l_word : FnScope ["_law_source_here", "_law_words", "_law_word_here", "_law_k"] ["_law_source_here"] (defScope s_l_word) :=
  ⟨rfl, rfl, rfl, by decide +kernel, rfl, by decide +kernel, by decide +kernel⟩
abbrev s_l_number : Stmt := top 23
theorem sc_l_number : FnScope ["_law_source_here", "_law_mode", "_law_number_here", "_law_k"] ["_law_source_here"] (defScope s_l_number) :=
  ⟨rfl, rfl, rfl, by decide +kernel, rfl, by decide +kernel, by decide +kernel⟩
abbrev s_l_pairs : Stmt := top 24
theorem sc_l_pairs : FnScope ["_law_source_here", "_law_most", "_law_pairs_here", "_law_k", "_law_word_here"] ["_law_source_here", "_law_most"] (defScope s_l_pairs) :=
  ⟨rfl, rfl, rfl, by decide +kernel, rfl, by decide +kernel, by decide +kernel⟩
abbrev s_l_model : Stmt := top 25
theorem sc_l_model : FnScope ["_law_pairs_here", "_law_model_here", "_law_word_here", "_law_number_here"] ["_law_pairs_here"] (defScope s_l_model) :=
  ⟨rfl, rfl, rfl, by decide +kernel, rfl, by decide +kernel, by decide +kernel⟩
abbrev s_l_told : Stmt := top 26
theorem sc_l_told : FnScope ["_law_model_here", "_law_words", "_law_word_here"] ["_law_model_here"] (defScope s_l_told) :=
  ⟨rfl, rfl, rfl, by decide +kernel, rfl, by decide +kernel, by decide +kernel⟩
abbrev s_l_is_integer : Stmt := top 27
theorem sc_l_is_integer : FnScope ["_law_thing"] ["_law_thing"] (defScope s_l_is_integer) :=
  ⟨rfl, rfl, rfl, by decide +kernel, rfl, by decide +kernel, by decide +kernel⟩
abbrev s_l_equal : Stmt := top 28
theorem sc_l_equal : FnScope ["_law_counts", "_law_model_here", "_law_told_here", "_law_pair"] ["_law_counts", "_law_model_here"] (defScope s_l_equal) :=
  ⟨rfl, rfl, rfl, by decide +kernel, rfl, by decide +kernel, by decide +kernel⟩
abbrev s_l_picked : Stmt := top 29
theorem sc_l_picked : FnScope ["_law_model_here", "_law_words", "_law_some", "_law_word_here"] ["_law_model_here", "_law_words"] (defScope s_l_picked) :=
  ⟨rfl, rfl, rfl, by decide +kernel, rfl, by decide +kernel, by decide +kernel⟩
abbrev s_l_apart : Stmt := top 30
theorem sc_l_apart : FnScope ["_law_counts", "_law_model_here", "_law_other", "_law_other_model", "_law_word_here", "_law_total", "_law_pair"] ["_law_counts", "_law_model_here", "_law_other", "_law_other_model"] (defScope s_l_apart) :=
  ⟨rfl, rfl, rfl, by decide +kernel, rfl, by decide +kernel, by decide +kernel⟩
abbrev s_law : Stmt := top 31
theorem sc_law : FnScope ["_law_script", "_law_source_here", "_law_pairs_here", "_law_model_here", "_law_counts", "_law_words", "_law_k", "_law_word_here", "_law_told_here", "_law_rows", "_law_result", "_law_due", "_law_pair"] ["_law_script"] (defScope s_law) :=
  ⟨rfl, rfl, rfl, by decide +kernel, rfl, by decide +kernel, by decide +kernel⟩
end Cs

set_option Elab.async false
set_option linter.all false
set_option maxRecDepth 100000
set_option maxHeartbeats 4000000
/-! Sets of texts as a set comprehension makes them: a list of members without repeats, up to order; and sorted(..) of such a set. -/
namespace Cs
open PySem PySem.Spec PyProof.Rows L2

def tkey (e : Int × Value) : Str := match e.2 with | .str z _ => z | _ => Str.empty
def TGood (w : World) (e : Int × Value) : Prop := ∃ z tk, e.2 = Value.str z tk ∧ e.1 = hashStr w z
/-- a set object whose members are the texts zs (in some order) -/
def TSet (w : World) (h : Heap) (a : Addr) (zs : List Str) : Prop :=
  ∃ o es ep t, h.get? a = some o ∧ o.ExactSet ∧ o.data = .set es ep t ∧ (∀ e ∈ es.toList, TGood w e)
    ∧ (es.toList.map tkey).Perm zs ∧ zs.Nodup ∧ es.size < scanBound ∧ t.fits es.size = true
    ∧ Ris t.place.toList ∧ (w.params.followText "set-order" = true ∨ t.led = true)

section
variable {P : Program} {w : World} {h h' : Heap} {a : Addr} {zs : List Str}
theorem TSet.there (R : TSet w h a zs) (k : ∀ o, h.get? a = some o → h'.get? a = some o) : TSet w h' a zs := by
  obtain ⟨o, es, ep, t, q, r⟩ := R
  exact ⟨o, es, ep, t, k o q, r⟩
theorem TGood.elems {l : List (Int × Value)} (g : ∀ e ∈ l, TGood w e) : ElemsOf (PySem.strKind P w) l := fun e m => by
  obtain ⟨z, tk, e1, e2⟩ := g e m
  refine ⟨⟨z, ?_, e2⟩, ?_⟩
  · rw [e1]
    show Value.isStrOf z (.str z tk) = true
    simp [Value.isStrOf]
  · rw [e1]
    rfl
theorem TGood.is_iff {e : Int × Value} (g : TGood w e) (z : Str) : (PySem.strKind P w).is z e.2 = true ↔ tkey e = z := by
  obtain ⟨y, tk, e1, _⟩ := g
  unfold tkey
  rw [e1]
  show Value.isStrOf z (.str y tk) = true ↔ y = z
  simp [Value.isStrOf]
theorem TGood.mem_iff {l : List (Int × Value)} (g : ∀ e ∈ l, TGood w e) (z : Str) : z ∈ l.map tkey ↔ ∃ e ∈ l, (PySem.strKind P w).is z e.2 = true := by
  constructor
  · intro m
    obtain ⟨e, he, q⟩ := List.mem_map.mp m
    exact ⟨e, he, (TGood.is_iff (g e he) z).mpr q⟩
  · rintro ⟨e, he, q⟩
    exact List.mem_map.mpr ⟨e, he, (TGood.is_iff (g e he) z).mp q⟩
end

section
variable {P : Program} {w : World} {A : Around} {E : Value → Shared → Prop} {s : Shared} {a : Addr} {zs : List Str}
/-- the end of an addition: the table is stored, laid anew where it is too full -/
theorem tset_tail {g : Bool → Sem Unit} (hg : ∀ (b : Bool) (s1 : Shared) (Q1 : Unit → Shared → Prop), Q1 () s1 → wpAny (model P w) A (g b) Q1 E s1)
    {o : Obj} {es es1 : Array (Int × Value)} {ep : Nat} {t t1 : SetTable} (ho : s.heap.get? a = some o) (hex : o.ExactSet) (hd : o.data = .set es ep t)
    (gd : ∀ e ∈ es1.toList, TGood w e) (pz : (es1.toList.map tkey).Perm zs) (nz : zs.Nodup) (hb : es1.size < scanBound) (hf : t1.fits es1.size = true)
    (hr : Ris t1.place.toList) (hl : w.params.followText "set-order" = true ∨ t1.led = true) {dm : Bool} {R : Option Bool → Shared → Prop}
    (hR : ∀ h', Heap.SameBut a s.heap h' → TSet w h' a zs → R (some true) { s with heap := h' }) :
    wpAny (model P w) A (do
        storeSet a es1 t1
        if (!dm && t1.tooFull) = true then do
            g (relayAll t1 es1 (SetTable.grown es1.size)).2.2
            storeSet a (relayAll t1 es1 (SetTable.grown es1.size)).1 (relayAll t1 es1 (SetTable.grown es1.size)).2.1
            pure (some true)
          else pure (some true)) R E s := by
  refine wpAny_bind (wpAny_storeSet_of ho hd ?_ (fits_of_scanBound hb))
  have ho1 := store_at (es' := es1) (t' := t1) ho hd
  have same := Heap.SameBut.update s.heap a (Obj.putSet es1 t1)
  split
  · have p2 := relayAll_perm t1 es1 (SetTable.grown es1.size)
    have f2 := relayAll_fits t1 es1 (SetTable.grown es1.size)
    have r2 := relayAll_ris t1 es1 (SetTable.grown es1.size)
    have l2 := relayAll_led t1 es1 (SetTable.grown es1.size)
    generalize relayAll t1 es1 (SetTable.grown es1.size) = Z at p2 f2 r2 l2 ⊢
    obtain ⟨es2, t2, gv⟩ := Z
    dsimp only at p2 f2 r2 l2 ⊢
    have sz : es2.size = es1.size := by rw [← Array.length_toList, p2.length_eq, Array.length_toList]
    have hb2 : es2.size < scanBound := sz ▸ hb
    refine wpAny_bind (hg _ _ _ (wpAny_bind (wpAny_storeSet_of ho1 rfl ?_ (fits_of_scanBound hb2))))
    have ho2 := store_at (es' := es2) (t' := t2) ho1 rfl
    exact wpAny_pure (hR _ (same.trans (Heap.SameBut.update _ a _)) ⟨_, es2, _, t2, ho2, hex, rfl, fun e m => gd e (p2.mem_iff.mp m), (p2.map tkey).trans pz, nz, hb2, f2, r2, hl.imp id fun q => by rw [l2]; exact q⟩)
  · exact wpAny_pure (hR _ same ⟨_, es1, _, t1, ho1, hex, rfl, gd, pz, nz, hb, hf, hr, hl⟩)

/-- one text more -/
def addT (zs : List Str) (z : Str) : List Str := if z ∈ zs then zs else zs ++ [z]

theorem tset_hashed {z : Str} {tk : Tok} {Q : Bool → Shared → Prop} (R : TSet w s.heap a zs) (room : zs.length + 1 < scanBound)
    (hQ : ∀ b h', Heap.SameBut a s.heap h' → TSet w h' a (addT zs z) → Q b { s with heap := h' }) :
    wpAny (model P w) A (setAddHashed a (.str z tk) ((PySem.strKind P w).hash z)) Q E s := by
  obtain ⟨o, es, ep, t, ho, hex, hd, gd, pz, nz, hb, hf, hr, hl⟩ := R
  have hkey : (PySem.strKind P w).is z (.str z tk) = true := by
    show Value.isStrOf z (.str z tk) = true
    simp [Value.isStrOf]
  have hsc : (Value.str z tk).scannable = true := rfl
  have hel : ElemsOf (PySem.strKind P w) es.toList := TGood.elems gd
  have hn : es.size = zs.length := by rw [← Array.length_toList, ← pz.length_eq, List.length_map]
  unfold setAddHashed setAddHashedIn
  refine wpAny_holding (wpAny_bind (wpAny_setState_of ho hd hf ?_))
  dsimp only
  rw [byScan_of hsc hb hel]
  simp only [↓reduceIte]
  unfold setAddByScan
  refine wpAny_bind (wpAny_bind (wpAny_rule (wpAny_bind (wpAny_setScan_of hkey ho hd hf hel ?_))))
  cases hfi : List.findIdx? (fun e => (PySem.strKind P w).is z e.2) es.toList with
  | some j =>
    dsimp only
    obtain ⟨hj, pj, _⟩ := List.findIdx?_eq_some_iff_getElem.mp hfi
    have hin : z ∈ zs := pz.mem_iff.mp ((TGood.mem_iff (P := P) gd z).mpr ⟨_, List.getElem_mem hj, pj⟩)
    have q := hQ false s.heap (Heap.SameBut.refl a s.heap)
    rw [show addT zs z = zs from if_pos hin] at q
    exact wpAny_pure (wpAny_pure (q ⟨o, es, ep, t, ho, hex, hd, gd, pz, nz, hb, hf, hr, hl⟩))
  | none =>
    dsimp only
    have hout : z ∉ zs := fun m => by
      obtain ⟨e, he, q⟩ := (TGood.mem_iff (P := P) (w := w) gd z).mp (pz.mem_iff.mpr m)
      have c := List.findIdx?_eq_none_iff.mp hfi e he
      rw [q] at c
      cases c
    have hgw : ∀ (b : Bool) {s1 : Shared} {Q1 : Unit → Shared → Prop}, Q1 () s1 → wpAny (model P w) A (match b with | true => rule "set.scan.the-table-gave-way" | false => pure ()) Q1 E s1 :=
      fun b s1 Q1 q => by cases b <;> first | exact wpAny_pure q | exact wpAny_rule q
    have p1 := layNew_perm t es ((PySem.strKind P w).hash z) (.str z tk)
    have f1 := layNew_fits t es ((PySem.strKind P w).hash z) (.str z tk)
    have r1 := layNew_ris t es ((PySem.strKind P w).hash z) (.str z tk) hr
    have l1 := layNew_led t es ((PySem.strKind P w).hash z) (.str z tk)
    generalize layNew t es ((PySem.strKind P w).hash z) (.str z tk) = Z at p1 f1 r1 l1 ⊢
    obtain ⟨es1, t1, dm, gv⟩ := Z
    dsimp only at p1 f1 r1 l1 ⊢
    rw [Array.toList_push] at p1
    have gd1 : ∀ e ∈ es1.toList, TGood w e := fun e m => by
      rcases List.mem_append.mp (p1.mem_iff.mp m) with q | q
      · exact gd e q
      · rw [List.mem_singleton.mp q]
        exact ⟨z, tk, rfl, rfl⟩
    have ez : addT zs z = zs ++ [z] := if_neg hout
    have pz1 : (es1.toList.map tkey).Perm (addT zs z) := by
      rw [ez]
      refine (p1.map tkey).trans ?_
      rw [List.map_append]
      exact pz.append_right _
    have nz1 : (addT zs z).Nodup := by
      rw [ez]
      exact nd_snoc nz hout
    have sz1 : es1.size = zs.length + 1 := by
      rw [← Array.length_toList, p1.length_eq, List.length_append, Array.length_toList, hn]
      rfl
    have hb1 : es1.size < scanBound := by rw [sz1]; exact room
    have hl1 : w.params.followText "set-order" = true ∨ t1.led = true := hl.imp id fun q => by rw [l1]; exact q
    have fin : ∀ h', Heap.SameBut a s.heap h' → TSet w h' a (addT zs z) → Q true { s with heap := h' } := hQ true
    refine wpAny_bind (hgw _ ?_)
    split
    · refine wpAny_bind ?_
      rw [hashByValue_scannable 8 hsc]
      refine wpAny_pure ?_
      refine tset_tail ?_ ho hex hd gd1 pz1 nz1 hb1 ?_ ?_ ?_ ?_
      · intro b s1 Q1 q
        cases b <;> first | exact wpAny_pure q | exact wpAny_rule q
      · first | (split <;> first | exact f1 | exact SetTable.fits_plain_off f1) | exact f1
      · first | (split <;> exact r1) | exact r1
      · first | (split <;> exact hl1) | exact hl1
      · intro h' sb r
        dsimp only
        exact wpAny_pure (fin h' sb r)
    · refine wpAny_bind (wpAny_pure ?_)
      simp only [↓reduceIte]
      refine tset_tail ?_ ho hex hd gd1 pz1 nz1 hb1 f1 r1 hl1 ?_
      · intro b s1 Q1 q
        cases b <;> first | exact wpAny_pure q | exact wpAny_rule q
      · intro h' sb r
        dsimp only
        exact wpAny_pure (fin h' sb r)

theorem TSet.typeIs {zs : List Str} (R : TSet w s.heap a zs) : s.TypeIs (.ref a) "set" := by
  obtain ⟨o, es, ep, t, ho, hex, _⟩ := R
  exact ⟨o, ho, hex.1⟩
/-- s.add(z) -/
theorem tset_add {z : Str} {tk : Tok} {Q : Value → Shared → Prop} (R : TSet w s.heap a zs) (room : zs.length + 1 < scanBound)
    (hQ : ∀ h', Heap.SameBut a s.heap h' → TSet w h' a (addT zs z) → Q .none { s with heap := h', toks := s.toks + 1 }) :
    wpAny (model P w) A (call (.builtin "set.add") [.ref a, .str z tk]) Q E s := by
  have hkey : (PySem.strKind P w).is z (.str z tk) = true := by
    show Value.isStrOf z (.str z tk) = true
    simp [Value.isStrOf]
  refine wpAny_call_entry F.slot_set_add R.typeIs F.entry_set_add ?_ (F.args_set_add_2 _ _)
  unfold Builtin.«set.add» Builtin.Frozenset.oneOther
  simp only [List.isEmpty_nil, bind_assoc]
  unfold Builtin.Frozenset.addrOf setAdd
  refine wpAny_bind (wpAny_pure ?_)
  try dsimp only
  refine wpAny_bind (wpAny_pure ?_)
  try dsimp only
  refine wpAny_bind (wpAny_holding (wpAny_bind ((PySem.strKind P w).pyHash hkey ?_)))
  refine tset_hashed (s := { s with toks := s.toks + 1 }) R room fun b h' sb r => ?_
  show wpAny _ _ (ret Value.none) _ _ _
  exact wpAny_pure ⟨_, rfl, hQ h' sb r⟩
theorem tset_fresh {h : Heap} (w : World) : TSet w (h.push { cls := .type "set", dict := none, data := .set #[] 0 (.fresh 0 0 (!w.params.followText "set-order")) }) h.objs.size [] := by
  refine ⟨_, #[], 0, _, Heap.get?_push_size _ rfl, ⟨rfl, rfl, rfl⟩, rfl, (fun e m => by simp at m), .nil, .nil, by decide, rfl, .nil, ?_⟩
  show _ ∨ (!w.params.followText "set-order") = true
  cases w.params.followText "set-order"
  · exact Or.inr rfl
  · exact Or.inl rfl

/-! ### sorted -/
theorem strs_of : ∀ (l : List Value), (∀ v ∈ l, ∃ z tk, v = Value.str z tk) → StrsAre l (l.map fun v => tkey (0, v))
  | [], _ => .nil
  | v :: l, h => by
    obtain ⟨z, tk, rfl⟩ := h v List.mem_cons_self
    exact .cons z tk (strs_of l fun u m => h u (List.mem_cons_of_mem _ m))
theorem tset_sorted {Q : Value → Shared → Prop} (R : TSet w s.heap a zs) (hh : A.handled = none)
    (hQ : ∀ s' p (out : Array Value) (c : Nat) (ys : List Str), (∀ b o, s.heap.get? b = some o → s'.heap.get? b = some o) → s'.gens = s.gens → s'.os = s.os → s.heap.objs.size ≤ p →
      s'.heap.get? p = some (seqObj "list" out c) → StrsAre out.toList ys → ys.Perm zs → sortedS ys = true → Q (.ref p) s') :
    wpAny (model P w) A (call (.builtin "sorted") [.ref a]) Q E s := by
  obtain ⟨o, es, ep, t, ho, hex, hd, gd, pz, nz, hb, hf, hr, hl⟩ := R
  refine Calls.call_function_entry kind_sorted plain_sorted entry_sorted (args_sorted1 _) ?_
  unfold Builtin.«sorted»
  refine wpAny_bind (m := checkCount "sorted" 1 1 _) (wpAny_pure ?_)
  refine wpAny_bind (collect_set (A := A.in1) hh ⟨o, ho, hex.1, hd⟩ hf hb hr hl fun s1 vs k1 hz g1 o1 pm => ?_)
  have hvl : vs.length = es.size := by rw [pm.length_eq, List.length_map, Array.length_toList]
  have hS : StrsAre vs (vs.map fun v => tkey (0, v)) := strs_of vs fun v hv => by
    obtain ⟨e, he, q⟩ := List.mem_map.mp (pm.mem_iff.mp hv)
    obtain ⟨z, tk, e1, _⟩ := gd e he
    exact ⟨z, tk, by rw [← q]; exact e1⟩
  have pk : (vs.map fun v => tkey (0, v)).Perm zs := by
    have q := pm.map fun v => tkey (0, v)
    rw [List.map_map] at q
    exact q.trans pz
  have hln : vs.length ≤ sizeLine := by
    rw [hvl]
    exact fits_of_scanBound hb
  refine wpAny_bind (wpAny_newList ?_ hln)
  have hoL : (s1.heap.push (seqObj "list" vs.toArray 0)).get? s1.heap.objs.size = some (seqObj "list" vs.toArray 0) := Heap.get?_push_size _ rfl
  refine wpAny_bind (wpAny_holding (wpAny_call_entry slot_list_sort ⟨_, hoL, rfl⟩ entry_list_sort (list_sort_treeKAny strKind_oneLt hoL hS.keysOf (fun v1 v2 rest e => keyKind_strs (by rw [← e]; exact hS)) hln fun st' hp hs => ⟨_, rfl, ?_⟩) (args_list_sort _)))
  obtain ⟨ys, a1, a2, a3⟩ := sorted_out_str hS hp hs
  generalize (arrOf st').map (·.2) = out at a1 ⊢
  obtain ⟨c, hc⟩ := sortedHeap_at (vs := vs) (out := out) hoL
  refine wpAny_pure ⟨_, rfl, hQ _ s1.heap.objs.size out c ys (fun b u e => ?_) g1 o1 hz hc a1 (a2.trans pk) a3⟩
  have q := k1 b u e
  have hlt := Heap.lt_size q
  show (sortedHeap (s1.heap.push (seqObj "list" vs.toArray 0)) s1.heap.objs.size vs out).get? b = some u
  rw [sortedHeap_old (Nat.ne_of_lt hlt) (by rw [size_push']; exact Nat.lt_succ_of_lt hlt)]
  exact Heap.get?_push_of_some _ q
end

/-! ### over the abstract heap -/
def TSetO (w : World) (a : Addr) (zs : List Str) : HO := .ext fun h => TSet w h a zs
theorem tsetO_new {w : World} {P : Program} {H : Hp} {h : Heap} {a : Addr} {zs : List Str} (R : TSet w h a zs) : ObjOk P w H h a (TSetO w a zs) := by
  have ⟨o, _, _, _, ho, _⟩ := R
  exact ⟨R, ⟨o, ho⟩, fun h1 h2 p k => TSet.there p k⟩
section
variable {X : Cx} {pins : List (Addr × Obj)} {σ : L2.St} {H : Hp} {s : Shared} {zs : List Str}
theorem tsetO_get {a : Addr} (I : Inv X pins σ H s) (ha : H a = some (TSetO X.w a zs)) : TSet X.w s.heap a zs := (I.hok a _ ha).1
theorem tsetO_add {E : Value → Shared → Prop} {D : Addr} {z : Str} {tk : Tok} {Q : Value → Shared → Prop} (I : Inv X pins σ H s) (hD : H D = some (TSetO X.w D zs)) (room : zs.length + 1 < scanBound)
    (h : ∀ s', Inv X pins σ (upd H D (TSetO X.w D (addT zs z))) s' → Q .none s') : wpAny (model X.prog X.w) X.A (call (.builtin "set.add") [.ref D, .str z tk]) Q E s := by
  refine tset_add (tsetO_get I hD) room fun h' sb new => h _ ?_
  have he : ∃ u, h'.get? D = some u := by
    have ⟨o, _, _, _, ho, _⟩ := new
    exact ⟨o, ho⟩
  exact I.write (e := D) (t' := s.toks + 1) (by rw [hD]; trivial) (.inl rfl) (fun b u hb hu => (sb.2 b hb).trans hu) he (tsetO_new new)
/-- sorted(s), s a set of texts -/
def rSortT (w : World) : List V → Hp → VK → Prop := fun vs H Q => ∃ (a : Addr) (zs : List Str), vs = [V.ref a] ∧ H a = some (TSetO w a zs) ∧ zs.length ≤ 100000 ∧
  ∀ (ys : List Str) (p : Addr), ys.Perm zs → sortedS ys = true → H p = none → Q (.ref p) (upd H p (.lst (ys.map V.str)))
theorem cr_sortT (hc : X.calm = true) : CallR X (.builtin "sorted") (rSortT X.w) := by
  intro pins s σ H vs us Q I r h
  obtain ⟨a, zs, rfl, ha, hz, q⟩ := h
  rw [Vals.ref1 r]
  refine tset_sorted (tsetO_get I ha) (I.ok.hd hc) fun s' p out c ys k g o hp hg hS hperm hsrt => ?_
  have hlen : (ys.map V.str).length ≤ sizeLine := by
    rw [List.length_map, hperm.length_eq]
    exact Nat.le_trans hz (by decide)
  have hn : H p = none := I.hok.fresh hp
  have J : Inv X pins σ (upd H p (.lst (ys.map V.str))) { s with heap := s'.heap, gens := s'.gens, drawn := s'.drawn, toks := s'.toks } :=
    I.call (ch := []) (Un.laid k hp hn) (I.hok.laid k hp ⟨hlen, out.toList, c, vals_of_strs hS, hg⟩) (by rw [g]; exact I.bare) (fun _ m => nomatch m)
  have e : s' = { s with heap := s'.heap, gens := s'.gens, drawn := s'.drawn, toks := s'.toks } := by
    cases s'
    cases s
    cases o
    rfl
  rw [e]
  exact ⟨.ref p, _, J, rfl, q ys p hperm hsrt hn⟩
end
end Cs

set_option Elab.async false
set_option linter.all false
set_option maxRecDepth 100000
set_option maxHeartbeats 4000000
/-! {elt for target in iter if ..} where elt is a text. -/
namespace Cs
open PySem PySem.Spec PyProof.Rows L2

/-- one turn of such a comprehension: the text that comes is put into the set at D -/
def tScT (w : World) (wi : TI) (g : TG) (tt : TT) (te : TE) (vs : List Nat) : TE := fun σ H Q => wi σ H fun J H1 => ∀ D, H1 D = none →
  ∃ W : Nat → Nat → Hp → Prop, (∃ m, W 0 m (upd H1 D (TSetO w D []))) ∧ ∀ i m H, W i m H →
  (J.stop i H ∧ Q (.ref D) H) ∨ (J.go i H ∧ ∃ Nx : Hp → Prop, (∀ H', Nx H' → ∃ m', m' < m ∧ W (i + 1) m' H') ∧
    ∀ x H', J.yld i H x H' → g x (wipe σ vs) H' fun σ2 H2 => wipe σ2 vs = wipe σ vs ∧ tt σ2 H2 fun b H3 =>
    if b = true then te σ2 H3 fun y H4 => ∃ (z : Str) (zs : List Str), y = .str z ∧ H4 D = some (TSetO w D zs) ∧ zs.length + 1 < scanBound ∧ Nx (upd H4 D (TSetO w D (addT zs z))) else Nx H3)
section
variable {X : Cx}
theorem scT_core {pins : List (Addr × Obj)} {s : Shared} {σ : L2.St} {H : Hp} {Q : VK} {elt tg iter : Expr} {ifs : List Expr} {scope : Scope} {own : List (PySem.Str × Nat)} {pos pos' : Pos}
    {wi : TI} {g : TG} {tt : TT} {te : TE} {use : Option (Value → Sem Unit)} {Qf : Value → Shared → Prop}
    (hc : X.calm = true) (hN : X.N.Nodup) (I : Inv X pins σ H s) (hi : PI X tg iter wi) (ok : BlkOk X.N X.env.scope scope own)
    (hg : ∀ (s : Shared) (H : Hp) (C : Addr) (cl : List (PySem.Str × Addr)) (fp : List Addr), PG (X.blk s H scope (compEnvC scope cl C X.env) fp) tg g)
    (ht : ∀ (s : Shared) (H : Hp) (C : Addr) (cl : List (PySem.Str × Addr)) (fp : List Addr), PTs (X.blk s H scope (compEnvC scope cl C X.env) fp) ifs tt)
    (he : ∀ (s : Shared) (H : Hp) (C : Addr) (cl : List (PySem.Str × Addr)) (fp : List Addr), PE (X.blk s H scope (compEnvC scope cl C X.env) fp) elt te)
    (hs : ∀ x, foldedSetIterable iter X.env x = pure x) (h : tScT X.w wi g tt te (own.map (·.2)) σ H Q)
    (hRR : ∀ D C s' m H', Inv X pins σ H' s' → Q (.ref D) H' → s'.heap.Ns C m → FpOk X pins H' C → compPost (model X.prog X.w) X.A X.xe use Qf (.ref D) C (.ok .next) s') :
    wpAny (model X.prog X.w) X.A (comprehension (.SetComp elt [⟨tg, iter, ifs, 0⟩] scope pos) scope X.env pos' (newSet (.type "set")) false (eval iter X.env) use) Qf X.xe s := by
  have cells : ∀ y ∈ scope.names, y.2 = .free → ∃ c, X.env.cells.lookup y.1 = some c := fun y hy e => (ok.free y hy e).elim (fun k => I.ok.has _ (.inl k)) fun k => I.ok.has _ (.inr k)
  refine wpAny_comprehension_free (use := use) rfl hs (closure_ok cells) ok.kind (fun y hy e => by rw [ok.uniq y hy, e]) (thn (hi.run pins s σ H _ I h) fun xv sA hx => thn hx fun itv sB hB => ?_)
  obtain ⟨it, fp, tn, J, HB, e, IB, T, stB, fB, q⟩ := hB
  subst e
  refine PpSet.newSet_ok (newEnv_comp ?_)
  generalize hD : sB.heap.objs.size = D
  obtain ⟨W, ⟨m0, w0⟩, turn⟩ := q D (IB.hok.fresh (Nat.le_of_eq hD))
  generalize hsC : ({ sB with heap := sB.heap.push { cls := .type "set", dict := none, data := .set #[] 0 (.fresh 0 0 (!X.w.params.followText "set-order")) } } : Shared) = sC
  have hpC : sC.heap = sB.heap.push { cls := .type "set", dict := none, data := .set #[] 0 (.fresh 0 0 (!X.w.params.followText "set-order")) } := by rw [← hsC]
  generalize hHC : upd HB D (TSetO X.w D []) = HC at w0
  have IC : Inv X pins σ HC sC := by
    rw [← hsC, ← hHC]
    refine IB.laid (t' := sB.toks) (fun b o e => Heap.get?_push_of_some _ e) (Nat.le_of_eq hD) ?_
    rw [← hD]
    exact tsetO_new (tset_fresh X.w)
  have below : ∀ b ∈ fp, b < sB.heap.objs.size := fun b hb => (T.obj _ _ stB b hb).elim fun o z => Heap.lt_size z.1
  have fC : ∀ b ∈ fp, FpOk X pins HC b ∧ b < sC.heap.objs.size := fun b hb => by
    have lt := below b hb
    refine ⟨⟨?_, (fB b hb).2⟩, by rw [hpC, Heap.size_push]; exact Nat.lt_succ_of_lt lt⟩
    rw [← hHC, upd_ne (by rw [← hD]; exact Nat.ne_of_lt lt)]
    exact (fB b hb).1
  have stC : tn 0 sC.heap := T.keep _ _ _ stB fun b _ o e => by rw [hpC]; exact Heap.get?_push_of_some _ e
  have IK := block_start IC ok hN fC
  show codeAny _ _ (.compStart (.SetComp elt [⟨tg, iter, ifs, 0⟩] scope pos) 0 (.ref it) (.ref D) (compEnvC scope (cellsFrom (sC.heap.objs.size + 1) scope.names (cloFrom X.env.cells scope.names [])) sC.heap.objs.size X.env))
    (compPost (model X.prog X.w) X.A X.xe use Qf (.ref D) sC.heap.objs.size) { sC with heap := pushCells (sC.heap.push { cls := .type "dict", data := .dict #[] }) scope.names }
  generalize cellsFrom (sC.heap.objs.size + 1) scope.names (cloFrom X.env.cells scope.names []) = cl at IK ⊢
  have pg := hg sC HC sC.heap.objs.size cl fp
  have pt := ht sC HC sC.heap.objs.size cl fp
  have pe := he sC HC sC.heap.objs.size cl fp
  have nC : ∀ b ∈ fp, HC b = none := fun b hb => (fC b hb).1.1
  generalize hce : compEnvC scope cl sC.heap.objs.size X.env = ce at IK pg pt pe ⊢
  have locals : ce.locals = sC.heap.objs.size := by subst hce; rfl
  generalize hsK : ({ sC with heap := pushCells (sC.heap.push { cls := .type "dict", data := .dict #[] }) scope.names } : Shared) = sK at IK ⊢
  have stK : tn 0 sK.heap := T.keep _ _ _ stC fun b _ o e => by rw [← hsK]; exact pushCells_keeps _ _ _ _ (Heap.get?_push_of_some _ e)
  have stand : ∀ {σ' : L2.St} {H' : Hp} {s' : Shared}, Inv (X.blk sC HC scope ce fp) [] σ' H' s' → (∀ b ∈ fp, H' b = none) → ∀ b ∈ fp, FpOk (X.blk sC HC scope ce fp) [] H' b := fun {σ' H' s'} I' hn b hb =>
    ⟨hn b hb, (I'.ok.exf b hb).1, I'.ok.exfs b hb, .inl hb, fun x c e => (I'.ok.exf b hb).2 x c e, fun p hp => absurd (show p ∈ ([] : List (Addr × Obj)) ++ [] from hp) (by simp)⟩
  have loop : codeAny (model X.prog X.w) X.A (.compLoop (.SetComp elt [⟨tg, iter, ifs, 0⟩] scope pos) 0 (.ref it) (.ref D) ce) (compPost (model X.prog X.w) X.A X.xe use Qf (.ref D) sC.heap.objs.size) sK := by
    refine PpSet.compLoopS_any (fun n s' => ∃ i H', Inv (X.blk sC HC scope ce fp) [] (wipe σ (own.map (·.2))) H' s' ∧ tn i s'.heap ∧ (∀ b ∈ fp, H' b = none) ∧ W i n H') ?_ m0 ⟨0, HC, IK, stK, nC, w0⟩
    rintro n sL ⟨i, HL, IL, stL, nL, wL⟩
    rcases turn i n HL wL with ⟨stop, qq⟩ | ⟨go, Nx, hNx, step⟩
    · refine thnF (T.done (X.blk sC HC scope ce fp) rfl rfl rfl hc i [] sL _ HL (fun _ _ => False) IL (stand IL nL) stL stop) fun r sM ⟨hr, IM⟩ => ?_
      subst hr
      have IX : Inv X pins σ HL sM := IC.call' (ch := fp) IM.os IM.base IM.hok IM.bare fun b hb => ⟨(fC b hb).1.2.2.2.1, (fC b hb).1.2.1, (fC b hb).1.2.2.2.2.1, (fC b hb).1.2.2.2.2.2⟩
      have nl : HL sC.heap.objs.size = none := by
        have z : HL ce.locals = none := IM.free
        rw [locals] at z
        exact z
      obtain ⟨m, hn, _⟩ := IM.loc
      have hn : sM.heap.Ns ce.locals m := hn
      rw [locals] at hn
      exact hRR D sC.heap.objs.size sM m HL IX qq hn (IC.fpOk (Nat.le_refl _) nl)
    · refine thnF (T.item (X.blk sC HC scope ce fp) rfl rfl rfl hc i [] sL _ HL (fun _ _ => False) IL (stand IL nL) stL go) fun r sM ⟨u, hr, hM⟩ => ?_
      subst hr
      refine thnF hM fun _ sN ⟨x, HN, IN, rN, yN, stN, nN⟩ => ?_
      have INp := IN.pinned (stand IN nN) (T.obj _ _ stN)
      refine thnF (pg.run _ sN _ HN x u _ INp rN (step x HN yN)) fun _ sO ⟨σO, HO_, IO_, hwO, qO⟩ => ?_
      refine thnF (pt.run _ sO σO HO_ _ IO_ qO) fun b sP ⟨HP, IP, qP⟩ => ?_
      have fin : ∀ {s' : Shared} {H' : Hp}, Inv (X.blk sC HC scope ce fp) ([] ++ pinsAt fp sN.heap) σO H' s' → Nx H' →
          ∃ m, m < n ∧ ∃ i H', Inv (X.blk sC HC scope ce fp) [] (wipe σ (own.map (·.2))) H' s' ∧ tn i s'.heap ∧ (∀ b ∈ fp, H' b = none) ∧ W i m H' := fun {s' H'} I' nx => by
        obtain ⟨m', hm, w'⟩ := hNx H' nx
        have kept : ∀ b ∈ fp, ∀ o, sN.heap.get? b = some o → s'.heap.get? b = some o ∧ H' b = none := fun b hb o e =>
          let z := I'.pin (b, o) (List.mem_append_right _ (List.mem_append_right _ (mem_pinsAt hb e)))
          ⟨z.1, z.2.1⟩
        refine ⟨m', hm, i + 1, H', (I'.unpinned (pins := [])).weak (by rw [← hwO, wipe_length]) (fun j v e => ?_), T.keep _ _ _ stN fun b hb o e => (kept b hb o e).1, fun b hb => ?_, w'⟩
        · rw [← hwO] at e
          exact (wipe_some e).1
        · exact (T.obj _ _ stN b hb).elim fun o z => (kept b hb o z.1).2
      cases b with
      | false =>
        simp only [Bool.false_eq_true, if_false] at qP ⊢
        exact fin IP qP
      | true =>
        simp only [if_true] at qP ⊢
        refine thnF (pe.run _ sP σO HP _ IP qP) fun v sQ ⟨yv, HQ, IQ, rQ, z, zs, ey, hDQ, hzQ, nx⟩ => ?_
        subst ey
        obtain ⟨tk, rfl⟩ : ∃ tk, v = Value.str z tk := rQ
        exact tsetO_add (X := X.blk sC HC scope ce fp) IQ hDQ hzQ fun sR IR => fin IR nx
  exact PpSet.codeAny_compStart_set loop (T.self X.A 0 _ _ _ stK loop)
theorem pe_scT {elt tg iter : Expr} {ifs : List Expr} {scope : Scope} {own : List (PySem.Str × Nat)} {pos : Pos} {wi : TI} {g : TG} {tt : TT} {te : TE} (hc : X.calm = true) (hN : X.N.Nodup) (hi : PI X tg iter wi)
    (ok : BlkOk X.N X.env.scope scope own)
    (hg : ∀ (s : Shared) (H : Hp) (C : Addr) (cl : List (PySem.Str × Addr)) (fp : List Addr), PG (X.blk s H scope (compEnvC scope cl C X.env) fp) tg g)
    (ht : ∀ (s : Shared) (H : Hp) (C : Addr) (cl : List (PySem.Str × Addr)) (fp : List Addr), PTs (X.blk s H scope (compEnvC scope cl C X.env) fp) ifs tt)
    (he : ∀ (s : Shared) (H : Hp) (C : Addr) (cl : List (PySem.Str × Addr)) (fp : List Addr), PE (X.blk s H scope (compEnvC scope cl C X.env) fp) elt te)
    (hs : ∀ x, foldedSetIterable iter X.env x = pure x := by intro _; rfl) : PE X (.SetComp elt [⟨tg, iter, ifs, 0⟩] scope pos) (tScT X.w wi g tt te (own.map (·.2))) := by
  refine ⟨fun pins s σ H Q I h => ?_⟩
  rw [PpSet.eval_SetComp]
  refine scT_core hc hN I hi ok hg ht he hs h fun D C s' m H' I' q hn f => ⟨m, hn, fun h'' sb => ?_⟩
  obtain ⟨f0, f1, f2, f3, f4, f5⟩ := f
  exact ⟨.ref D, H', I'.turned (t' := s'.toks) (fun b o hb e => (sb.2 b hb).trans e) f0 f1 f3 f4 f5, rfl, q⟩
end
/-- the texts of a list, each once, by first place -/
def once (zs : List Str) : List Str := zs.foldl addT []
theorem once_snoc (zs : List Str) (z : Str) : once (zs ++ [z]) = addT (once zs) z := by
  unfold once
  rw [List.foldl_append]
  rfl
theorem once_len (zs : List Str) : (once zs).length ≤ zs.length := by
  have h : ∀ (l acc : List Str), (l.foldl addT acc).length ≤ acc.length + l.length := by
    intro l
    induction l with
    | nil => intro acc; exact Nat.le_refl _
    | cons z l ih =>
      intro acc
      have e := ih (addT acc z)
      have f : (addT acc z).length ≤ acc.length + 1 := by
        unfold addT
        split
        · omega
        · simp
      show (l.foldl addT (addT acc z)).length ≤ _
      rw [List.length_cons]
      omega
  have := h zs []
  simpa [once] using this
theorem once_mem (zs : List Str) (y : Str) : y ∈ once zs ↔ y ∈ zs := by
  have h : ∀ (l acc : List Str), y ∈ l.foldl addT acc ↔ y ∈ acc ∨ y ∈ l := by
    intro l
    induction l with
    | nil => intro acc; simp
    | cons z l ih =>
      intro acc
      show y ∈ l.foldl addT (addT acc z) ↔ _
      rw [ih]
      unfold addT
      split
      · rename_i m
        simp only [List.mem_cons]
        constructor
        · rintro (a | a)
          · exact .inl a
          · exact .inr (.inr a)
        · rintro (a | a | a)
          · exact .inl a
          · exact .inl (a ▸ m)
          · exact .inr a
      · simp only [List.mem_append, List.mem_cons, List.not_mem_nil, or_false, or_assoc]
  simpa [once] using h zs []
theorem once_nodup (zs : List Str) : (once zs).Nodup := by
  have h : ∀ (l acc : List Str), acc.Nodup → (l.foldl addT acc).Nodup := by
    intro l
    induction l with
    | nil => intro acc h; exact h
    | cons z l ih =>
      intro acc h
      refine ih _ ?_
      unfold addT
      split
      · exact h
      · rename_i m
        exact nd_snoc h m
  exact h zs [] .nil
end Cs

set_option Elab.async false
set_option linter.all false
set_option maxRecDepth 100000
set_option maxHeartbeats 4000000
/-! The law's draws: a source is a list of the script's cells and three numbers. -/
namespace Cs
open PySem L2
/-- the builtins and helper defs that are reached, by what the module's names hold -/
structure Bi (mg : Str → Option Value) : Prop where
  len : mg "len" = none
  int : mg "int" = none
  abs : mg "abs" = none
  list : mg "list" = none
  range : mg "range" = none
  sorted : mg "sorted" = none
  str : mg "str" = none
  isinstance : mg "isinstance" = none
  sum : mg "sum" = none
  tuple : mg "tuple" = none
  dict : mg "dict" = none
  all : mg "all" = none
  bool : mg "bool" = none
  enumerate : mg "enumerate" = none
/-- all but what stands at p is as it was -/
def Kp (p : Addr) (H H' : Hp) : Prop := ∀ b o, H b = some o → b ≠ p → H' b = some o
theorem Kp.refl (p : Addr) (H : Hp) : Kp p H H := fun _ _ h _ => h
theorem Kp.trans {p : Addr} {H H1 H2 : Hp} (a : Kp p H H1) (b : Kp p H1 H2) : Kp p H H2 := fun c o h n => b c o (a c o h n) n
theorem Kp.of {p : Addr} {H H1 : Hp} (a : Same H H1) : Kp p H H1 := fun c o h _ => a c o h
theorem Kp.upd {p : Addr} {H : Hp} {o : HO} : Kp p H (upd H p o) := fun c u h n => by rw [upd_ne n]; exact h
theorem Kp.seq {K : PySem.W.Frag} {p a : Addr} {H H' : Hp} {xs : List V} (k : Kp p H H') (h : SqL K H a xs) (n : a ≠ p) : SqL K H' a xs := by
  rcases h with (h | ⟨o, h⟩) | h
  · exact .inl (.inl (k _ _ h n))
  · exact .inl (.inr ⟨o, k _ _ h n⟩)
  · exact .inr h
theorem Same.new {H : Hp} {p : Addr} {o : HO} (h : H p = none) : Same H (L2.upd H p o) := fun b u e => by
  rw [upd_ne (ne_of_none e h)]
  exact e
/-- a source of draws at p, its cells at c -/
def Src (H : Hp) (p c : Addr) : Prop := ∃ (ns : List Int) (i l n : Int), H p = some (.lst [.ref c, .int i, .int l, .int n]) ∧ H c = some (.lst (ns.map V.int)) ∧ c ≠ p ∧ 0 ≤ i ∧ 0 ≤ l
theorem Src.keep {H H' : Hp} {p c : Addr} (h : Src H p c) (s : ∀ b o, (b = p ∨ b = c) → H b = some o → H' b = some o) : Src H' p c := by
  obtain ⟨ns, i, l, n, a, b, r⟩ := h
  exact ⟨ns, i, l, n, s _ _ (.inl rfl) a, s _ _ (.inr rfl) b, r⟩
theorem Src.same {H H' : Hp} {p c : Addr} (s : Same H H') (h : Src H p c) : Src H' p c := h.keep fun b o _ e => s b o e
theorem Src.at_p {H : Hp} {p c : Addr} (h : Src H p c) : ∃ xs, H p = some (.lst xs) := by
  obtain ⟨ns, i, l, n, a, _⟩ := h
  exact ⟨_, a⟩
theorem Src.at_c {H : Hp} {p c : Addr} (h : Src H p c) : ∃ xs, H c = some (.lst xs) := by
  obtain ⟨ns, i, l, n, a, b, _⟩ := h
  exact ⟨_, b⟩
theorem Src.new_p {H : Hp} {p c q : Addr} (h : Src H p c) (n : H q = none) : q ≠ p := by
  obtain ⟨xs, e⟩ := h.at_p
  exact (ne_of_none e n).symm
theorem Src.new_c {H : Hp} {p c q : Addr} (h : Src H p c) (n : H q = none) : q ≠ c := by
  obtain ⟨xs, e⟩ := h.at_c
  exact (ne_of_none e n).symm
theorem Src.tup_p {H : Hp} {p c t : Addr} {xs : List V} (h : Src H p c) (e : H t = some (.tup xs)) : t ≠ p := by
  obtain ⟨ys, a⟩ := h.at_p
  rintro rfl
  rw [e] at a
  cases a
theorem atI0 {α : Type} {a b c d : α} : atI [a, b, c, d] 0 = some a := rfl
theorem atI1 {α : Type} {a b c d : α} : atI [a, b, c, d] 1 = some b := rfl
theorem atI2 {α : Type} {a b c d : α} : atI [a, b, c, d] 2 = some c := rfl
theorem atI3 {α : Type} {a b c d : α} : atI [a, b, c, d] 3 = some d := rfl

def spMixed : Sp := fun vs H Q _ => ∃ c n : Int, vs = [.int c, .int n] ∧ ∀ v : Int, Q (.int v) H
def spDraw : Sp := fun vs H Q _ => ∃ (p c : Addr) (n : Int), vs = [.ref p, .int n] ∧ Src H p c ∧ 0 < n ∧ n < 1073741824 ∧ ∀ (v : Int) (H' : Hp), 0 ≤ v → v < n → Src H' p c → Kp p H H' → Q (.int v) H'
def spSource (K : PySem.W.Frag) : Sp := fun vs H Q _ => ∃ (a : Addr) (ns : List Int), vs = [.ref a] ∧ SqL K H a (ns.map V.int) ∧ ∀ (p c : Addr) (H' : Hp), H p = none → H c = none → Same H H' → Src H' p c → Q (.ref p) H'

section
variable {P : Program} {w : World} {K : PySem.W.Frag} {mg : Str → Option Value} {base : Heap}
theorem ok_mixed {f : Addr} {fd : FuncData} (F : Fun K "_law_mixed" "_law_mixed" s_l_mixed f fd) (g : Bi mg) : FnOk P w K mg base CX0 1 f fd ["_law_cell", "_law_count"] spMixed := by
  refine F.ok sc_l_mixed (fun vs H Q E h => ?_) (fun cdv A outer s H vs Q E hr h => ?_)
  · obtain ⟨_, _, rfl, _⟩ := h
    rfl
  · obtain ⟨c, n, rfl, k⟩ := h
    refine ⟨_, (pss_cons (ps_if (pt_cmpR op_eq (pv 0) pe_int (nomark _)) (pss_one (ps_ret pe_int)) pss_nil)
      (pss_cons (ps_set (i := 2) sc_l_mixed.nd rfl (Or.inl rfl) (pe_op op_mod (pe_callTy call_int1 (by rfl) g.int (by decide +kernel) (pa_cons (pe_op op_add (pe_op op_mul (pv 0) pe_int) (pe_op op_mul (pv 1) pe_int)) pa_nil)) pe_int))
      (pss_one (ps_ret (pe_op op_fdiv (pe_op op_mod (pe_callTy call_int1 (by rfl) g.int (by decide +kernel) (pa_cons (pe_op op_add (pe_op op_add (pe_op op_mul (pv 2) pe_int) (pe_op op_mul (pe_op op_fdiv (pv 2) pe_int) (pv 1))) pe_int) pa_nil)) pe_int) pe_int))))), ?_⟩
    refine ⟨_, rfl, rfl, _, rfl, ite2 (fun _ => k _) (fun _ => ?_)⟩
    refine ⟨_, rfl, _, _, rfl, rfl, .inr ⟨by decide, by decide⟩, _, rfl, _, _, rfl, rfl, .inr ⟨by decide, by decide⟩, _, _, rfl, rfl, Or.inl ⟨_, rfl, _, _, rfl, rfl, (by show (0 : Int) < 2147483647; decide), ?_⟩⟩
    generalize hf : (c * 48271 + n * 69621) % 2147483647 = a
    have h0 : 0 ≤ a := by rw [← hf]; exact Int.emod_nonneg _ (by decide)
    have h1 : a < 2147483647 := by rw [← hf]; exact Int.emod_lt_of_pos _ (by decide)
    refine ⟨_, rfl, _, _, rfl, rfl, .inr ⟨by decide, by decide⟩, _, rfl, _, _, rfl, rfl, ⟨by decide, by decide⟩, _, rfl, _, _, rfl, rfl, .inl ⟨by omega, by omega⟩, _, _, rfl, rfl, _, _, rfl, rfl, Or.inl ⟨_, rfl, _, _, rfl, rfl, (by show (0 : Int) < 2147483399; decide), _, _, rfl, rfl, ⟨by decide, by decide⟩, k _⟩⟩
theorem ok_source {f : Addr} {fd : FuncData} (F : Fun K "_law_source" "_law_source" s_l_source f fd) (g : Bi mg) : FnOk P w K mg base CX0 1 f fd ["_law_script"] (spSource K) := by
  refine F.ok sc_l_source (fun vs H Q E h => ?_) (fun cdv A outer s H vs Q E hr h => ?_)
  · obtain ⟨_, _, rfl, _⟩ := h
    rfl
  · obtain ⟨a, ns, rfl, hS, k⟩ := h
    refine ⟨_, (pss_one (ps_ret (pe_lst (pa_cons (pe_callTy call_list_of (by rfl) g.list (by decide +kernel) (pa_cons (pe_slice sl_list (pv 0) po_none (po_some pe_int)) pa_nil)) (pa_cons pe_int (pa_cons pe_int (pa_cons pe_int pa_nil))))))), ?_⟩
    refine ⟨_, rfl, _, rfl, a, _, rfl, hS, fun q hq => ⟨q, _, rfl, .inl (SqL.of upd_same), fun c hc => ⟨by show 4 ≤ sizeLine; decide, fun p hp => ?_⟩⟩⟩
    have s1 : Same H (upd H q (.lst (cutV (ns.map V.int) none (some 63)))) := Same.new hq
    have s2 := s1.trans (Same.new (o := .lst (cutV (ns.map V.int) none (some 63))) hc)
    have s3 := s2.trans (Same.new (o := .lst [.ref c, .int 0, .int 0, .int 0]) hp)
    have ncp : c ≠ p := ne_of_none (H := upd _ c _) upd_same hp
    obtain ⟨ms, em⟩ : ∃ ms : List Int, cutV (ns.map V.int) none (some 63) = ms.map V.int := by
      unfold cutV
      rw [← List.map_drop, ← List.map_take]
      exact ⟨_, rfl⟩
    refine k p c _ (s2.free hp) (s1.free hc) s3 ⟨ms, 0, 0, 0, upd_same, ?_, ncp, by decide, by decide⟩
    rw [upd_ne ncp, upd_same, em]
theorem ok_draw {f fM : Addr} {fd fdM : FuncData} (F : Fun K "_law_draw" "_law_draw" s_l_draw f fd) (g : Bi mg) (FM : Fun K "_law_mixed" "_law_mixed" s_l_mixed fM fdM) (mM : mg "_law_mixed" = some (.ref fM)) (bM : Binds K fdM ["_law_cell", "_law_count"] []) :
    FnOk P w K mg base CX0 2 f fd ["_law_source_here", "_law_size"] spDraw := by
  have GM : FnOk P w K mg base CX0 1 fM fdM ["_law_cell", "_law_count"] spMixed := ok_mixed FM g
  refine F.ok sc_l_draw (fun vs H Q E h => ?_) (fun cdv A outer s H vs Q E hr h => ?_)
  · obtain ⟨_, _, _, rfl, _⟩ := h
    rfl
  · obtain ⟨p, c, n, rfl, ⟨ns, i, l, m, hp, hc, ncp, hi, hl⟩, n0, n1, k⟩ := h
    have hrM : Room 1 _ := hr.mono (by decide)
    refine ⟨_, (pss_cons (ps_asg (pe_op op_add (pe_ix ix_list (pv 0) pe_int (fun _ _ => rfl)) pe_int) (pg_sub (pv 0) pe_int set_list))
      (C8.pss_cut (ps_if (PW.pt (pw_and (pt_cmpR op_eq (pe_ix ix_list (pv 0) pe_int (fun _ _ => rfl)) pe_int (nomark _)) (pw_and1 (pt_cmpR op_gt (pe_callB call_len (by rfl) g.len PySem.boot_len (pa_cons (pe_ix ix_list (pv 0) pe_int (fun _ _ => rfl)) pa_nil)) pe_int (nomark _))))) (pss_cons (ps_set (i := 2) sc_l_draw.nd rfl (Or.inl rfl) (pe_ix ix_list (pv 0) pe_int (fun _ _ => rfl)))
      (pss_cons (ps_set (i := 3) sc_l_draw.nd rfl (Or.inl rfl) (pe_ix ix_list (pe_ix ix_list (pv 0) pe_int (fun _ _ => rfl)) (pe_op op_mod (pe_callTy call_int1 (by rfl) g.int (by decide +kernel) (pa_cons (pv 2) pa_nil)) (pe_callB call_len (by rfl) g.len PySem.boot_len (pa_cons (pe_ix ix_list (pv 0) pe_int (fun _ _ => rfl)) pa_nil))) (fun _ _ => rfl)))
      (pss_cons (ps_asg (pe_op op_add (pv 2) pe_int) (pg_sub (pv 0) pe_int set_list))
      (pss_one (ps_if (PW.pt (pw_and (pt_cmpR op_lt (pv 2) (pe_callB call_len (by rfl) g.len PySem.boot_len (pa_cons (pe_ix ix_list (pv 0) pe_int (fun _ _ => rfl)) pa_nil)) (nomark _)) (pw_and1 (pt_cmpR op_ge (pe_callB call_abs (by rfl) g.abs (by decide +kernel) (pa_cons (pv 3) pa_nil)) (pe_op op_pow pe_int pe_int) (nomark _))))) (pss_one (ps_asg (pe_callB call_abs (by rfl) g.abs (by decide +kernel) (pa_cons (pv 3) pa_nil)) (pg_sub (pv 0) pe_int set_list))) (pss_one (ps_ret (pe_op op_mod (pe_callTy call_int1 (by rfl) g.int (by decide +kernel) (pa_cons (pe_call GM hrM rfl mM FM.kp bM .nil pass0 (pa_cons (pv 3) (pa_cons (pe_ix ix_list (pv 0) pe_int (fun _ _ => rfl)) pa_nil))) pa_nil)) (pv 1))))))))) pss_nil)
      (pss_cons (ps_set (i := 4) sc_l_draw.nd rfl (Or.inl rfl) (pe_op op_mod (pe_callTy call_int1 (by rfl) g.int (by decide +kernel) (pa_cons (pe_ix ix_list (pv 0) pe_int (fun _ _ => rfl)) pa_nil)) (pv 1)))
      (pss_cons (ps_asg (pe_op op_fdiv (pe_ix ix_list (pv 0) pe_int (fun _ _ => rfl)) (pv 1)) (pg_sub (pv 0) pe_int set_list))
      (pss_one (ps_ret (pv 4))))))), ?_⟩
    have c1 : ∀ o, (upd H p o) c = some (.lst (ns.map V.int)) := fun o => by rw [upd_ne ncp]; exact hc
    have q1 : ∀ xs, SqL K (upd H p (.lst xs)) p xs := fun xs => SqL.of upd_same
    have q2 : ∀ o, SqL K (upd H p o) c (ns.map V.int) := fun o => SqL.of (c1 o)
    refine ⟨_, rfl, p, _, _, _, rfl, rfl, SqL.of hp, atI3, _, _, rfl, rfl, _, rfl, p, _, _, 3, rfl, rfl, hp, rfl, ?_⟩
    have e1 : ([V.ref c, .int i, .int l, .int m].set 3 (.int (m + 1))) = [V.ref c, .int i, .int l, .int (m + 1)] := rfl
    rw [e1]
    refine ⟨fun σ' H2 => ∃ x2 x3 x4 j l2, σ' = [some (.ref p), some (.int n), x2, x3, x4] ∧ H2 p = some (.lst [.ref c, .int j, .int l2, .int (m + 1)]) ∧ H2 c = some (.lst (ns.map V.int)) ∧ 0 ≤ j ∧ 0 ≤ l2 ∧ Kp p H H2, ?_, ?_⟩
    · refine ⟨_, rfl, p, _, _, _, rfl, rfl, q1 _, atI2, rfl, _, rfl, ?_⟩
      refine ite2 (fun z => ?_) (fun z => ?_)
      · refine ⟨_, rfl, p, _, _, _, rfl, rfl, q1 _, atI0, _, _, rfl, .inl ⟨_, q2 _, rfl⟩, _, _, rfl, rfl, _, rfl, ?_⟩
        rw [List.length_map]
        refine ite2 (fun z2 => ?_) (fun z2 => ?_)
        · have hlen : 0 < ns.length := by simpa using z2
          refine ⟨_, rfl, p, _, _, _, rfl, rfl, q1 _, atI1, ?_⟩
          have hx0 : 0 ≤ i % (ns.length : Int) := Int.emod_nonneg _ (by omega)
          have hx1 : i % (ns.length : Int) < (ns.length : Int) := Int.emod_lt_of_pos _ (by omega)
          obtain ⟨j, ej⟩ : ∃ j : Nat, i % (ns.length : Int) = (j : Int) := ⟨(i % (ns.length : Int)).toNat, by omega⟩
          have hj : j < ns.length := by omega
          have hat : atI (ns.map V.int) (i % ((ns.map V.int).length : Int)) = some (.int ns[j]) := by
            rw [List.length_map, ej]
            exact atI_nat (by rw [List.getElem?_map, List.getElem?_eq_getElem hj]; rfl)
          refine ⟨_, rfl, p, _, _, _, rfl, rfl, q1 _, atI0, _, rfl, Or.inl ⟨_, rfl, _, rfl, p, _, _, _, rfl, rfl, q1 _, atI0, _, _, rfl, .inl ⟨_, q2 _, rfl⟩, _, _, rfl, rfl, (by rw [List.length_map]; omega), c, _, _, _, rfl, rfl, q2 _, hat, ?_⟩⟩
          refine ⟨_, rfl, _, _, rfl, rfl, _, rfl, p, _, _, 1, rfl, rfl, upd_same, rfl, ?_⟩
          have e2 : ([V.ref c, .int i, .int l, .int (m + 1)].set 1 (.int (i + 1))) = [V.ref c, .int (i + 1), .int l, .int (m + 1)] := rfl
          rw [e2]
          have c2 : ∀ o o', (upd (upd H p o) p o') c = some (.lst (ns.map V.int)) := fun o o' => by rw [upd_ne ncp]; exact c1 o
          have kp2 : ∀ o o', Kp p H (upd (upd H p o) p o') := fun o o' => Kp.upd.trans Kp.upd
          have other : ∀ v : Int, Q (.int (v % n)) (upd (upd H p (.lst [.ref c, .int i, .int l, .int (m + 1)])) p (.lst [.ref c, .int (i + 1), .int l, .int (m + 1)])) := fun v =>
            k _ _ (Int.emod_nonneg _ (by omega)) (Int.emod_lt_of_pos _ n0) ⟨ns, i + 1, l, m + 1, upd_same, c2 _ _, ncp, by omega, hl⟩ (kp2 _ _)
          refine ⟨_, rfl, _, rfl, p, _, _, _, rfl, rfl, SqL.of upd_same, atI0, _, _, rfl, .inl ⟨_, SqL.of (c2 _ _), rfl⟩, _, _, rfl, rfl, _, rfl, ?_⟩
          refine ite2 (fun z3 => ?_) (fun z3 => ?_)
          · refine ⟨_, rfl, _, rfl, _, _, rfl, rfl, ⟨by decide, by decide, by decide⟩, _, _, rfl, rfl, _, rfl, ?_⟩
            refine ite2 (fun z4 => ?_) (fun z4 => ?_)
            · refine ⟨_, rfl, _, rfl, _, rfl, p, _, _, 2, rfl, rfl, upd_same, rfl, ?_⟩
              refine ⟨_, _, _, i + 1, _, rfl, upd_same, by rw [upd_ne ncp]; exact c2 _ _, by omega, ?_, (kp2 _ _).trans Kp.upd⟩
              split <;> omega
            · refine ⟨_, rfl, _, rfl, p, _, _, _, rfl, rfl, SqL.of upd_same, atI3, _, _, rfl, fun v => Or.inl ⟨_, rfl, _, rfl, _, _, rfl, rfl, n0, other v⟩⟩
          · refine ⟨_, rfl, _, rfl, p, _, _, _, rfl, rfl, SqL.of upd_same, atI3, _, _, rfl, fun v => Or.inl ⟨_, rfl, _, rfl, _, _, rfl, rfl, n0, other v⟩⟩
        · exact ⟨_, _, _, i, l, rfl, upd_same, c1 _, hi, hl, Kp.upd⟩
      · exact ⟨_, _, _, i, l, rfl, upd_same, c1 _, hi, hl, Kp.upd⟩
    · rintro σ' H2 ⟨x2, x3, x4, j, l2, rfl, hp2, hc2, j0, l0, kp⟩
      refine ⟨_, rfl, p, _, _, _, rfl, rfl, SqL.of hp2, atI2, Or.inl ⟨_, rfl, _, rfl, _, _, rfl, rfl, n0, ?_⟩⟩
      refine ⟨_, rfl, p, _, _, _, rfl, rfl, SqL.of hp2, atI2, _, rfl, _, _, rfl, rfl, ⟨n0, n1⟩, _, rfl, p, _, _, 2, rfl, rfl, hp2, rfl, ?_⟩
      refine ⟨_, rfl, ?_⟩
      exact k _ _ (Int.emod_nonneg _ (by omega)) (Int.emod_lt_of_pos _ n0) ⟨ns, j, l2 / n, m + 1, upd_same, by rw [upd_ne ncp]; exact hc2, ncp, j0, Int.ediv_nonneg l0 (by omega)⟩ (kp.trans Kp.upd)
end
end Cs

set_option Elab.async false
set_option linter.all false
set_option maxRecDepth 100000
set_option maxHeartbeats 4000000
/-! The law's words, numbers and pairs. -/
namespace Cs
open PySem L2
def LET : Str := "abcdefghijklmnopqrstuvwxyz"
/-- one to eight letters -/
def Word (z : Str) : Prop := 1 ≤ z.length ∧ z.length ≤ 8 ∧ ∀ c ∈ z.cps.toList, c ∈ LET.cps.toList
/-- at most thirty digits -/
def Small (n : Int) : Prop := -(10 ^ 30) < n ∧ n < 10 ^ 30
theorem len_add (x y : Str) : (x ++ y).length = x.length + y.length := by
  show (x.cps ++ y.cps).size = x.cps.size + y.cps.size
  exact Array.size_append
theorem cps_add (x y : Str) : (x ++ y).cps.toList = x.cps.toList ++ y.cps.toList := by
  show (x.cps ++ y.cps).toList = _
  exact Array.toList_append
def wordB (z : Str) : Bool := decide (1 ≤ z.length) && decide (z.length ≤ 8) && z.cps.toList.all fun c => decide (c ∈ LET.cps.toList)
theorem word_of {z : Str} (h : wordB z = true) : Word z := by
  unfold wordB at h
  simp only [Bool.and_eq_true, decide_eq_true_eq, List.all_eq_true] at h
  exact ⟨h.1.1, h.1.2, h.2⟩
theorem ats_of {α : Type} {xs : List α} {z : Int} {j : Nat} {v : α} (e : z = (j : Int)) (h : xs[j]? = some v) : atI xs z = some v := by
  rw [e]
  exact atI_nat h
def spWord : Sp := fun vs H Q _ => ∃ p c : Addr, vs = [.ref p] ∧ Src H p c ∧ ∀ (z : Str) (H' : Hp), Word z → Src H' p c → Kp p H H' → Q (.str z) H'
def spNumber : Sp := fun vs H Q _ => ∃ p c : Addr, vs = [.ref p] ∧ Src H p c ∧ ∀ (n : Int) (H' : Hp), Small n → Src H' p c → Kp p H H' → Q (.int n) H'
/-- the items are tuples of a text and a number -/
def PrL (H : Hp) : List V → List (Str × Int) → Prop := Paired fun x q => ∃ t, x = V.ref t ∧ H t = some (.tup [.str q.1, .int q.2])
def GoodPs (ps : List (Str × Int)) : Prop := ∀ q ∈ ps, Word q.1 ∧ Small q.2
def spPairs : Sp := fun vs H Q _ => ∃ (p c : Addr) (m : Int), vs = [.ref p, .int m] ∧ Src H p c ∧ 0 ≤ m ∧ m ≤ 1000 ∧
  ∀ (q : Addr) (H' : Hp) (xs : List V) (ps : List (Str × Int)), H q = none → H' q = some (.lst xs) → PrL H' xs ps → GoodPs ps → (ps.length : Int) ≤ m → Src H' p c → Kp p H H' → Q (.ref q) H'
theorem PrL.mono {H H' : Hp} {xs : List V} {ps : List (Str × Int)} (h : PrL H xs ps) (k : ∀ t a b, H t = some (.tup [.str a, .int b]) → H' t = some (.tup [.str a, .int b])) : PrL H' xs ps :=
  Paired.mapP h fun x q ⟨t, e, r⟩ => ⟨t, e, k t _ _ r⟩
theorem PrL.length {H : Hp} : ∀ {xs : List V} {ps : List (Str × Int)}, PrL H xs ps → xs.length = ps.length
  | _, _, .nil => rfl
  | _, _, .cons _ t => congrArg (· + 1) (PrL.length t)
theorem PrL.at {H : Hp} : ∀ {xs : List V} {ps : List (Str × Int)}, PrL H xs ps → ∀ {i : Nat} {q : Str × Int}, ps[i]? = some q → ∃ t, xs[i]? = some (V.ref t) ∧ H t = some (.tup [.str q.1, .int q.2])
  | _, _, .nil, i, q, h => by simp at h
  | _, _, .cons (a := a) r t, 0, q, h => by
    obtain ⟨u, e, hu⟩ := r
    obtain rfl := Option.some.inj h
    exact ⟨u, by rw [e]; rfl, hu⟩
  | _, _, .cons r t, i + 1, q, h => PrL.at t h
theorem PrL.snoc {H : Hp} : ∀ {xs : List V} {ps : List (Str × Int)} {t : Addr} {a : Str} {b : Int}, PrL H xs ps → H t = some (.tup [.str a, .int b]) → PrL H (xs ++ [.ref t]) (ps ++ [(a, b)])
  | _, _, _, _, _, .nil, h => .cons ⟨_, rfl, h⟩ .nil
  | _, _, _, _, _, .cons r t, h => .cons r (PrL.snoc t h)
section
variable {P : Program} {w : World} {K : PySem.W.Frag} {mg : Str → Option Value} {base : Heap}
/-- a def of the module as its callers have it: its promise, its name, that it stays, how its arguments bind -/
structure Def (P : Program) (w : World) (K : PySem.W.Frag) (mg : Str → Option Value) (base : Heap) (CX : CXT) (k : Nat) (x : Str) (ps : List Str) (sp : Sp) (f : Addr) (fd : FuncData) : Prop where
  ok : FnOk P w K mg base CX k f fd ps sp
  m : mg x = some (.ref f)
  kp : PySem.W.keepIn K (.ref f) = true
  b : Binds K fd ps []
theorem ok_word {f fD : Addr} {fd fdD : FuncData} (F : Fun K "_law_word" "_law_word" s_l_word f fd) (g : Bi mg) (FD : Def P w K mg base CX0 2 "_law_draw" ["_law_source_here", "_law_size"] spDraw fD fdD) : FnOk P w K mg base CX0 3 f fd ["_law_source_here"] spWord := by
  obtain ⟨GD, mD, _, bD⟩ := id FD
  refine F.ok sc_l_word (fun vs H Q E h => ?_) (fun cdv A outer s H vs Q E hr h => ?_)
  · obtain ⟨_, _, rfl, _⟩ := h
    rfl
  · obtain ⟨p, c, rfl, hS, k⟩ := h
    have hrD : Room 2 _ := hr.mono (by decide)
    refine ⟨_, (pss_cons (ps_if (pt_cmpR op_eq (pe_call GD hrD rfl mD FD.kp bD .nil pass0 (pa_cons (pv 0) (pa_cons pe_int pa_nil))) pe_int (nomark _)) (pss_cons (ps_set (i := 1) sc_l_word.nd rfl (Or.inl rfl) (pe_lst (pa_cons pe_str (pa_cons pe_str (pa_cons pe_str (pa_cons pe_str (pa_cons pe_str (pa_cons pe_str (pa_cons pe_str (pa_cons pe_str pa_nil))))))))))
      (pss_one (ps_ret (pe_ix ix_list (pv 1) (pe_call GD hrD rfl mD FD.kp bD .nil pass0 (pa_cons (pv 0) (pa_cons pe_int pa_nil))) (fun _ _ => rfl))))) pss_nil)
      (pss_cons (ps_set (i := 2) sc_l_word.nd rfl (Or.inl rfl) pe_str)
      (pss_cons (ps_for PassesOwn.never rfl (pi_range1 rfl g.range (pa_cons (pe_op op_add pe_int (pe_call GD hrD rfl mD FD.kp bD .nil pass0 (pa_cons (pv 0) (pa_cons pe_int pa_nil)))) pa_nil)) (pg_name (i := 3) sc_l_word.nd rfl (Or.inl rfl)) (pss_one (ps_set (i := 2) sc_l_word.nd rfl (Or.inl rfl) (pe_op op_add_str (pv 2) (pe_ix ix_str pe_str (pe_call GD hrD rfl mD FD.kp bD .nil pass0 (pa_cons (pv 0) (pa_cons pe_int pa_nil))) (fun _ _ => rfl))))))
      (pss_one (ps_ret (pv 2)))))), ?_⟩
    refine ⟨_, rfl, p, c, 8, rfl, hS, by decide, by decide, fun v H1 v0 v1 S1 k1 => ⟨rfl, _, rfl, ite2 (fun z => ?_) (fun z => ?_)⟩⟩
    · refine ⟨by show 8 ≤ sizeLine; decide, fun l hl => ?_⟩
      have s2 : Same H1 (upd H1 l (.lst [.str "self", .str "hold", .str "gone", .str "main", .str "zzzzzzzz", .str "aaaaaaab", .str "if", .str "spare"])) := Same.new hl
      have nlp : l ≠ p := S1.new_p hl
      refine ⟨_, rfl, _, rfl, p, c, 8, rfl, S1.same s2, by decide, by decide, fun v2 H2 a0 a1 S2 k2 => ?_⟩
      have hl2 := k2 l _ upd_same nlp
      have key : ∀ j : Nat, j < 8 → ∃ z : Str, ([.str "self", .str "hold", .str "gone", .str "main", .str "zzzzzzzz", .str "aaaaaaab", .str "if", .str "spare"] : List V)[j]? = some (.str z) ∧ Word z := by
        intro j hj
        match j, hj with
        | 0, _ => exact ⟨_, rfl, word_of (by decide +kernel)⟩
        | 1, _ => exact ⟨_, rfl, word_of (by decide +kernel)⟩
        | 2, _ => exact ⟨_, rfl, word_of (by decide +kernel)⟩
        | 3, _ => exact ⟨_, rfl, word_of (by decide +kernel)⟩
        | 4, _ => exact ⟨_, rfl, word_of (by decide +kernel)⟩
        | 5, _ => exact ⟨_, rfl, word_of (by decide +kernel)⟩
        | 6, _ => exact ⟨_, rfl, word_of (by decide +kernel)⟩
        | 7, _ => exact ⟨_, rfl, word_of (by decide +kernel)⟩
      obtain ⟨z, ez, hz⟩ := key v2.toNat (by omega)
      refine ⟨l, _, v2, _, rfl, rfl, SqL.of hl2, at_of (z := v2) (j := v2.toNat) (by omega) ez, ?_⟩
      exact k z H2 hz S2 ((k1.trans (Kp.of s2)).trans k2)
    · refine ⟨_, rfl, p, c, 8, rfl, S1, by decide, by decide, fun v2 H2 a0 a1 S2 k2 => ⟨_, _, rfl, rfl, _, rfl, by omega, by omega, ?_⟩⟩
      refine for_range (lo := 0) (n := (1 + v2).toNat) (fun i σ' H' => ∃ (z : Str) (x1 x3 : Option V), σ' = [some (.ref p), x1, some (.str z), x3] ∧ z.length = i ∧ (∀ y ∈ z.cps.toList, y ∈ LET.cps.toList) ∧ Src H' p c ∧ Kp p H H')
        ⟨"", _, _, rfl, rfl, (by intro y hc; cases hc), S2, k1.trans k2⟩ ?_ ?_
      · rintro i σ' H' hi ⟨z, x1, x3, rfl, hz, hc, S', kp'⟩
        refine ⟨_, rfl, _, rfl, p, c, 26, rfl, S', by decide, by decide, fun v3 H3 b0 b1 S3 k3 => ?_⟩
        have hx : v3.toNat < LET.cps.toList.length := by
          have : LET.cps.toList.length = 26 := by decide +kernel
          omega
        refine ⟨LET, v3, LET.cps.toList[v3.toNat], rfl, rfl, by decide +kernel, ats_of (z := v3) (j := v3.toNat) (by omega) (List.getElem?_eq_getElem hx), z, _, rfl, rfl, ?_, ?_⟩
        · have : (⟨#[LET.cps.toList[v3.toNat]]⟩ : Str).length = 1 := rfl
          rw [this, hz]
          exact Nat.le_trans (show i + 1 ≤ 1000 by omega) (by decide)
        · refine ⟨_, _, _, rfl, ?_, fun y hc' => ?_, S3, kp'.trans k3⟩
          · rw [len_add, hz]
            rfl
          · rw [cps_add] at hc'
            rcases List.mem_append.mp hc' with q | q
            · exact hc y q
            · have e : y = LET.cps.toList[v3.toNat] := by simpa using q
              rw [e]
              exact List.getElem_mem hx
      · rintro σ' H' ⟨z, x1, x3, rfl, hz, hc, S', kp'⟩
        exact ⟨_, rfl, k z H' ⟨by omega, by omega, hc⟩ S' kp'⟩
theorem ok_number {f fD : Addr} {fd fdD : FuncData} (F : Fun K "_law_number" "_law_number" s_l_number f fd) (g : Bi mg) (FD : Def P w K mg base CX0 2 "_law_draw" ["_law_source_here", "_law_size"] spDraw fD fdD) : FnOk P w K mg base CX0 3 f fd ["_law_source_here"] spNumber := by
  obtain ⟨GD, mD, _, bD⟩ := id FD
  refine F.ok sc_l_number (fun vs H Q E h => ?_) (fun cdv A outer s H vs Q E hr h => ?_)
  · obtain ⟨_, _, rfl, _⟩ := h
    rfl
  · obtain ⟨p, c, rfl, hS, k⟩ := h
    have hrD : Room 2 _ := hr.mono (by decide)
    refine ⟨_, (pss_cons (ps_set (i := 1) sc_l_number.nd rfl (Or.inl rfl) (pe_call GD hrD rfl mD FD.kp bD .nil pass0 (pa_cons (pv 0) (pa_cons pe_int pa_nil))))
      (pss_cons (ps_if (pt_cmpR op_eq (pv 1) pe_int (nomark _)) (pss_one (ps_ret (pe_op op_sub (pe_call GD hrD rfl mD FD.kp bD .nil pass0 (pa_cons (pv 0) (pa_cons pe_int pa_nil))) pe_int))) pss_nil)
      (pss_cons (ps_if (pt_cmpR op_eq (pv 1) pe_int (nomark _)) (pss_one (ps_ret (pe_op op_sub (pe_call GD hrD rfl mD FD.kp bD .nil pass0 (pa_cons (pv 0) (pa_cons pe_int pa_nil))) pe_int))) pss_nil)
      (pss_cons (ps_set (i := 2) sc_l_number.nd rfl (Or.inl rfl) pe_int)
      (pss_cons (ps_for PassesOwn.never rfl (pi_range1 rfl g.range (pa_cons pe_int pa_nil)) (pg_name (i := 3) sc_l_number.nd rfl (Or.inl rfl)) (pss_one (ps_set (i := 2) sc_l_number.nd rfl (Or.inl rfl) (pe_op op_add (pe_op op_mul (pv 2) (pe_op op_pow pe_int pe_int)) (pe_call GD hrD rfl mD FD.kp bD .nil pass0 (pa_cons (pv 0) (pa_cons (pe_op op_pow pe_int pe_int) pa_nil)))))))
      (pss_cons (ps_set (i := 2) sc_l_number.nd rfl (Or.inl rfl) (pe_op op_mod (pe_callTy call_int1 (by rfl) g.int (by decide +kernel) (pa_cons (pv 2) pa_nil)) (pe_op op_pow pe_int pe_int)))
      (pss_one (ps_ret (pe_ifExp (pt_cmpR op_eq (pv 1) pe_int (nomark _)) (pv 2) (pe_un un_neg (pv 2))))))))))), ?_⟩
    refine ⟨_, rfl, p, c, 4, rfl, hS, by decide, by decide, fun v H1 v0 v1 S1 k1 => ?_⟩
    refine ⟨_, rfl, rfl, _, rfl, ite2 (fun z => ?_) (fun z => ?_)⟩
    · refine ⟨_, rfl, p, c, 7, rfl, S1, by decide, by decide, fun v2 H2 a0 a1 S2 k2 => ⟨_, _, rfl, rfl, k _ _ ⟨by omega, by omega⟩ S2 (k1.trans k2)⟩⟩
    refine ⟨_, rfl, rfl, _, rfl, ite2 (fun z => ?_) (fun z => ?_)⟩
    · refine ⟨_, rfl, p, c, 2001, rfl, S1, by decide, by decide, fun v2 H2 a0 a1 S2 k2 => ⟨_, _, rfl, rfl, k _ _ ⟨by omega, by omega⟩ S2 (k1.trans k2)⟩⟩
    refine ⟨4, rfl, by decide, by decide, ?_⟩
    refine for_range (lo := 0) (n := 4) (fun i σ' H' => ∃ (n : Int) (x3 : Option V), σ' = [some (.ref p), some (.int v), some (.int n), x3] ∧ Src H' p c ∧ Kp p H H') ⟨0, _, rfl, S1, k1⟩ ?_ ?_
    · rintro i σ' H' hi ⟨n, x3, rfl, S', kp'⟩
      refine ⟨_, rfl, _, _, rfl, rfl, ⟨by decide, by decide, by decide⟩, _, _, rfl, rfl, .inr ⟨by decide, by decide⟩, _, rfl, _, _, rfl, rfl, ⟨by decide, by decide, by decide⟩, p, c, _, rfl, S', by decide, by decide, fun v3 H3 b0 b1 S3 k3 => ?_⟩
      exact ⟨_, _, rfl, rfl, _, _, rfl, S3, kp'.trans k3⟩
    · rintro σ' H' ⟨n, x3, rfl, S', kp'⟩
      refine ⟨_, rfl, Or.inl ⟨_, rfl, _, _, rfl, rfl, ⟨by decide, by decide, by decide⟩, _, _, rfl, rfl, (by show (0 : Int) < 10 ^ 30; decide), ?_⟩⟩
      have e : ((10 : Int) ^ (30 : Int).toNat) = 10 ^ 30 := rfl
      rw [e]
      have h0 : 0 ≤ n % 10 ^ 30 := Int.emod_nonneg _ (by decide)
      have h1 : n % 10 ^ 30 < 10 ^ 30 := Int.emod_lt_of_pos _ (by decide)
      refine ⟨_, rfl, rfl, _, rfl, ite2 (fun z => ?_) (fun z => ?_)⟩
      · exact ⟨_, rfl, k _ _ ⟨by omega, h1⟩ S' kp'⟩
      · exact ⟨_, rfl, _, rfl, k _ _ ⟨by omega, by omega⟩ S' kp'⟩
end
end Cs

set_option Elab.async false
set_option linter.all false
set_option maxRecDepth 100000
set_option maxHeartbeats 4000000
namespace Cs
open PySem L2
section
variable {P : Program} {w : World} {K : PySem.W.Frag} {mg : Str → Option Value} {base : Heap}
theorem ok_pairs {f fD fW fN : Addr} {fd fdD fdW fdN : FuncData} (F : Fun K "_law_pairs" "_law_pairs" s_l_pairs f fd) (g : Bi mg) (FD : Def P w K mg base CX0 2 "_law_draw" ["_law_source_here", "_law_size"] spDraw fD fdD)
    (FW : Def P w K mg base CX0 3 "_law_word" ["_law_source_here"] spWord fW fdW) (FN : Def P w K mg base CX0 3 "_law_number" ["_law_source_here"] spNumber fN fdN) :
    FnOk P w K mg base CX0 4 f fd ["_law_source_here", "_law_most"] spPairs := by
  obtain ⟨GD, mD, _, bD⟩ := id FD
  obtain ⟨GW, mW, _, bW⟩ := id FW
  obtain ⟨GN, mN, _, bN⟩ := id FN
  refine F.ok sc_l_pairs (fun vs H Q E h => ?_) (fun cdv A outer s H vs Q E hr h => ?_)
  · obtain ⟨_, _, _, rfl, _⟩ := h
    rfl
  · obtain ⟨p, cc, m, rfl, hS, m0, m1, k⟩ := h
    have hrD : Room 2 _ := hr.mono (by decide)
    have hrW : Room 3 _ := hr.mono (by decide)
    have hrN : Room 3 _ := hr.mono (by decide)
    refine ⟨_, (pss_cons (ps_set (i := 2) sc_l_pairs.nd rfl (Or.inl rfl) (pe_lst pa_nil))
      (pss_cons (ps_for PassesOwn.never rfl (pi_range1 rfl g.range (pa_cons (pe_call GD hrD rfl mD FD.kp bD .nil pass0 (pa_cons (pv 0) (pa_cons (pe_op op_add (pv 1) pe_int) pa_nil))) pa_nil)) (pg_name (i := 3) sc_l_pairs.nd rfl (Or.inl rfl)) (pss_cons (ps_set (i := 4) sc_l_pairs.nd rfl (Or.inl rfl) (pe_call GW hrW rfl mW FW.kp bW .nil pass0 (pa_cons (pv 0) pa_nil)))
      (C8.pss_cut (ps_if (PW.pt (pw_and (pt_cmpR op_gt (pe_callB call_len (by rfl) g.len PySem.boot_len (pa_cons (pv 2) pa_nil)) pe_int (nomark _)) (pw_and1 (pt_cmpR op_eq (pe_call GD hrD rfl mD FD.kp bD .nil pass0 (pa_cons (pv 0) (pa_cons pe_int pa_nil))) pe_int (nomark _))))) (pss_one (ps_set (i := 4) sc_l_pairs.nd rfl (Or.inl rfl) (pe_ix ix_tup (pe_ix ix_list (pv 2) (pe_call GD hrD rfl mD FD.kp bD .nil pass0 (pa_cons (pv 0) (pa_cons (pe_callB call_len (by rfl) g.len PySem.boot_len (pa_cons (pv 2) pa_nil)) pa_nil))) (fun _ _ => rfl)) pe_int (fun _ _ => rfl)))) pss_nil)
      (pss_one (ps_expr (pe_bm PySem.F.plainAttrs_list PySem.F.slot_list_append PySem.F.type_list_append mt_append (pv 2) (pa_cons (pe_tup (pa_cons (pv 4) (pa_cons (pe_call GN hrN rfl mN FN.kp bN .nil pass0 (pa_cons (pv 0) pa_nil)) pa_nil))) pa_nil)))))))
      (pss_one (ps_ret (pv 2))))), ?_⟩
    refine ⟨Nat.zero_le _, fun q hq => ?_⟩
    have s1 : Same H (upd H q (.lst [])) := Same.new hq
    have nqp : q ≠ p := hS.new_p hq
    have nqc : q ≠ cc := hS.new_c hq
    refine ⟨_, rfl, _, rfl, _, _, rfl, rfl, p, cc, m + 1, rfl, hS.same s1, by omega, by omega, fun v H1 v0 v1 S1 k1 => ⟨_, rfl, by omega, by omega, ?_⟩⟩
    refine for_range (lo := 0) (n := v.toNat) (fun i σ' H' => ∃ (xs : List V) (ps : List (Str × Int)) (x3 x4 : Option V), σ' = [some (.ref p), some (.int m), some (.ref q), x3, x4] ∧ H' q = some (.lst xs) ∧ PrL H' xs ps ∧ GoodPs ps ∧ ps.length = i ∧ Src H' p cc ∧ Kp p H H')
      ⟨[], [], _, _, rfl, k1 q _ upd_same nqp, .nil, (fun _ h => nomatch h), rfl, S1, (Kp.of s1).trans k1⟩ ?_ ?_
    · rintro i σ' H' hi ⟨xs, ps, x3, x4, rfl, hq', hP, hG, hL, S', kp'⟩
      have hxl : xs.length = ps.length := hP.length
      have tn : ∀ {H2 : Hp}, Kp p H' H2 → PrL H2 xs ps := fun {H2} k2 => hP.mono fun t a b e => k2 t _ e (S'.tup_p e)
      refine ⟨_, rfl, p, cc, rfl, S', fun z H2 hz S2 k2 => ?_⟩
      have hq2 := k2 q _ hq' nqp
      refine ⟨fun σ2 H3 => ∃ (z : Str) (x3 : Option V), σ2 = [some (.ref p), some (.int m), some (.ref q), x3, some (.str z)] ∧ Word z ∧ H3 q = some (.lst xs) ∧ PrL H3 xs ps ∧ Src H3 p cc ∧ Kp p H H3, ?_, ?_⟩
      · refine ⟨_, rfl, _, _, rfl, .inl ⟨_, SqL.of hq2, rfl⟩, _, _, rfl, rfl, _, rfl, ite2 (fun c => ?_) (fun c => ?_)⟩
        · have hpos : 0 < xs.length := by simpa using c
          refine ⟨_, rfl, p, cc, 4, rfl, S2, by decide, by decide, fun v3 H3 b0 b1 S3 k3 => ⟨rfl, _, rfl, ite2 (fun c2 => ?_) (fun c2 => ?_)⟩⟩
          · have hq3 := k3 q _ hq2 nqp
            refine ⟨_, rfl, _, rfl, _, rfl, _, _, rfl, .inl ⟨_, SqL.of hq3, rfl⟩, p, cc, _, rfl, S3, by omega, by omega, fun v4 H4 d0 d1 S4 k4 => ?_⟩
            have hq4 := k4 q _ hq3 nqp
            have hj : v4.toNat < ps.length := by omega
            have hP4 := tn ((k2.trans k3).trans k4)
            obtain ⟨t, et, ht⟩ := hP4.at (List.getElem?_eq_getElem hj)
            refine ⟨q, _, v4, _, rfl, rfl, SqL.of hq4, at_of (z := v4) (j := v4.toNat) (by omega) et, t, _, 0, _, rfl, rfl, SqT.of ht, rfl, ?_⟩
            exact ⟨_, _, rfl, (hG _ (List.getElem_mem hj)).1, hq4, hP4, S4, ((kp'.trans k2).trans k3).trans k4⟩
          · exact ⟨z, _, rfl, hz, k3 q _ hq2 nqp, tn (k2.trans k3), S3, (kp'.trans k2).trans k3⟩
        · exact ⟨z, _, rfl, hz, hq2, tn k2, S2, kp'.trans k2⟩
      · rintro σ2 H3 ⟨z, x3, rfl, hz, hq3, hP3, S3, kp3⟩
        refine ⟨_, rfl, .inl ⟨rfl, _, SqL.of hq3⟩, _, rfl, _, rfl, p, cc, rfl, S3, fun n H4 hn S4 k4 => ⟨by show 2 ≤ sizeLine; decide, fun t ht => ?_⟩⟩
        have hq4 := k4 q _ hq3 nqp
        have ntq : t ≠ q := (ne_of_none hq4 ht).symm
        refine ⟨q, _, _, rfl, rfl, (by rw [upd_ne ntq.symm]; exact hq4), (by show xs.length < sizeLine; exact Nat.lt_of_le_of_lt (show xs.length ≤ 1000 by omega) (by decide)), ?_⟩
        have s5 : Same H4 (upd H4 t (.tup [.str z, .int n])) := Same.new ht
        have kq : ∀ c o, (upd H4 t (.tup [.str z, .int n])) c = some o → c ≠ q → (upd (upd H4 t (.tup [.str z, .int n])) q (.lst (xs ++ [.ref t]))) c = some o := fun c o e n => by rw [upd_ne n]; exact e
        have hP5 : PrL (upd (upd H4 t (.tup [.str z, .int n])) q (.lst (xs ++ [.ref t]))) xs ps := hP3.mono fun c a b e => by
          have cq : c ≠ q := by
            rintro rfl
            rw [e] at hq3
            cases hq3
          exact kq c _ (s5 c _ (k4 c _ e (S3.tup_p e))) cq
        refine ⟨xs ++ [.ref t], ps ++ [(z, n)], _, _, rfl, upd_same, hP5.snoc (kq t _ upd_same ntq), ?_, by rw [List.length_append, hL]; rfl, ?_, ?_⟩
        · intro r hr'
          rcases List.mem_append.mp hr' with e | e
          · exact hG r e
          · rw [List.mem_singleton.mp e]
            exact ⟨hz, hn⟩
        · exact S4.keep fun b o hb e => kq b o (s5 b o e) (by
            rcases hb with rfl | rfl
            · exact nqp.symm
            · exact nqc.symm)
        · intro b o e nb
          exact kq b o (s5 b o (k4 b o (kp3 b o e nb) nb)) (ne_of_none e hq)
    · rintro σ' H' ⟨xs, ps, x3, x4, rfl, hq', hP, hG, hL, S', kp'⟩
      exact ⟨_, rfl, k q H' xs ps hq hq' hP hG (by omega) S' kp'⟩
end
end Cs

set_option Elab.async false
set_option linter.all false
set_option maxRecDepth 100000
set_option maxHeartbeats 4000000
/-! Plain laws: texts in order, tables of words and integers, what is told of a table. -/
namespace Cs
open PySem L2 PyProof.Rows
/-! ### the order of texts -/
def SLt (a b : Str) : Prop := a.cps.toList < b.cps.toList
theorem slt_irrefl (a : Str) : ¬ SLt a a := List.lt_irrefl _
theorem slt_trans {a b c : Str} (h : SLt a b) (k : SLt b c) : SLt a c := List.lt_trans h k
theorem str_ext {a b : Str} (h : a.cps.toList = b.cps.toList) : a = b := by
  cases a
  cases b
  congr
  exact Array.toList_inj.mp h
theorem slt_total {a b : Str} (h : ¬ SLt b a) (n : a ≠ b) : SLt a b := by
  have h1 : a.cps.toList ≤ b.cps.toList := List.not_lt.mp h
  apply Classical.byContradiction
  intro q
  exact n (str_ext (List.le_antisymm h1 (List.not_lt.mp q)))
theorem slt_of_le_lt {a b c : Str} (h : ¬ SLt b a) (k : SLt b c) : SLt a c := List.lt_of_le_of_lt (List.not_lt.mp h) k
/-- ascending, none twice -/
def Asc (zs : List Str) : Prop := zs.Pairwise SLt
theorem rising_pw : ∀ (r : List Str) (p : Str), risingS p r = true → (p :: r).Pairwise (fun a b => ¬ SLt b a)
  | [], p, _ => List.pairwise_singleton _ _
  | x :: r, p, h => by
    have h : (!PySem.Spec.ltCps x.cps.toList p.cps.toList && risingS x r) = true := h
    rw [Bool.and_eq_true, ltCps_eq] at h
    have ih := rising_pw r x h.2
    have h1 : ¬ SLt x p := by
      have := h.1
      intro q
      rw [decide_eq_true (show x.cps.toList < p.cps.toList from q)] at this
      cases this
    refine List.pairwise_cons.mpr ⟨fun y hy => ?_, ih⟩
    rcases List.mem_cons.mp hy with e | e
    · rw [e]
      exact h1
    · have h2 := (List.pairwise_cons.mp ih).1 y e
      exact fun q => h1 (slt_of_le_lt h2 q)
theorem sorted_pw : ∀ {zs : List Str}, sortedS zs = true → zs.Pairwise (fun a b => ¬ SLt b a)
  | [], _ => .nil
  | x :: r, h => rising_pw r x h
theorem asc_of_sorted {zs : List Str} (h : sortedS zs = true) (n : zs.Nodup) : Asc zs := by
  have a := sorted_pw h
  have b : zs.Pairwise (fun a b => ¬ SLt b a ∧ a ≠ b) := a.and n
  exact b.imp fun h => slt_total h.1 h.2
theorem Asc.nodup {zs : List Str} (h : Asc zs) : zs.Nodup := h.imp fun {a b} (q : SLt a b) (e : a = b) => slt_irrefl a (by rw [← e] at q; exact q)
/-- ascending lists with the same members are one -/
theorem asc_eq : ∀ {xs ys : List Str}, Asc xs → Asc ys → (∀ z, z ∈ xs ↔ z ∈ ys) → xs = ys
  | [], [], _, _, _ => rfl
  | [], y :: ys, _, _, h => absurd ((h y).mpr List.mem_cons_self) (by simp)
  | x :: xs, [], _, _, h => absurd ((h x).mp List.mem_cons_self) (by simp)
  | x :: xs, y :: ys, a, b, h => by
    obtain ⟨a1, a2⟩ := List.pairwise_cons.mp a
    obtain ⟨b1, b2⟩ := List.pairwise_cons.mp b
    have e : x = y := by
      rcases List.mem_cons.mp ((h x).mp List.mem_cons_self) with e | e
      · exact e
      · rcases List.mem_cons.mp ((h y).mpr List.mem_cons_self) with f | f
        · exact f.symm
        · exact absurd (slt_trans (a1 y f) (b1 x e)) (slt_irrefl x)
    subst e
    rw [asc_eq a2 b2 fun z => ?_]
    constructor
    · intro m
      rcases List.mem_cons.mp ((h z).mp (List.mem_cons_of_mem _ m)) with e | e
      · exact absurd (e ▸ a1 z m) (slt_irrefl _)
      · exact e
    · intro m
      rcases List.mem_cons.mp ((h z).mpr (List.mem_cons_of_mem _ m)) with e | e
      · exact absurd (e ▸ b1 z m) (slt_irrefl _)
      · exact e
/-! ### tables -/
abbrev Tab := List (Str × Int)
def keys (t : Tab) : List Str := t.map (·.1)
def look (t : Tab) (z : Str) : Option Int := (t.find? fun q => decide (q.1 = z)).map (·.2)
def val (t : Tab) (z : Str) : Int := (look t z).getD 0
def put (t : Tab) (z : Str) (n : Int) : Tab := if (t.any fun q => decide (q.1 = z)) = true then t.map (fun q => if q.1 = z then (q.1, n) else q) else t ++ [(z, n)]
def drop (t : Tab) (z : Str) : Tab := t.filter fun q => decide (q.1 ≠ z)
theorem look_none : ∀ {t : Tab} {z : Str}, z ∉ keys t → look t z = none
  | [], _, _ => rfl
  | q :: t, z, h => by
    have h1 : q.1 ≠ z := fun e => h (by rw [← e]; exact List.mem_cons_self)
    have h2 : z ∉ keys t := fun m => h (List.mem_cons_of_mem _ m)
    have ih := look_none h2
    unfold look at ih ⊢
    rw [List.find?_cons, decide_eq_false h1]
    exact ih
theorem look_some : ∀ {t : Tab} {z : Str}, z ∈ keys t → ∃ n, look t z = some n ∧ (z, n) ∈ t
  | [], _, h => by simp [keys] at h
  | q :: t, z, h => by
    by_cases e : q.1 = z
    · refine ⟨q.2, ?_, ?_⟩
      · unfold look
        rw [List.find?_cons, decide_eq_true e]
        rfl
      · rw [← e]
        exact List.mem_cons_self
    · have h2 : z ∈ keys t := (List.mem_cons.mp h).resolve_left fun q => e q.symm
      obtain ⟨n, a, b⟩ := look_some h2
      refine ⟨n, ?_, List.mem_cons_of_mem _ b⟩
      unfold look at a ⊢
      rw [List.find?_cons, decide_eq_false e]
      exact a
theorem look_mem {t : Tab} (nd : (keys t).Nodup) {z : Str} {n : Int} (h : (z, n) ∈ t) : look t z = some n := by
  induction t with
  | nil => cases h
  | cons q t ih =>
    obtain ⟨n1, n2⟩ := List.nodup_cons.mp (show (q.1 :: keys t).Nodup from nd)
    rcases List.mem_cons.mp h with e | e
    · subst e
      unfold look
      rw [List.find?_cons, decide_eq_true rfl]
      rfl
    · have h1 : q.1 ≠ z := fun f => n1 (f ▸ List.mem_map.mpr ⟨_, e, rfl⟩)
      have := ih n2 e
      unfold look at this ⊢
      rw [List.find?_cons, decide_eq_false h1]
      exact this
theorem any_keys (t : Tab) (z : Str) : (t.any fun q => decide (q.1 = z)) = decide (z ∈ keys t) := by
  rw [Bool.eq_iff_iff, List.any_eq_true, decide_eq_true_eq]
  constructor
  · rintro ⟨q, m, e⟩
    exact List.mem_map.mpr ⟨q, m, of_decide_eq_true e⟩
  · intro m
    obtain ⟨q, m, e⟩ := List.mem_map.mp m
    exact ⟨q, m, decide_eq_true e⟩
theorem keys_put (t : Tab) (z : Str) (n : Int) : keys (put t z n) = if z ∈ keys t then keys t else keys t ++ [z] := by
  unfold put
  rw [any_keys]
  by_cases h : z ∈ keys t
  · rw [if_pos (decide_eq_true h), if_pos h]
    unfold keys
    rw [List.map_map]
    apply List.map_congr_left
    intro q _
    simp only [Function.comp]
    split <;> rfl
  · rw [if_neg (by simpa using h), if_neg h]
    unfold keys
    rw [List.map_append]
    rfl
theorem mem_keys_put {t : Tab} {z y : Str} {n : Int} : y ∈ keys (put t z n) ↔ y ∈ keys t ∨ y = z := by
  rw [keys_put]
  split
  · rename_i h
    exact ⟨.inl, fun q => q.elim id fun e => e ▸ h⟩
  · rw [List.mem_append, List.mem_singleton]
theorem nd_put {t : Tab} {z : Str} {n : Int} (h : (keys t).Nodup) : (keys (put t z n)).Nodup := by
  rw [keys_put]
  split
  · exact h
  · rename_i m
    exact nd_snoc h m
theorem mem_put {t : Tab} {z y : Str} {n m : Int} (h : (y, m) ∈ put t z n) : (y = z ∧ m = n) ∨ (y ≠ z ∧ (y, m) ∈ t) := by
  unfold put at h
  rw [any_keys] at h
  by_cases k : z ∈ keys t
  · rw [if_pos (decide_eq_true k)] at h
    obtain ⟨q, hq, e⟩ := List.mem_map.mp h
    by_cases c : q.1 = z
    · rw [if_pos c] at e
      left
      exact ⟨by rw [← c]; exact (congrArg Prod.fst e).symm, (congrArg Prod.snd e).symm⟩
    · rw [if_neg c] at e
      right
      subst e
      exact ⟨c, hq⟩
  · rw [if_neg (by simpa using k)] at h
    rcases List.mem_append.mp h with a | a
    · right
      exact ⟨fun e => k (e ▸ List.mem_map.mpr ⟨_, a, rfl⟩), a⟩
    · left
      have := List.mem_singleton.mp a
      exact ⟨congrArg Prod.fst this, congrArg Prod.snd this⟩
theorem look_put {t : Tab} {z y : Str} {n : Int} (h : (keys t).Nodup) : look (put t z n) y = if y = z then some n else look t y := by
  by_cases k : y ∈ keys (put t z n)
  · obtain ⟨m, a, b⟩ := look_some k
    rw [a]
    rcases mem_put b with ⟨e, f⟩ | ⟨e, f⟩
    · rw [if_pos e, f]
    · rw [if_neg e, look_mem h f]
  · rw [look_none k]
    have k2 : ¬ (y ∈ keys t ∨ y = z) := fun q => k (mem_keys_put.mpr q)
    rw [if_neg fun e => k2 (.inr e), look_none fun e => k2 (.inl e)]
theorem val_put {t : Tab} {z y : Str} {n : Int} (h : (keys t).Nodup) : val (put t z n) y = if y = z then n else val t y := by
  unfold val
  rw [look_put h]
  split <;> rfl
theorem keys_drop (t : Tab) (z : Str) : keys (drop t z) = (keys t).filter fun y => decide (y ≠ z) := by
  unfold keys drop
  rw [List.filter_map]
  rfl
theorem nd_drop {t : Tab} {z : Str} (h : (keys t).Nodup) : (keys (drop t z)).Nodup := by
  rw [keys_drop]
  exact h.filter _
theorem look_drop {t : Tab} {z y : Str} (h : (keys t).Nodup) : look (drop t z) y = if y = z then none else look t y := by
  by_cases k : y ∈ keys (drop t z)
  · obtain ⟨m, a, b⟩ := look_some k
    have c := List.mem_filter.mp b
    have d : y ≠ z := of_decide_eq_true c.2
    rw [a, if_neg d, look_mem h c.1]
  · rw [look_none k]
    by_cases e : y = z
    · rw [if_pos e]
    · rw [if_neg e, look_none]
      intro m
      apply k
      rw [keys_drop]
      exact List.mem_filter.mpr ⟨m, decide_eq_true e⟩
theorem val_drop {t : Tab} {z y : Str} (h : (keys t).Nodup) : val (drop t z) y = if y = z then 0 else val t y := by
  unfold val
  rw [look_drop h]
  split <;> rfl
theorem len_put (t : Tab) (z : Str) (n : Int) : (put t z n).length ≤ t.length + 1 := by
  unfold put
  split
  · rw [List.length_map]
    omega
  · rw [List.length_append]
    exact Nat.le_refl _
/-! ### what is told of a table: the words ascending whose integer is not 0 -/
/-- ws holds the table's words, ascending -/
def toldBy (t : Tab) (ws : List Str) : Tab := (ws.filter fun z => decide (val t z ≠ 0)).map fun z => (z, val t z)
/-- l is what is told of a table with these values -/
structure Told (f : Str → Int) (l : Tab) : Prop where
  asc : Asc (keys l)
  mem : ∀ z n, (z, n) ∈ l ↔ n = f z ∧ n ≠ 0
theorem Told.keys_iff {f : Str → Int} {l : Tab} (h : Told f l) (z : Str) : z ∈ keys l ↔ f z ≠ 0 := by
  constructor
  · intro m
    obtain ⟨⟨y, n⟩, hm, e⟩ := List.mem_map.mp m
    have e : y = z := e
    subst e
    obtain ⟨a, b⟩ := (h.mem _ _).mp hm
    rw [← a]
    exact b
  · intro q
    exact List.mem_map.mpr ⟨(z, f z), (h.mem _ _).mpr ⟨rfl, q⟩, rfl⟩
theorem Told.form {f : Str → Int} {l : Tab} (h : Told f l) : l = (keys l).map fun z => (z, f z) := by
  unfold keys
  rw [List.map_map]
  conv => lhs; rw [← List.map_id l]
  apply List.map_congr_left
  intro q m
  have := ((h.mem q.1 q.2).mp m).1
  show q = (q.1, f q.1)
  rw [← this]
theorem told_eq {f g : Str → Int} {l m : Tab} (a : Told f l) (b : Told g m) (h : ∀ z, f z = g z) : l = m := by
  have e : f = g := funext h
  subst e
  have k : keys l = keys m := asc_eq a.asc b.asc fun z => by rw [a.keys_iff, b.keys_iff]
  rw [a.form, b.form, k]
theorem told_of {t : Tab} {ws : List Str} (nd : (keys t).Nodup) (ha : Asc ws) (hm : ∀ z, z ∈ ws ↔ z ∈ keys t) : Told (val t) (toldBy t ws) := by
  have ek : keys (toldBy t ws) = ws.filter fun z => decide (val t z ≠ 0) := by
    unfold keys toldBy
    rw [List.map_map]
    exact List.map_id _
  refine ⟨?_, fun z n => ?_⟩
  · rw [ek]
    exact List.Pairwise.filter _ ha
  · unfold toldBy
    rw [List.mem_map]
    constructor
    · rintro ⟨y, m, e⟩
      have e1 : y = z := congrArg Prod.fst e
      have e2 : val t y = n := congrArg Prod.snd e
      subst e1
      subst e2
      exact ⟨rfl, of_decide_eq_true (List.mem_filter.mp m).2⟩
    · rintro ⟨rfl, q⟩
      refine ⟨z, List.mem_filter.mpr ⟨?_, decide_eq_true q⟩, rfl⟩
      rw [hm]
      apply Classical.byContradiction
      intro k
      exact q (by unfold val; rw [look_none k]; rfl)
/-! ### a table as a dict's pairs -/
def tv (t : Tab) : List (Key × V) := t.map fun q => (Sum.inr q.1, V.int q.2)
theorem tv_len (t : Tab) : (tv t).length = t.length := List.length_map _
theorem tv_val (t : Tab) (z : Str) : valV (tv t) (Sum.inr z) = (look t z).map V.int := by
  unfold valV tv look
  induction t with
  | nil => rfl
  | cons q t ih =>
    rw [List.map_cons, List.find?_cons, List.find?_cons]
    by_cases e : q.1 = z
    · rw [decide_eq_true e, decide_eq_true (show (Sum.inr q.1 : Key) = Sum.inr z by rw [e])]
      rfl
    · rw [decide_eq_false e, decide_eq_false (show ¬ (Sum.inr q.1 : Key) = Sum.inr z from fun f => e (Sum.inr.inj f))]
      exact ih
theorem tv_any (t : Tab) (z : Str) : ((tv t).any fun kv => decide (kv.1 = Sum.inr z)) = t.any fun q => decide (q.1 = z) := by
  unfold tv
  rw [List.any_map]
  congr 1
  funext q
  exact key_rr q.1 z
theorem tv_put (t : Tab) (z : Str) (n : Int) : putK (tv t) (Sum.inr z) (V.int n) = tv (put t z n) := by
  unfold putK put
  rw [tv_any]
  split
  · unfold tv
    rw [List.map_map, List.map_map]
    apply List.map_congr_left
    intro q _
    simp only [Function.comp]
    by_cases e : q.1 = z
    · rw [if_pos e, if_pos (show (Sum.inr q.1 : Key) = Sum.inr z by rw [e])]
    · rw [if_neg e, if_neg (show ¬ (Sum.inr q.1 : Key) = Sum.inr z from fun f => e (Sum.inr.inj f))]
  · unfold tv
    rw [List.map_append]
    rfl
theorem tv_drop (t : Tab) (z : Str) : dropK (tv t) (Sum.inr z) = tv (drop t z) := by
  unfold dropK drop tv
  rw [List.filter_map]
  congr 1
  apply List.filter_congr
  intro q _
  simp only [Function.comp]
  by_cases e : q.1 = z
  · simp [e]
  · have : ¬ (Sum.inr q.1 : Key) = Sum.inr z := fun f => e (Sum.inr.inj f)
    simp [e, this]
/-- pairs added up word by word -/
def addUp (ps : List (Str × Int)) : Tab := ps.foldl (fun t q => put t q.1 (val t q.1 + q.2)) []
/-- the integers of a word in pairs -/
def sumOf (ps : List (Str × Int)) (z : Str) : Int := ((ps.filter fun q => decide (q.1 = z)).map (·.2)).sum
theorem addUp_snoc (ps : List (Str × Int)) (q : Str × Int) : addUp (ps ++ [q]) = put (addUp ps) q.1 (val (addUp ps) q.1 + q.2) := by
  unfold addUp
  rw [List.foldl_append]
  rfl
theorem snoc_rec {α : Type} {C : List α → Prop} (h0 : C []) (h1 : ∀ l a, C l → C (l ++ [a])) : ∀ l, C l := by
  intro l
  have : ∀ n (l : List α), l.length = n → C l := by
    intro n
    induction n with
    | zero => intro l hl; rw [List.length_eq_zero_iff.mp hl]; exact h0
    | succ n ih =>
      intro l hl
      have hne : l ≠ [] := by intro e; rw [e] at hl; cases hl
      rw [← List.dropLast_concat_getLast hne]
      exact h1 _ _ (ih _ (by rw [List.length_dropLast, hl]; rfl))
  exact this _ l rfl
theorem addUp_nd : ∀ ps, (keys (addUp ps)).Nodup := snoc_rec List.nodup_nil fun l a h => by
  rw [addUp_snoc]
  exact nd_put h
theorem addUp_val (z : Str) : ∀ ps, val (addUp ps) z = sumOf ps z := snoc_rec rfl fun l a h => by
  rw [addUp_snoc, val_put (addUp_nd l)]
  unfold sumOf at h ⊢
  rw [List.filter_append, List.map_append, List.sum_append]
  by_cases e : a.1 = z
  · rw [if_pos e.symm]
    subst e
    rw [h]
    simp
  · rw [if_neg fun q => e q.symm, h]
    simp [e]
theorem addUp_len : ∀ ps, (addUp ps).length ≤ ps.length := snoc_rec (Nat.le_refl _) fun l a h => by
  rw [addUp_snoc, List.length_append]
  exact Nat.le_trans (len_put _ _ _) (Nat.succ_le_succ h)
/-- without zeros -/
def noZero (t : Tab) : Tab := t.filter fun q => decide (q.2 ≠ 0)
theorem noZero_nd {t : Tab} (h : (keys t).Nodup) : (keys (noZero t)).Nodup := by
  unfold keys noZero
  exact List.Nodup.sublist ((List.filter_sublist).map _) h
theorem noZero_mem {t : Tab} {q : Str × Int} : q ∈ noZero t ↔ q ∈ t ∧ q.2 ≠ 0 := by
  unfold noZero
  rw [List.mem_filter, decide_eq_true_eq]
theorem noZero_val {t : Tab} (h : (keys t).Nodup) (z : Str) : val (noZero t) z = val t z := by
  unfold val
  by_cases k : z ∈ keys (noZero t)
  · obtain ⟨n, a, b⟩ := look_some k
    rw [a, look_mem h (noZero_mem.mp b).1]
  · rw [look_none k]
    by_cases m : z ∈ keys t
    · obtain ⟨n, a, b⟩ := look_some m
      rw [a]
      by_cases e : n = 0
      · rw [e]
        rfl
      · exact absurd (List.mem_map.mpr ⟨(z, n), noZero_mem.mpr ⟨b, e⟩, rfl⟩) k
    · rw [look_none m]
/-- a table as Counts hold it -/
structure Held (t : Tab) : Prop where
  nd : (keys t).Nodup
  nz : ∀ q ∈ t, q.2 ≠ 0
theorem Held.of {t : Tab} (h : (keys t).Nodup) : Held (noZero t) := ⟨noZero_nd h, fun q m => (noZero_mem.mp m).2⟩
theorem Held.keys_iff {t : Tab} (h : Held t) (z : Str) : z ∈ keys t ↔ val t z ≠ 0 := by
  unfold val
  constructor
  · intro m
    obtain ⟨n, a, b⟩ := look_some m
    rw [a]
    exact h.nz _ b
  · intro q
    apply Classical.byContradiction
    intro m
    rw [look_none m] at q
    exact q rfl
/-- the pairs of held counts, by their words ascending -/
theorem Held.told {t : Tab} (h : Held t) {ws : List Str} (ha : Asc ws) (hm : ∀ z, z ∈ ws ↔ z ∈ keys t) : Told (val t) (ws.map fun z => (z, val t z)) := by
  have := told_of h.nd ha hm
  unfold toldBy at this
  rw [List.filter_eq_self.mpr] at this
  · exact this
  · intro z m
    exact decide_eq_true ((h.keys_iff z).mp ((hm z).mp m))
end Cs

set_option Elab.async false
set_option linter.all false
set_option maxRecDepth 100000
set_option maxHeartbeats 4000000
/-! The program's words: is_integer, is_word, is_small, is_pair, distinct. -/
namespace Cs
open PySem L2
/-- a value of a built-in type that is no int -/
def NotInt (K : PySem.W.Frag) (H : Hp) (x : V) : Prop := ∃ ty : String, TyX K H x (.type ty) ∧ (ty = "bool" ∨ kitB ty "int" = some false)
def spIsInteger (K : PySem.W.Frag) : Sp := fun vs H Q _ => (∃ n : Int, vs = [.int n] ∧ Q (.bl true) H) ∨ (∃ x, vs = [x] ∧ NotInt K H x ∧ Q (.bl false) H)
def spIsSmall (K : PySem.W.Frag) : Sp := fun vs H Q _ => (∃ n : Int, vs = [.int n] ∧ Q (.bl (decide (-(10 ^ 30) < n) && decide (n < 10 ^ 30))) H) ∨ (∃ x, vs = [x] ∧ NotInt K H x ∧ Q (.bl false) H)
def spIsWord (K : PySem.W.Frag) : Sp := fun vs H Q _ => (∃ z : Str, vs = [.str z] ∧ z.length ≤ 100000 ∧ ∀ H', Same H H' → Q (.bl (wordB z)) H') ∨ (∃ x ty, vs = [x] ∧ TyX K H x (.type ty) ∧ kitB ty "str" = some false ∧ Q (.bl false) H)
/-- of a good pair -/
def spIsPair (K : PySem.W.Frag) : Sp := fun vs H Q _ => ∃ (t : Addr) (z : Str) (n : Int), vs = [.ref t] ∧ H t = some (.tup [.str z, .int n]) ∧ Word z ∧ Small n ∧ ∀ H', Same H H' → Q (.bl true) H'
def spDistinct (K : PySem.W.Frag) : Sp := fun vs H Q _ => ∃ (a : Addr) (zs : List Str), vs = [.ref a] ∧ SqL K H a (zs.map V.str) ∧ zs.length ≤ 1000 ∧
  ∀ (p : Addr) (H' : Hp) (ws : List Str), H p = none → Same H H' → H' p = some (.lst (ws.map V.str)) → Asc ws → (∀ z, z ∈ ws ↔ z ∈ zs) → ws.length ≤ zs.length → Q (.ref p) H'
theorem wordB_of {z : Str} (h : Word z) : wordB z = true := by
  unfold wordB
  simp only [Bool.and_eq_true, decide_eq_true_eq, List.all_eq_true]
  exact ⟨⟨h.1, h.2.1⟩, h.2.2⟩
theorem kit_int {K : PySem.W.Frag} {H : Hp} {x : V} (h : NotInt K H x) : ∃ ty, TyX K H x (.type ty) ∧ (ty = "bool" ∨ kitB ty "int" = some false) := h
theorem yes_it {σ : L2.St} {H : Hp} {A B : Hp → Prop} (h : A H) : tYes σ H (fun b H3 => if b = true then A H3 else B H3) := iteT (A := A H) (B := B H) h
/-- a set comprehension of texts over a walk -/
theorem scT_it {J : It} {n : Nat} {G : Hp → Prop} {Y : Nat → Hp → V → Hp → Prop} (wk : Walk J n G Y) {w : World} {g : TG} {tt : TT} {te : TE} {vs : List Nat} {σ : L2.St} {H1 : Hp} {D : Addr} {Qd : Hp → Prop} (Pv : Nat → Hp → Prop)
    (h0 : Pv 0 (upd H1 D (TSetO w D []))) (hG : ∀ i H, i ≤ n → Pv i H → G H)
    (hs : ∀ i x H H', i < n → Pv i H → Y i H x H' → g x (wipe σ vs) H' fun σ2 H2 => wipe σ2 vs = wipe σ vs ∧ tt σ2 H2 fun b H3 =>
      if b = true then te σ2 H3 fun y H4 => ∃ (z : Str) (zs : List Str), y = .str z ∧ H4 D = some (TSetO w D zs) ∧ zs.length + 1 < scanBound ∧ Pv (i + 1) (upd H4 D (TSetO w D (addT zs z))) else Pv (i + 1) H3)
    (hd : ∀ H, Pv n H → Qd H) :
    ∃ W : Nat → Nat → Hp → Prop, (∃ m, W 0 m (upd H1 D (TSetO w D []))) ∧ ∀ i m H, W i m H →
      (J.stop i H ∧ Qd H) ∨ (J.go i H ∧ ∃ Nx : Hp → Prop, (∀ H', Nx H' → ∃ m', m' < m ∧ W (i + 1) m' H') ∧ ∀ x H', J.yld i H x H' → g x (wipe σ vs) H' fun σ2 H2 => wipe σ2 vs = wipe σ vs ∧ tt σ2 H2 fun b H3 =>
        if b = true then te σ2 H3 fun y H4 => ∃ (z : Str) (zs : List Str), y = .str z ∧ H4 D = some (TSetO w D zs) ∧ zs.length + 1 < scanBound ∧ Nx (upd H4 D (TSetO w D (addT zs z))) else Nx H3) := by
  refine ⟨fun i m H => m = n - i ∧ i ≤ n ∧ Pv i H, ⟨n, by simp, Nat.zero_le _, h0⟩, ?_⟩
  rintro i m H ⟨rfl, hi, p⟩
  by_cases lt : i < n
  · exact .inr ⟨wk.goes i H lt (hG i H hi p), Pv (i + 1), fun H' r => ⟨n - (i + 1), by omega, rfl, lt, r⟩, fun x H' y => hs i x H H' lt p (wk.yields i H x H' lt (hG i H hi p) y)⟩
  · obtain rfl : i = n := by omega
    exact .inl ⟨wk.stops H (hG i H hi p), hd H p⟩
section
variable {P : Program} {w : World} {K : PySem.W.Frag} {mg : Str → Option Value} {base : Heap}
theorem ok_is_integer {f : Addr} {fd : FuncData} (F : Fun K "is_integer" "is_integer" s_is_integer f fd) (g : Bi mg) : FnOk P w K mg base CX0 1 f fd ["thing"] (spIsInteger K) := by
  refine F.ok sc_is_integer (fun vs H Q E h => ?_) (fun cdv A outer s H vs Q E hr h => ?_)
  · rcases h with ⟨_, rfl, _⟩ | ⟨_, rfl, _⟩ <;> rfl
  · refine ⟨_, (pss_one (ps_ret (pe_and (pe_callB call_isi (by rfl) g.isinstance (by decide +kernel) (pa_cons (pv 0) (pa_cons (pe_bltn (v := .ty "int") (by rfl) g.int (by decide +kernel) rfl) pa_nil))) (pe_one (pe_not (pe_callB call_isi (by rfl) g.isinstance (by decide +kernel) (pa_cons (pv 0) (pa_cons (pe_bltn (v := .ty "bool") (by rfl) g.bool (by decide +kernel) rfl) pa_nil)))))))), ?_⟩
    rcases h with ⟨n, rfl, q⟩ | ⟨x, rfl, ⟨ty, ht, hc⟩, q⟩
    · refine ⟨_, rfl, _, _, _, _, true, rfl, .ty "int", .base (.int n), kit_ty (by decide +kernel), _, rfl, iteT ?_⟩
      exact ⟨_, rfl, _, _, _, _, false, rfl, .ty "bool", .base (.int n), kit_ty (by decide +kernel), _, rfl, q⟩
    · rcases hc with e | e
      · subst e
        refine ⟨_, rfl, _, _, _, _, true, rfl, .ty "int", ht, kit_ty (by decide +kernel), _, rfl, iteT ?_⟩
        exact ⟨_, rfl, _, _, _, _, true, rfl, .ty "bool", ht, kit_ty (by decide +kernel), _, rfl, q⟩
      · exact ⟨_, rfl, _, _, _, _, false, rfl, .ty "int", ht, kit_ty e, _, rfl, iteF q⟩
theorem ok_is_small {f fIi : Addr} {fd fdIi : FuncData} (F : Fun K "is_small" "is_small" s_is_small f fd) (g : Bi mg) (FIi : Def P w K mg base CX0 1 "is_integer" ["thing"] (spIsInteger K) fIi fdIi) : FnOk P w K mg base CX0 2 f fd ["thing"] (spIsSmall K) := by
  obtain ⟨GIi, mIi, _, bIi⟩ := id FIi
  refine F.ok sc_is_small (fun vs H Q E h => ?_) (fun cdv A outer s H vs Q E hr h => ?_)
  · rcases h with ⟨_, rfl, _⟩ | ⟨_, rfl, _⟩ <;> rfl
  · have hrIi : Room 1 _ := hr.mono (by decide)
    refine ⟨_, (pss_one (ps_ret (pe_and (pe_call GIi hrIi rfl mIi FIi.kp bIi .nil pass0 (pa_cons (pv 0) pa_nil)) (pe_one (pe_chain op_lt op_lt (pe_un un_neg (pe_op op_pow pe_int pe_int)) (pv 0) (pe_op op_pow pe_int pe_int)))))), ?_⟩
    rcases h with ⟨n, rfl, q⟩ | ⟨x, rfl, hx, q⟩
    · refine ⟨_, rfl, .inl ⟨n, rfl, _, rfl, iteT ?_⟩⟩
      refine ⟨_, _, rfl, rfl, ⟨by decide, by decide, by decide⟩, _, rfl, _, rfl, _, _, rfl, rfl, _, rfl, ?_⟩
      have e : ((10 : Int) ^ (30 : Int).toNat) = 10 ^ 30 := rfl
      by_cases c : -(10 ^ 30 : Int) < n
      · rw [decide_eq_true (show -((10 : Int) ^ (30 : Int).toNat) < n from c)]
        rw [decide_eq_true c] at q
        exact iteT ⟨_, _, rfl, rfl, ⟨by decide, by decide, by decide⟩, _, _, rfl, rfl, q⟩
      · rw [decide_eq_false (show ¬ -((10 : Int) ^ (30 : Int).toNat) < n from c)]
        rw [decide_eq_false c] at q
        exact iteF q
    · exact ⟨_, rfl, .inr ⟨x, rfl, hx, _, rfl, iteF q⟩⟩
theorem ok_is_word {f : Addr} {fd : FuncData} {tk : Tok} (F : Fun K "is_word" "is_word" s_is_word f fd) (g : Bi mg) (mLET : mg "LETTERS" = some (.str LET tk)) : FnOk P w K mg base CX0 1 f fd ["thing"] (spIsWord K) := by
  refine F.ok sc_is_word (fun vs H Q E h => ?_) (fun cdv A outer s H vs Q E hr h => ?_)
  · rcases h with ⟨_, rfl, _⟩ | ⟨_, _, rfl, _⟩ <;> rfl
  · refine ⟨_, (pss_cons (ps_if (PW.pt (pw_or (pt_not (pt_val (pe_callB call_isi (by rfl) g.isinstance (by decide +kernel) (pa_cons (pv 0) (pa_cons (pe_bltn (v := .ty "str") (by rfl) g.str (by decide +kernel) rfl) pa_nil))))) (pw_or1 (pt_not (pt_chain op_le op_le pe_int (pe_callB call_len (by rfl) g.len PySem.boot_len (pa_cons (pv 0) pa_nil)) pe_int))))) (pss_one (ps_ret pe_bl)) pss_nil)
      (pss_one (ps_ret (pe_callB (cr_all rfl) (by rfl) g.all (by decide +kernel) (pa_cons (pe_lc (own := [("sign", 1)]) (by rfl) sc_is_word.nd (pi_str (pv 0)) (blkOk_by (own := [("sign", 1)]) (N := ["thing", "sign"]) (sc := defScope s_is_word) (by decide +kernel)) (fun _ _ _ _ _ => (pg_name (i := 1) sc_is_word.nd rfl (Or.inl rfl))) (fun _ _ _ _ _ => pts_nil) (fun _ _ _ _ _ => (pe_cmpR op_in_sign (pv 1) (pe_glob (v := .str LET) rfl mLET ⟨_, rfl⟩) (by rfl)))) pa_nil))))), ?_⟩
    rcases h with ⟨z, rfl, hz, q⟩ | ⟨x, ty, rfl, ht, hc, q⟩
    · refine ⟨_, rfl, _, _, _, _, true, rfl, .ty "str", .base (.str z), kit_ty (by decide +kernel), _, rfl, iteF ?_⟩
      have hl : z.length ≤ sizeLine := Nat.le_trans hz (by decide)
      refine ⟨_, rfl, _, _, rfl, ⟨hl, rfl⟩, _, _, rfl, rfl, _, rfl, ?_⟩
      have go : 1 ≤ z.length → z.length ≤ 8 → Q (.bl (wordB z)) H := fun _ _ => q H (Same.refl H)
      by_cases c : (1 : Int) ≤ (z.length : Int)
      · rw [decide_eq_true c]
        refine iteT ⟨_, _, rfl, rfl, _, rfl, ?_⟩
        by_cases d : ((z.length : Nat) : Int) ≤ 8
        · rw [decide_eq_true d]
          refine iteF ?_
          refine ⟨_, rfl, z, rfl, fun D hD => ?_⟩
          refine lc_it walk_str (fun i H' => Same H H' ∧ H' D = some (.lst ((z.cps.toList.take i).map fun c => .bl (decide (c ∈ LET.cps.toList))))) ⟨Same.new hD, upd_same⟩ (fun _ _ _ _ => True.intro) ?_ ?_
          · rintro i x H' H2 hi ⟨s', hD'⟩ ⟨rfl, c, hc, rfl⟩
            have hc' : z.cps.toList[i]? = some c := by rw [Array.getElem?_toList]; exact hc
            refine ⟨rfl, yes_it ?_⟩
            refine ⟨_, rfl, c, LET, rfl, rfl, _, hD', ?_, ?_, ?_⟩
            · rw [List.length_map, List.length_take]
              exact Nat.lt_of_le_of_lt (Nat.min_le_left _ _) (Nat.lt_of_lt_of_le hi hl)
            · exact fun b o e => by rw [upd_ne (ne_of_none e hD)]; exact s' b o e
            · rw [upd_same, List.take_succ, hc', List.map_append]
              rfl
          · rintro H' ⟨s', hD'⟩
            refine ⟨D, (z.cps.toList.map fun c => decide (c ∈ LET.cps.toList)), rfl, SqL.of ?_, ?_⟩
            · rw [hD', List.map_map, List.take_of_length_le (by rw [Array.length_toList]; exact Nat.le_refl _)]
              rfl
            · have e : (z.cps.toList.map fun c => decide (c ∈ LET.cps.toList)).all id = wordB z := by
                unfold wordB
                rw [List.all_map, decide_eq_true (show 1 ≤ z.length by omega), decide_eq_true (show z.length ≤ 8 by omega)]
                rfl
              rw [e]
              exact q H' s'
        · rw [decide_eq_false d]
          refine iteT ?_
          have e : wordB z = false := by
            unfold wordB
            rw [decide_eq_false (show ¬ z.length ≤ 8 by omega)]
            simp
          have := q H (Same.refl H)
          rw [e] at this
          exact this
      · rw [decide_eq_false c]
        refine iteF ⟨_, rfl, iteT ?_⟩
        have e : wordB z = false := by
          unfold wordB
          rw [decide_eq_false (show ¬ 1 ≤ z.length by omega)]
          simp
        have := q H (Same.refl H)
        rw [e] at this
        exact this
    · exact ⟨_, rfl, _, _, _, _, false, rfl, .ty "str", ht, kit_ty hc, _, rfl, iteT q⟩
theorem ok_is_pair {f fIw fIs : Addr} {fd fdIw fdIs : FuncData} (F : Fun K "is_pair" "is_pair" s_is_pair f fd) (g : Bi mg) (FIw : Def P w K mg base CX0 1 "is_word" ["thing"] (spIsWord K) fIw fdIw) (FIs : Def P w K mg base CX0 2 "is_small" ["thing"] (spIsSmall K) fIs fdIs) :
    FnOk P w K mg base CX0 3 f fd ["thing"] (spIsPair K) := by
  obtain ⟨GIw, mIw, _, bIw⟩ := id FIw
  obtain ⟨GIs, mIs, _, bIs⟩ := id FIs
  refine F.ok sc_is_pair (fun vs H Q E h => ?_) (fun cdv A outer s H vs Q E hr h => ?_)
  · obtain ⟨_, _, _, rfl, _⟩ := h
    rfl
  · obtain ⟨t, z, n, rfl, ht, hz, hn, q⟩ := h
    have hrIw : Room 1 _ := hr.mono (by decide)
    have hrIs : Room 2 _ := hr.mono (by decide)
    refine ⟨_, (pss_one (ps_ret (pe_and (pe_callB call_isi (by rfl) g.isinstance (by decide +kernel) (pa_cons (pv 0) (pa_cons (pe_bltn (v := .ty "tuple") (by rfl) g.tuple (by decide +kernel) rfl) pa_nil))) (pe_and (pe_cmpR op_eq (pe_callB call_len (by rfl) g.len PySem.boot_len (pa_cons (pv 0) pa_nil)) pe_int (nomark _)) (pe_and (pe_call GIw hrIw rfl mIw FIw.kp bIw .nil pass0 (pa_cons (pe_ix ix_tup (pv 0) pe_int (fun _ _ => rfl)) pa_nil)) (pe_one (pe_call GIs hrIs rfl mIs FIs.kp bIs .nil pass0 (pa_cons (pe_ix ix_tup (pv 0) pe_int (fun _ _ => rfl)) pa_nil)))))))), ?_⟩
    refine ⟨_, rfl, _, _, _, _, true, rfl, .ty "tuple", .base (.tup ht), kit_ty (by decide +kernel), _, rfl, iteT ?_⟩
    refine ⟨_, rfl, _, _, rfl, .inr ⟨_, SqT.of ht, rfl⟩, rfl, _, rfl, iteT ?_⟩
    refine ⟨_, rfl, t, _, 0, _, rfl, rfl, SqT.of ht, rfl, .inl ⟨z, rfl, Nat.le_trans hz.2.1 (by decide), fun H' s' => ?_⟩⟩
    rw [wordB_of hz]
    refine ⟨_, rfl, iteT ?_⟩
    refine ⟨_, rfl, t, _, 1, _, rfl, rfl, SqT.of (s' _ _ ht), rfl, .inl ⟨n, rfl, ?_⟩⟩
    rw [decide_eq_true hn.1, decide_eq_true hn.2]
    exact q H' s'
theorem ok_distinct {f : Addr} {fd : FuncData} (F : Fun K "distinct" "distinct" s_distinct f fd) (g : Bi mg) : FnOk P w K mg base CX0 1 f fd ["words"] (spDistinct K) := by
  refine F.ok sc_distinct (fun vs H Q E h => ?_) (fun cdv A outer s H vs Q E hr h => ?_)
  · obtain ⟨_, _, rfl, _⟩ := h
    rfl
  · obtain ⟨a, zs, rfl, ha, hl, q⟩ := h
    refine ⟨_, (pss_one (ps_ret (pe_callB (cr_sortT rfl) (by rfl) g.sorted (by decide +kernel) (pa_cons (pe_scT (own := [("word", 1)]) (by rfl) sc_distinct.nd (pi_list (pv 0)) (blkOk_by (own := [("word", 1)]) (N := ["words", "word"]) (sc := defScope s_distinct) (by decide +kernel)) (fun _ _ _ _ _ => (pg_name (i := 1) sc_distinct.nd rfl (Or.inl rfl))) (fun _ _ _ _ _ => pts_nil) (fun _ _ _ _ _ => (pe_callTy SkE.call_str_str (by rfl) g.str (by decide +kernel) (pa_cons (pv 1) pa_nil)))) pa_nil)))), ?_⟩
    refine ⟨_, rfl, a, rfl, ⟨_, ha⟩, fun D hD => ?_⟩
    refine scT_it walk_list (fun i H' => Same H H' ∧ H' D = some (TSetO w D (once (zs.take i)))) ⟨Same.new hD, upd_same⟩ (fun i H' _ h => h.1.seq ha) ?_ ?_
    · rintro i x H' H2 hi ⟨s', hD'⟩ ⟨rfl, hx⟩
      rw [List.length_map] at hi
      have ex : x = V.str zs[i] := by
        rw [List.getElem?_map, List.getElem?_eq_getElem hi] at hx
        exact (Option.some.inj hx).symm
      subst ex
      refine ⟨rfl, yes_it ?_⟩
      refine ⟨_, rfl, _, rfl, zs[i], _, rfl, hD', ?_, ?_, ?_⟩
      · have h1 := once_len (zs.take i)
        rw [List.length_take] at h1
        exact Nat.lt_of_le_of_lt (show (once (zs.take i)).length + 1 ≤ 1001 by omega) (by decide)
      · exact fun b o e => by rw [upd_ne (ne_of_none e hD)]; exact s' b o e
      · rw [upd_same, List.take_succ, List.getElem?_eq_getElem hi]
        show some (TSetO w D (addT (once (zs.take i)) zs[i])) = some (TSetO w D (once (zs.take i ++ [zs[i]])))
        rw [once_snoc]
    · rintro H' ⟨s', hD'⟩
      rw [List.length_map, List.take_length] at hD'
      have h1 := once_len zs
      refine ⟨D, _, rfl, hD', by omega, fun ys p hp hs hn => ?_⟩
      refine q p _ ys (s'.free hn) (s'.trans (Same.new hn)) upd_same (asc_of_sorted hs (hp.nodup_iff.mpr (once_nodup zs))) (fun z => by rw [hp.mem_iff, once_mem]) (by rw [hp.length_eq]; exact h1)
end
end Cs

set_option Elab.async false
set_option linter.all false
set_option maxRecDepth 100000
set_option maxHeartbeats 4000000
/-! Counts.__init__ with pairs and no keywords. -/
namespace Cs
open PySem L2
/-- Counts at p, its dict at d with the table t -/
structure Cnt (C : Addr) (H : Hp) (p d : Addr) (t : Tab) : Prop where
  ob : ∃ dx, H p = some (.ins C dx [("held", .ref d)])
  dc : H d = some (.dK (tv t))
  hd : Held t
  wd : ∀ z ∈ keys t, Word z
theorem put_new {t : Tab} {z : Str} {n : Int} (h : z ∉ keys t) : put t z n = t ++ [(z, n)] := by
  unfold put
  rw [any_keys, if_neg (by simpa using h)]
theorem noZero_take {t : Tab} (nd : (keys t).Nodup) {i : Nat} {q : Str × Int} (h : t[i]? = some q) :
    noZero (t.take (i + 1)) = if q.2 ≠ 0 then put (noZero (t.take i)) q.1 q.2 else noZero (t.take i) := by
  have e : t.take (i + 1) = t.take i ++ [q] := by rw [List.take_succ, h]; rfl
  unfold noZero
  rw [e, List.filter_append]
  by_cases z : q.2 ≠ 0
  · rw [if_pos z, put_new]
    · rw [List.filter_cons, if_pos (decide_eq_true z)]
      rfl
    · intro m
      obtain ⟨r, hr, er⟩ := List.mem_map.mp m
      have h1 : r ∈ t.take i := (List.mem_filter.mp hr).1
      have h2 : (keys (t.take i ++ [q])).Nodup := by
        rw [← e]
        unfold keys
        rw [List.map_take]
        exact nd.sublist (List.take_sublist _ _)
      unfold keys at h2
      rw [List.map_append, List.nodup_append] at h2
      exact h2.2.2 r.1 (List.mem_map.mpr ⟨r, h1, rfl⟩) q.1 (by simp) er
  · rw [if_neg z, List.filter_cons, if_neg (by simpa using z)]
    simp
theorem addUp_keys (z : Str) : ∀ ps, z ∈ keys (addUp ps) → ∃ q ∈ ps, q.1 = z := snoc_rec (fun h => nomatch h) fun l a ih h => by
  rw [addUp_snoc] at h
  rcases mem_keys_put.mp h with m | m
  · obtain ⟨q, hq, e⟩ := ih m
    exact ⟨q, List.mem_append_left _ hq, e⟩
  · exact ⟨a, List.mem_append_right _ (List.mem_singleton.mpr rfl), m.symm⟩
theorem noZero_keys {t : Tab} {z : Str} (h : z ∈ keys (noZero t)) : z ∈ keys t := by
  obtain ⟨q, hq, e⟩ := List.mem_map.mp h
  exact List.mem_map.mpr ⟨q, (noZero_mem.mp hq).1, e⟩
/-- all the words of pairs are words -/
def WdP (ps : List (Str × Int)) : Prop := ∀ q ∈ ps, Word q.1
theorem WdP.held {ps : List (Str × Int)} (h : WdP ps) : ∀ z ∈ keys (noZero (addUp ps)), Word z := fun z m => by
  obtain ⟨q, hq, e⟩ := addUp_keys z ps (noZero_keys m)
  rw [← e]
  exact h q hq
/-- a dict comprehension over a walk -/
theorem dc_it {J : It} {n : Nat} {G : Hp → Prop} {Y : Nat → Hp → V → Hp → Prop} (wk : Walk J n G Y) {g : TG} {tt : TT} {tk tx : TE} {vs : List Nat} {σ : L2.St} {H1 : Hp} {D : Addr} {Qd : Hp → Prop} (Pv : Nat → Hp → Prop)
    (h0 : Pv 0 (upd H1 D (.dK []))) (hG : ∀ i H, i ≤ n → Pv i H → G H)
    (hs : ∀ i x H H', i < n → Pv i H → Y i H x H' → g x (wipe σ vs) H' fun σ2 H2 => wipe σ2 vs = wipe σ vs ∧ tt σ2 H2 fun b H3 =>
      if b = true then tk σ2 H3 fun y H4 => tx σ2 H4 fun z H5 => ∃ kvs k, y = kV k ∧ H5 D = some (.dK kvs) ∧ kvs.length < sizeLine ∧ Pv (i + 1) (upd H5 D (.dK (putK kvs k z))) else Pv (i + 1) H3)
    (hd : ∀ H, Pv n H → Qd H) :
    ∃ W : Nat → Nat → Hp → Prop, (∃ m, W 0 m (upd H1 D (.dK []))) ∧ ∀ i m H, W i m H →
      (J.stop i H ∧ Qd H) ∨ (J.go i H ∧ ∃ Nx : Hp → Prop, (∀ H', Nx H' → ∃ m', m' < m ∧ W (i + 1) m' H') ∧ ∀ x H', J.yld i H x H' → g x (wipe σ vs) H' fun σ2 H2 => wipe σ2 vs = wipe σ vs ∧ tt σ2 H2 fun b H3 =>
        if b = true then tk σ2 H3 fun y H4 => tx σ2 H4 fun z H5 => ∃ kvs k, y = kV k ∧ H5 D = some (.dK kvs) ∧ kvs.length < sizeLine ∧ Nx (upd H5 D (.dK (putK kvs k z))) else Nx H3) := by
  refine ⟨fun i m H => m = n - i ∧ i ≤ n ∧ Pv i H, ⟨n, by simp, Nat.zero_le _, h0⟩, ?_⟩
  rintro i m H ⟨rfl, hi, p⟩
  by_cases lt : i < n
  · exact .inr ⟨wk.goes i H lt (hG i H hi p), Pv (i + 1), fun H' r => ⟨n - (i + 1), by omega, rfl, lt, r⟩, fun x H' y => hs i x H H' lt p (wk.yields i H x H' lt (hG i H hi p) y)⟩
  · obtain rfl : i = n := by omega
    exact .inl ⟨wk.stops H (hG i H hi p), hd H p⟩
theorem val_getD (t : Tab) (z : Str) : ((look t z).map V.int).getD (.int 0) = .int (val t z) := by
  unfold val
  cases look t z <;> rfl
/-- __init__ behind its binding: the pairs a tuple at pt, the keywords an empty dict at dn -/
def spInitB (C : Addr) : Sp := fun vs H Q _ => ∃ (x pt dn dx : Addr) (xs : List V) (ps : List (Str × Int)), vs = [.ref x, .ref pt, .ref dn] ∧ H x = some (.ins C dx []) ∧ H pt = some (.tup xs) ∧ PrL H xs ps ∧ H dn = some (.dK []) ∧ ps.length ≤ 1000 ∧ WdP ps ∧
  ∀ (d : Addr) (H' : Hp), H d = none → Cnt C H' x d (noZero (addUp ps)) → (∀ b o, H b = some o → b ≠ x → H' b = some o) → Q .non H'
section
variable {P : Program} {w : World} {K : PySem.W.Frag} {mg : Str → Option Value} {base : Heap}
theorem init_body {C f : Addr} {cdv : Value} {A : Around} {outer : List Env} {s : Shared} {H : Hp} {vs : List V} {Q : VK} {E : XK} (g : Bi mg) (cl : Cls K C) (nH : NoAttr K C "held")
    (hr : Room 0 (A.deeper (PyProof.Rows.envOfC "Counts.__init__" (defScope s_Counts_init) s.heap.objs.size f cdv))) (h : spInitB C vs H Q E) :
    ∃ t, PSs (cxOf CX0 P w K mg base ["self", "pairs", "numbers", "word", "held", "number"] "Counts.__init__" (defScope s_Counts_init) f cdv A outer s H E).nox (defBody s_Counts_init) t ∧ t { nx := fun _ H' => Q .non H', rt := Q } (L2.start ["self", "pairs", "numbers", "word", "held", "number"] vs) H := by
  obtain ⟨x, pt, dn, dx, xs, ps, rfl, hx, hpt, hP, hdn, hl, hW, k⟩ := h
  have hu := hu_of hr
  refine ⟨_, (pss_cons (ps_lock (ps_for PassesOwn.never rfl (pi_keys (pv 2)) (pg_name (i := 3) sc_Counts_init.nd rfl (Or.inl rfl)) pss_never))
      (pss_cons (ps_set (i := 4) sc_Counts_init.nd rfl (Or.inl rfl) pe_dnewK)
      (pss_cons (ps_for PassesOwn.never rfl (pi_list (pe_op op_cat (pe_callTy call_list_of (by rfl) g.list (by decide +kernel) (pa_cons (pv 1) pa_nil)) (LiI.pe_listItems rfl (pv 2) (by rfl) g.list (by decide +kernel)))) (pg_tup rfl (pgs_cons (pg_name (i := 3) sc_Counts_init.nd rfl (Or.inl rfl)) (pgs_cons (pg_name (i := 5) sc_Counts_init.nd rfl (Or.inl rfl)) pgs_nil))) (pss_one (ps_dput hu (pv 4) (pv 3) (pe_op op_add (pe_dget2 hu (pv 4) (pv 3) pe_int ⟨rfl, rfl, rfl, rfl⟩) (pv 5)) rfl)))
      (pss_one (ps_fld (pv 0) (pe_lock (pe_dc (own := [("word", 3), ("number", 5)]) (g := gTup K 2 (gCons (gName 3) (gCons (gName 5) gNil))) (by rfl) sc_Counts_init.nd (pi_items (pv 4)) (blkOk_by (own := [("word", 3), ("number", 5)]) (N := ["self", "pairs", "numbers", "word", "held", "number"]) (sc := defScope s_Counts_init) (by decide +kernel)) (fun _ _ _ _ _ => (pg_tup rfl (pgs_cons (pg_name (i := 3) sc_Counts_init.nd rfl (Or.inl rfl)) (pgs_cons (pg_name (i := 5) sc_Counts_init.nd rfl (Or.inl rfl)) pgs_nil)))) (fun _ _ _ _ _ => (pts_one (pt_cmpR op_ne (pv 5) pe_int (nomark _)))) (fun _ _ _ _ _ => (pv 3)) (fun _ _ _ _ _ => (pv 5)))) rfl))))), ?_⟩
  have nxd : x ≠ dn := ne_of hx hdn (by intro z; cases z)
  have npd : pt ≠ dn := ne_of hpt hdn (by intro z; cases z)
  have nxp : x ≠ pt := ne_of hx hpt (by intro z; cases z)
  -- for word in numbers: nothing
  refine ⟨dn, _, hdn, trivial, fun od => ?_⟩
  refine ⟨_, rfl, dn, od, rfl, .inl ⟨[], upd_same, ?_⟩⟩
  refine for_it walk_keys (fun i σ' H' => i = 0 ∧ H' = upd H dn (.frz od (.dK [])) ∧ σ' = [some (.ref x), some (.ref pt), some (.ref dn), none, none, none]) ⟨rfl, rfl, rfl⟩ (fun i σ' H' _ h => by rw [h.2.1]; exact upd_same) (fun i x σ' H' H2 hi => absurd hi (Nat.not_lt_zero _)) ?_
  rintro σ' H' ⟨_, rfl, rfl⟩
  refine ⟨upd_same, ?_⟩
  have eH : upd (upd H dn (.frz od (.dK []))) dn (.dK []) = H := by
    funext b
    by_cases e : b = dn
    · rw [e, upd_same, hdn]
    · rw [upd_ne e, upd_ne e]
  rw [eH]
  -- held = {}
  intro e he
  have s1 : Same H (upd H e (.dK [])) := Same.new he
  -- list(pairs) + list(numbers.items())
  refine ⟨_, rfl, pt, _, rfl, .inr (SqT.of (s1 _ _ hpt)), fun l1 hl1 => ?_⟩
  have s2 := s1.trans (Same.new (o := .lst xs) hl1)
  refine ⟨_, rfl, dn, [], rfl, s2 _ _ hdn, fun H3 p3 ts sm hp3 hts hnp hlst hpr => ?_⟩
  cases hpr
  have nel : e ≠ l1 := ne_of_none upd_same hl1
  refine ⟨l1, p3, xs, [], rfl, rfl, sm _ _ upd_same, hlst, ?_, fun l hl4 => ?_⟩
  · rw [hP.length]
    exact Nat.le_trans hl (by decide)
  rw [List.append_nil]
  have s3 : Same H H3 := s2.trans sm
  have s4 : Same H (upd H3 l (.lst xs)) := s3.trans (Same.new hl4)
  have he3 : H3 e = some (.dK []) := sm _ _ (by rw [upd_ne nel]; exact upd_same)
  have nel4 : e ≠ l := ne_of_none he3 hl4
  have hlx : H l = none := s3.free hl4
  refine ⟨l, rfl, ⟨_, SqL.of upd_same⟩, for_list (K := K) (a := l) (xs := xs) (fun i σ' H' => ∃ x3 x5 : Option V, σ' = [some (.ref x), some (.ref pt), some (.ref dn), x3, some (.ref e), x5] ∧ Same H H' ∧ H' l = some (.lst xs) ∧ H' e = some (.dK (tv (addUp (ps.take i)))))
    ⟨_, _, rfl, s4, upd_same, by rw [upd_ne nel4]; exact he3⟩ (fun i σ' H' _ ⟨_, _, _, _, h, _⟩ => SqL.of h) ?_ ?_⟩
  · rintro i y σ' H' hy ⟨x3, x5, rfl, s', hl', he'⟩
    have hi : i < ps.length := by
      have := (List.getElem?_eq_some_iff.mp hy).1
      rw [hP.length] at this
      exact this
    obtain ⟨t, et, ht⟩ := hP.at (List.getElem?_eq_getElem hi)
    rw [et] at hy
    obtain rfl := Option.some.inj hy
    refine ⟨t, _, rfl, SqT.of (s' _ _ ht), rfl, _, _, rfl, _, _, rfl, rfl, ?_⟩
    refine ⟨_, rfl, e, rfl, .inl ⟨_, .inl he'⟩, _, rfl, _, DGet.k (k := Sum.inr ps[i].1) he', _, rfl, val (addUp (ps.take i)) ps[i].1, ps[i].2, (by rw [tv_val]; exact val_getD _ _), rfl, _, rfl, _, rfl, e, _, rfl, DPut.k (k := Sum.inr ps[i].1) he' ?_, ?_⟩
    · rw [tv_len]
      have h1 := addUp_len (ps.take i)
      rw [List.length_take] at h1
      exact Nat.lt_of_le_of_lt (show (addUp (ps.take i)).length ≤ 1000 by omega) (by decide)
    · refine ⟨_, _, rfl, fun b o q => by rw [upd_ne (ne_of_none q he)]; exact s' b o q, by rw [upd_ne (ne_of hl' he' (by intro z; cases z))]; exact hl', ?_⟩
      rw [upd_same, tv_put, List.take_succ, List.getElem?_eq_getElem hi]
      show some (HO.dK (tv (put (addUp (ps.take i)) ps[i].1 (val (addUp (ps.take i)) ps[i].1 + ps[i].2)))) = some (HO.dK (tv (addUp (ps.take i ++ [ps[i]]))))
      rw [addUp_snoc]
  · rintro σ' H5 ⟨x3, x5, rfl, s5, hl5, he5⟩
    rw [hP.length, List.take_length] at he5
    generalize et : addUp ps = t at he5
    have ndt : (keys t).Nodup := by rw [← et]; exact addUp_nd ps
    have lent : t.length ≤ 1000 := by rw [← et]; exact Nat.le_trans (addUp_len ps) hl
    -- self.held = {..}
    refine ⟨e, _, he5, trivial, fun oe => ?_⟩
    refine ⟨_, rfl, e, oe, _, rfl, upd_same, fun D hD => ?_⟩
    have nDe : D ≠ e := (ne_of_none upd_same hD).symm
    have hDH : H5 D = none := by rw [upd_ne nDe] at hD; exact hD
    have xe : x ≠ e := ne_of_none hx he
    refine dc_it walk_items (fun i H' => (∀ b o, H5 b = some o → b ≠ e → H' b = some o) ∧ H' e = some (.frz oe (.dK (tv t))) ∧ H' D = some (.dK (tv (noZero (t.take i))))) ⟨fun b o q n => by rw [upd_ne (ne_of_none q hDH), upd_ne n]; exact q, by rw [upd_ne nDe.symm]; exact upd_same, upd_same⟩
      (fun i H' _ h => h.2.1) ?_ ?_
    · rintro i v H' H2 hi ⟨k1, k2, k3⟩ ⟨T, a, b, rfl, hT, rfl, ha, hb⟩
      rw [tv_len] at hi
      have hi2 : (tv t)[i]? = some (Sum.inr t[i].1, V.int t[i].2) := by
        unfold tv
        rw [List.getElem?_map, List.getElem?_eq_getElem hi]
        rfl
      dsimp only at ha hb
      rw [hi2] at ha hb
      obtain rfl : V.str t[i].1 = a := Option.some.inj ha
      obtain rfl : V.int t[i].2 = b := Option.some.inj hb
      have sT : Same H' (upd H' T (.tup [V.str t[i].1, V.int t[i].2])) := Same.new hT
      refine ⟨T, _, rfl, SqT.of upd_same, rfl, _, _, rfl, _, _, rfl, rfl, rfl, _, rfl, rfl, _, rfl, ?_⟩
      have nz := noZero_take ndt (List.getElem?_eq_getElem hi)
      by_cases z : t[i].2 = 0
      · rw [decide_eq_true (show V.int t[i].2 = V.int 0 by rw [z])]
        rw [if_neg (by simpa using z)] at nz
        refine iteF ?_
        refine ⟨fun c o q n => sT _ _ (k1 c o q n), sT _ _ k2, ?_⟩
        rw [nz]
        exact sT _ _ k3
      · rw [decide_eq_false (show ¬ V.int t[i].2 = V.int 0 from fun q => z (V.int.inj q))]
        rw [if_pos z] at nz
        refine iteT ?_
        refine ⟨_, rfl, _, rfl, _, Sum.inr t[i].1, rfl, sT _ _ k3, ?_, ?_, ?_, ?_⟩
        · rw [tv_len]
          have h1 : (noZero (t.take i)).length ≤ (t.take i).length := List.length_filter_le _ _
          rw [List.length_take] at h1
          exact Nat.lt_of_le_of_lt (show (noZero (t.take i)).length ≤ 1000 by omega) (by decide)
        · intro c o q n
          rw [upd_ne (ne_of_none q hDH)]
          exact sT _ _ (k1 c o q n)
        · rw [upd_ne nDe.symm]
          exact sT _ _ k2
        · rw [upd_same, tv_put, nz]
    · rintro H' ⟨k1, k2, k3⟩
      rw [tv_len, List.take_length] at k3
      refine ⟨k2, _, rfl, x, C, dx, [], rfl, ?_, cl, nH, (by show 0 < 1000; decide), ?_⟩
      · rw [upd_ne xe]
        exact k1 _ _ (s5 _ _ hx) xe
      · have nDx : D ≠ x := (ne_of_none (s5 _ _ hx) hDH).symm
        refine k D _ (s5.free hDH) ⟨⟨dx, upd_same⟩, ?_, Held.of (by rw [et]; exact ndt), hW.held⟩ fun b o q n => ?_
        · rw [upd_ne nDx, upd_ne nDe, et]
          exact k3
        · have be : b ≠ e := ne_of_none q he
          rw [upd_ne n, upd_ne be]
          exact k1 _ _ (s5 _ _ q) be
end
end Cs

set_option Elab.async false
set_option linter.all false
set_option maxRecDepth 100000
set_option maxHeartbeats 4000000
/-! What an own class's special methods do: len(o), o[i], o[i] = v; classes called with a starred list. -/
namespace Cs
open PySem PySem.Spec PyProof.Rows L2
/-- a special method of the class at C -/
structure Spc (K : PySem.W.Frag) (C : Addr) (m : Str) (f : Addr) : Prop where
  at_ : PySem.W.findIn K (.ref C) m = some (some (.ref f))
  fn : PySem.W.isFn K (.ref f) = true
section
variable {X : Cx} {CX : CXT} {k i : Nat} {f C g : Addr} {fd : FuncData} {ps : List Str} {sp : Sp} {dvs : List V} {ds : List Value} {E : XK} {x m : Str} {e o : Expr} {es : List Expr} {te ta : TE} {t : TA} {p sp_ pos apos : Pos}
/-- a def run one level down -/
theorem run_fn1 {pins : List (Addr × Obj)} {σ : L2.St} {H : Hp} {s : Shared} {Q : VK} {us : List Value} {vs : List V} (F : FnOk X.prog X.w X.K X.mg X.base CX k f fd ps sp) (hr : Room (k + 1) X.A) (hb : Binds X.K fd ps []) (hx : Passes CX X E)
    (I : Inv X pins σ H s) (r : Vals vs us) (h : sp vs H Q E) : wpAny (model X.prog X.w) X.A.in1 (call (.ref f) us) (EP X pins σ Q) X.xe s := by
  have hl : us.length = ps.length := by rw [← r.length]; exact F.len _ _ _ _ h
  have hb' := hb s us I.kIn (by rw [List.append_nil]; exact hl)
  rw [List.append_nil] at hb'
  refine wpAny_call (codeAny_mono (F.run X.A.in1 X.stack s H ⟨us, []⟩ us vs Q E hr.in1 I.env0.in1 hb' r h) fun r s' hq => ?_)
  cases r with
  | error e => exact hx pins σ H s e s' I hq
  | ok fl =>
    cases fl with
    | ret u => exact I.after hq
    | next => exact False.elim hq
    | brk => exact False.elim hq
    | cont => exact False.elim hq
theorem ins_inst {pins : List (Addr × Obj)} {σ : L2.St} {H : Hp} {s : Shared} {a dx : Addr} {fs : List (Str × V)} (I : Inv X pins σ H s) (h : H a = some (.ins C dx fs)) : ∃ ox od, PySem.W.InstAt s.heap a ox C od ∧ ox.data = .plain := by
  obtain ⟨mA, O, _⟩ := ins_get I.hok h
  obtain ⟨od, J, _⟩ := O.look
  exact ⟨_, _, J, rfl⟩
/-- len(o) by an own __len__ -/
def rLenO (C : Addr) (sp : Sp) (E : XK) : List V → Hp → VK → Prop := fun xs H Q => ∃ a dx fs, xs = [.ref a] ∧ H a = some (.ins C dx fs) ∧ sp [.ref a] H (fun v H2 => ∃ n : Int, v = .int n ∧ (0 ≤ n ∧ n < 2 ^ 63) ∧ Q (.int n) H2) E
theorem call_lenO (c : Spc X.K C "__len__" f) (F : FnOk X.prog X.w X.K X.mg X.base CX k f fd ps sp) (hr : Room (k + 1) X.A) (hb : Binds X.K fd ps []) (hx : Passes CX X E) : CallR X (.builtin "len") (rLenO C sp E) := by
  intro pins s σ H xs us Q I r h
  obtain ⟨a, dx, fs, rfl, ha, q⟩ := h
  rw [Vals.ref1 r]
  obtain ⟨ox, od, J, _⟩ := ins_inst I ha
  obtain ⟨m, Fr⟩ := I.fr
  refine PySem.W.len_K Fr I.ok.mod.kin J c.at_ c.fn (wpAny_mono (run_fn1 (us := [.ref a]) (vs := [.ref a]) F hr hb hx I (.cons rfl .nil) q) (fun v s' z => ?_) fun _ _ z => z)
  obtain ⟨v0, H2, I2, rv, n, e, hn, q2⟩ := z
  subst e
  obtain ⟨tk, rfl⟩ := rv
  exact ⟨hn, .int n, H2, I2.tok _, ⟨_, rfl⟩, q2⟩
/-- o[i] = v by an own __setitem__ -/
def rSetO (C : Addr) (sp : Sp) (E : XK) : V → V → V → Hp → (Hp → Prop) → Prop := fun o i v H Q => ∃ a dx fs, o = .ref a ∧ H a = some (.ins C dx fs) ∧ sp [.ref a, i, v] H (fun _ H2 => Q H2) E
theorem set_own (c : Spc X.K C "__setitem__" f) (hq : PySem.W.noSeq X.K C = true) (F : FnOk X.prog X.w X.K X.mg X.base CX k f fd ps sp) (hr : Room k X.A) (hb : Binds X.K fd ps []) (hx : Passes CX X E) : PSet X (rSetO C sp E) := by
  intro pins s σ H o i v ov iv u Q I ro ri rv h
  obtain ⟨a, dx, fs, rfl, ha, q⟩ := h
  cases ro
  obtain ⟨ox, od, J, _⟩ := ins_inst I ha
  obtain ⟨m, Fr⟩ := I.fr
  refine PySem.W.ksp_setItem Fr I.ok.mod.kin J hq c.at_ c.fn ?_
  refine wpAny_mono (run_fn (us := [.ref a, iv, u]) (vs := [.ref a, i, v]) (dvs := []) F hr hb .nil hx I (.cons rfl (.cons ri (.cons rv .nil))) q) (fun v s' z => ?_) fun _ _ z => z
  obtain ⟨v0, H2, I2, _, q2⟩ := z
  exact ⟨H2, I2, q2⟩
/-- C(*y), C a class of the module -/
def tMkS (K : PySem.W.Frag) (C : Addr) (sp : Sp) (E : XK) (te : TE) : TE := fun σ H Q => te σ H fun y H1 => ∃ a xs, y = V.ref a ∧ (SqT K H1 a xs ∨ SqL K H1 a xs) ∧ ∀ x dx, H1 x = none → H1 dx = none → dx ≠ x →
  sp (V.ref x :: xs) (upd (upd H1 dx (.own x)) x (.ins C dx [])) (fun v H2 => v = .non ∧ Q (.ref x) H2) E
theorem pe_mkS (M : Mk X.K C f) (F : FnR X.prog X.w X.K X.mg X.base CX k f sp) (hr : Room (k + 1) X.A) (hg : Gl X x) (hm : X.mg x = some (.ref C)) (hx : Passes CX X E) (he : PE X e te) (hd : (x == ("__debug__" : Str)) = false := by decide)
    (hst : starEach [.Starred e sp_] X.env = [(true, eval e X.env)] := by rfl) : PE X (.Call (.Name x p) [.Starred e sp_] [] pos) (tMkS X.K C sp E te) := by
  refine ⟨fun pins s σ H Q I h => ?_⟩
  refine wpAny_Call_Name_kw (ld_glob I hg hm ?_ hd)
  refine PySem.W.callWith_S (h₀ := X.base) I.ok.mod.kin M.kp (thn (he.run pins s σ H _ I h) fun v s1 ⟨y, H1, I1, ry, a, xs, ey, hxs, q⟩ => ?_) hst
  subst ey
  obtain rfl : v = Value.ref a := ry
  exact StX.star_any I1 hxs fun us s2 I2 rv => ⟨I2.kIn, StX.run_makeR M F hr hx I2 rv q⟩
/-- c(*y), c a local name that holds the class -/
theorem pe_mkSL (M : Mk X.K C f) (F : FnR X.prog X.w X.K X.mg X.base CX k f sp) (hr : Room (k + 1) X.A) (hN : X.N[i]? = some x) (hv : Vis X.env.scope x) (hx : Passes CX X E) (he : PE X e te) (hdb : (x == ("__debug__" : Str)) = false := by decide)
    (hcd : (x == ("__classdict__" : Str)) = false := by decide) (hst : starEach [.Starred e sp_] X.env = [(true, eval e X.env)] := by rfl) :
    PE X (.Call (.Name x p) [.Starred e sp_] [] pos) (fun σ H Q => σ[i]? = some (some (.ref C)) ∧ tMkS X.K C sp E te σ H Q) := by
  refine ⟨fun pins s σ H Q I h => ?_⟩
  obtain ⟨hs, h⟩ := h
  refine wpAny_Call_Name_kw (thn ((pe_var (pos := p) hN hv hdb hcd).run pins s σ H (fun v H1 => v = .ref C ∧ H1 = H) I ⟨.ref C, hs, rfl, rfl⟩) fun u s0 ⟨v, H0, I0, r0, q0⟩ => ?_)
  obtain ⟨rfl, rfl⟩ := q0
  cases r0
  refine PySem.W.callWith_S (h₀ := X.base) I.ok.mod.kin M.kp (thn (he.run pins s0 σ _ _ I0 h) fun v s1 ⟨y, H1, I1, ry, a, xs, ey, hxs, q⟩ => ?_) hst
  subst ey
  obtain rfl : v = Value.ref a := ry
  exact StX.star_any I1 hxs fun us s2 I2 rv => ⟨I2.kIn, StX.run_makeR M F hr hx I2 rv q⟩
/-- C(), by a positional promise -/
theorem pe_mkR0 (M : Mk X.K C f) (F : FnR X.prog X.w X.K X.mg X.base CX k f sp) (hr : Room (k + 1) X.A) (hg : Gl X x) (hm : X.mg x = some (.ref C)) (hx : Passes CX X E) (hdb : (x == ("__debug__" : Str)) = false := by decide) :
    PE X (.Call (.Name x p) [] [] pos) (StX.tMakeR C sp E tNil) := by
  refine ⟨fun pins s σ H Q I h => ?_⟩
  refine wpAny_Call_Name_kw (ld_glob I hg hm ?_ hdb)
  exact PySem.W.callWith_K0 I.kIn M.kp (StX.run_makeR (us := []) M F hr hx I .nil h)
/-- o.m() by a positional promise -/
theorem pe_methR0 {pl : Sem Bool} (he : PE X o ta) (c : Cls X.K C) (hm : Meth X.K C m f) (F : FnR X.prog X.w X.K X.mg X.base CX k f sp) (hr : Room k X.A) (hx : Passes CX X E)
    (ht : eval (.Call (.Attribute o m apos) [] [] pos) X.env = (do
      let ov ← eval o X.env
      standAt apos.atName
      let (f, first) ← holding [ov] (getMethod ov m pl)
      callWith pos f first (backTo pos (starEach [] X.env)) (backToKw pos (keywordEach [] X.env))) := by rfl) :
    PE X (.Call (.Attribute o m apos) [] [] pos) (tMethR C m sp E ta tNil) := by
  refine ⟨fun pins s σ H Q I h => ?_⟩
  refine PySem.W.methodCall_KW (pl := pl) (thn (he.run pins s σ H _ I h) fun u s1 ⟨x, H1, I1, rx, a, dx, fs, ex, ea, l, q⟩ => ?_) ht
  subst ex
  obtain rfl : u = Value.ref a := rx
  refine getmeth_ok I1 ea c hm l ?_
  exact PySem.W.callWith_K0 (first := [.ref a]) I1.kIn hm.kp (wpAny_call (run_fnR (us := [.ref a]) (vs := [.ref a]) F hr hx I1 (.cons rfl .nil) q))
end
end Cs

set_option Elab.async false
set_option linter.all false
set_option maxRecDepth 100000
set_option maxHeartbeats 4000000
/-! Counts: its methods, by what they hold. -/
namespace Cs
open PySem L2
theorem fnR_of {P : Program} {w : World} {K : PySem.W.Frag} {mg : Str → Option Value} {base : Heap} {CX : CXT} {k : Nat} {f : Addr} {fd : FuncData} {ps : List Str} {sp : Sp} (F : FnOk P w K mg base CX k f fd ps sp) (hb : Binds K fd ps []) : FnR P w K mg base CX k f sp := by
  intro A outer s H us vs Q E hr e0 r h
  have hl : us.length = ps.length := by rw [← r.length]; exact F.len _ _ _ _ h
  have kin : K.In s.heap := e0.mod.kin.keeps fun b o e => (e0.bs b o e).1
  have hb' := hb s us kin (by rw [List.append_nil]; exact hl)
  rw [List.append_nil] at hb'
  exact F.run A outer s H ⟨us, []⟩ us vs Q E hr e0 hb' r h
/-- __init__ called with pairs -/
def spInit (C : Addr) : Sp := fun vs H Q _ => ∃ (x dx : Addr) (xs : List V) (ps : List (Str × Int)), vs = .ref x :: xs ∧ H x = some (.ins C dx []) ∧ PrL H xs ps ∧ ps.length ≤ 1000 ∧ WdP ps ∧
  ∀ (d : Addr) (H' : Hp), H d = none → Cnt C H' x d (noZero (addUp ps)) → (∀ b o, H b = some o → b ≠ x → H' b = some o) → Q .non H'
/-- the class as the top has made it -/
structure CT (P : Program) (w : World) (K : PySem.W.Frag) (mg : Str → Option Value) (base : Heap) (C fI : Addr) : Prop where
  cl : Cls K C
  nH : NoAttr K C "held"
  mgC : mg "Counts" = some (.ref C)
  mke : Mk K C fI
  ini : FnR P w K mg base CX0 1 fI (spInit C)
/-- a method -/
structure MDef (P : Program) (w : World) (K : PySem.W.Frag) (mg : Str → Option Value) (base : Heap) (CX : CXT) (k : Nat) (C : Addr) (m : Str) (ps : List Str) (sp : Sp) (f : Addr) (fd : FuncData) : Prop where
  me : Meth K C m f
  ok : FnOk P w K mg base CX k f fd ps sp
  b : Binds K fd ps []
theorem flds_held (d : Addr) : ([("held", .ref d)] : List (Str × V)).lookup ("held" : Str) = some (.ref d) := by
  rw [List.lookup_cons, beq_self_eq_true]
theorem Cnt.same {C : Addr} {H H' : Hp} {p d : Addr} {t : Tab} (s : Same H H') (h : Cnt C H p d t) : Cnt C H' p d t := by
  obtain ⟨⟨dx, a⟩, b, c, e⟩ := h
  exact ⟨⟨dx, s _ _ a⟩, s _ _ b, c, e⟩
/-- what a method hands out that gives new counts -/
def NewC (C : Addr) (H : Hp) (Q : VK) (F : Str → Int) (n : Nat) : Prop := ∀ (r e : Addr) (H' : Hp) (u : Tab), H r = none → H e = none → Same H H' → Cnt C H' r e u → (∀ z, val u z = F z) → u.length ≤ n → Q (.ref r) H'
def spWords (C : Addr) : Sp := fun vs H Q _ => ∃ (p d : Addr) (t : Tab), vs = [.ref p] ∧ Cnt C H p d t ∧ t.length ≤ 1000 ∧
  ∀ (q : Addr) (H' : Hp) (ws : List Str), H q = none → Same H H' → H' q = some (.lst (ws.map V.str)) → Asc ws → (∀ z, z ∈ ws ↔ z ∈ keys t) → ws.length ≤ t.length → Q (.ref q) H'
def spPairsM (C : Addr) : Sp := fun vs H Q _ => ∃ (p d : Addr) (t : Tab), vs = [.ref p] ∧ Cnt C H p d t ∧ t.length ≤ 1000 ∧
  ∀ (q : Addr) (H' : Hp) (xs : List V) (l : Tab), H q = none → Same H H' → H' q = some (.lst xs) → PrL H' xs l → Told (val t) l → WdP l → l.length ≤ t.length → Q (.ref q) H'
def spCopy (C : Addr) : Sp := fun vs H Q _ => ∃ (p d : Addr) (t : Tab), vs = [.ref p] ∧ Cnt C H p d t ∧ t.length ≤ 1000 ∧ NewC C H Q (val t) t.length
theorem noZero_len (t : Tab) : (noZero t).length ≤ t.length := List.length_filter_le _ _
theorem sumOf_told {f : Str → Int} {l : Tab} (h : Told f l) (z : Str) : sumOf l z = f z := by
  have nd : (keys l).Nodup := h.asc.nodup
  rw [← addUp_val, ]
  have key : ∀ (m : Tab), (keys m).Nodup → ∀ z, sumOf m z = val m z := by
    intro m
    induction m with
    | nil => intro _ z; rfl
    | cons q m ih =>
      intro nd z
      obtain ⟨n1, n2⟩ := List.nodup_cons.mp (show (q.1 :: keys m).Nodup from nd)
      have hz := ih n2 z
      unfold sumOf at hz ⊢
      unfold val look
      rw [List.filter_cons, List.find?_cons]
      by_cases e : q.1 = z
      · rw [if_pos (decide_eq_true e), decide_eq_true e, List.map_cons, List.sum_cons, hz]
        subst e
        unfold val
        rw [look_none n1]
        simp
      · rw [if_neg (by simpa using e), decide_eq_false e, hz]
        rfl
  rw [addUp_val, key l nd]
  unfold val
  by_cases m : z ∈ keys l
  · obtain ⟨n, a, b⟩ := look_some m
    rw [a]
    exact ((h.mem z n).mp b).1
  · rw [look_none m]
    have := mt (h.keys_iff z).mpr m
    have e : f z = 0 := Classical.byContradiction this
    rw [e]
    rfl
section
variable {P : Program} {w : World} {K : PySem.W.Frag} {mg : Str → Option Value} {base : Heap}
theorem ok_init {C f : Addr} {oc od kV doc pm an cdv ct osl} (g : Bi mg) (cl : Cls K C) (nH : NoAttr K C "held")
    (lk : K.lookup f = some ⟨oc, od, .func (PySem.W.fnOf "__init__" "Counts.__init__" (defArgs s_Counts_init) (defBody s_Counts_init) (defScope s_Counts_init) .none kV doc pm an cdv ct), osl⟩) (hcd : PySem.W.codeIn K cdv "Counts.__init__" = true) :
    FnR P w K mg base CX0 1 f (spInit C) := by
  have G := StX.fn_starkw (P := P) (w := w) (mg := mg) (base := base) (CX := CX0) (k := 0) (ps := ["self"]) (pv := "pairs") (pd := "numbers") (sp := spInitB C) lk hcd sc_Counts_init StX.cxUp_none
    (fun us rest hl => match us, rest, hl with | [a], [], _ => rfl | [a], r :: rs, _ => rfl)
    (fun A outer s H vs Q E hr h => by
      obtain ⟨t, a, b⟩ := init_body (P := P) (w := w) (mg := mg) (base := base) (outer := outer) (s := s) g cl nH hr h
      exact ⟨t, a.nox, b⟩)
  refine G.imp fun vs H Q E h => ?_
  obtain ⟨x, dx, xs, ps, rfl, hx, hP, hl, hW, k⟩ := h
  refine ⟨[.ref x], xs, rfl, rfl, by rw [hP.length]; exact Nat.le_trans hl (by decide), fun p d hp hd hne => ?_⟩
  have s1 : Same H (upd H p (.tup xs)) := Same.new hp
  have hd1 : (upd H p (.tup xs)) d = none := by rw [upd_ne hne]; exact hd
  have s2 : Same H (upd (upd H p (.tup xs)) d (.dK [])) := s1.trans (Same.new hd1)
  refine ⟨x, p, d, dx, xs, ps, rfl, s2 _ _ hx, (by rw [upd_ne hne.symm]; exact upd_same), hP.mono (fun t a b e => s2 _ _ e), upd_same, hl, hW, fun e H' he hc kp => ?_⟩
  exact k e H' (s2.free he) hc fun b o q n => kp b o (s2 _ _ q) n
theorem ok_words {C f fDi : Addr} {fd fdDi : FuncData} {fI : Addr} (F : Fun K "words" "Counts.words" s_Counts_words f fd) (g : Bi mg) (T : CT P w K mg base C fI) (FDi : Def P w K mg base CX0 1 "distinct" ["words"] (spDistinct K) fDi fdDi) : FnOk P w K mg base CX0 2 f fd ["self"] (spWords C) := by
  obtain ⟨GDi, mDi, _, bDi⟩ := id FDi
  refine F.ok sc_Counts_words (fun vs H Q E h => ?_) (fun cdv A outer s H vs Q E hr h => ?_)
  · obtain ⟨_, _, _, rfl, _⟩ := h
    rfl
  · obtain ⟨p, d, t, rfl, hc, hl, k⟩ := h
    have hrDi : Room 1 _ := hr.mono (by decide)
    obtain ⟨⟨dx, hp⟩, hd, hh, hw⟩ := id hc
    refine ⟨_, (pss_one (ps_ret (pe_call GDi hrDi rfl mDi FDi.kp bDi .nil pass0 (pa_cons (pe_callTy (call_listD rfl) (by rfl) g.list (by decide +kernel) (pa_cons (pe_fld (pv 0) rfl) pa_nil)) pa_nil)))), ?_⟩
    refine ⟨_, rfl, p, C, dx, _, _, rfl, hp, T.cl, T.nH, flds_held d, d, _, rfl, .inl hd, fun q hq => ?_⟩
    have e : (tv t).map (fun kv => kV kv.1) = (keys t).map V.str := by
      unfold tv keys
      rw [List.map_map, List.map_map]
      rfl
    rw [e]
    have s1 : Same H (upd H q (.lst ((keys t).map V.str))) := Same.new hq
    refine ⟨q, keys t, rfl, SqL.of upd_same, by unfold keys; rw [List.length_map]; exact hl, fun r H' ws hr' s2 h2 ha hm hle => ?_⟩
    exact k r H' ws (s1.free hr') (s1.trans s2) h2 ha hm (by unfold keys at hle; rw [List.length_map] at hle; exact hle)
theorem ok_pairsM {C f fWo : Addr} {fd fdWo : FuncData} {fI : Addr} (F : Fun K "pairs" "Counts.pairs" s_Counts_pairs f fd) (g : Bi mg) (T : CT P w K mg base C fI) (MWo : MDef P w K mg base CX0 2 C "words" ["self"] (spWords C) fWo fdWo) : FnOk P w K mg base CX0 3 f fd ["self"] (spPairsM C) := by
  refine F.ok sc_Counts_pairs (fun vs H Q E h => ?_) (fun cdv A outer s H vs Q E hr h => ?_)
  · obtain ⟨_, _, _, rfl, _⟩ := h
    rfl
  · obtain ⟨p, d, t, rfl, hc, hl, k⟩ := h
    have hrWo : Room 2 _ := hr.mono (by decide)
    have hu := hu_of hr
    obtain ⟨⟨dx, hp⟩, hd, hh, hw⟩ := id hc
    refine ⟨_, (pss_one (ps_ret (pe_lc (own := [("word", 1)]) (g := gName 1) (te := (tTup (tCons _ (tCons (tDGet (tFld K _ "held") _) tNil))))  (by rfl) sc_Counts_pairs.nd (pi_list (pe_meth0 (pv 0) T.cl MWo.me MWo.ok hrWo MWo.b .nil pass0)) (blkOk_by (own := [("word", 1)]) (N := ["self", "word"]) (sc := defScope s_Counts_pairs) (by decide +kernel)) (fun _ _ _ _ _ => (pg_name (i := 1) sc_Counts_pairs.nd rfl (Or.inl rfl))) (fun _ _ _ _ _ => pts_nil) (fun _ _ _ _ _ => (pe_tup (pa_cons (pv 1) (pa_cons (pe_dget hu (pe_fld (pv 0) rfl) (pv 1) (fun _ _ => rfl)) pa_nil))))))), ?_⟩
    refine ⟨_, rfl, p, dx, _, rfl, hp, rfl, p, d, t, rfl, hc, hl, fun q H1 ws hq s1 h1 ha hm hle => ⟨q, rfl, ⟨_, SqL.of h1⟩, fun D hD => ?_⟩⟩
    refine lc_it (walk_list (xs := ws.map V.str)) (fun i H' => Same H1 H' ∧ ∃ xs, H' D = some (.lst xs) ∧ PrL H' xs ((ws.take i).map fun z => (z, val t z))) ⟨Same.new hD, [], upd_same, .nil⟩ (fun i H' _ h => SqL.of (h.1 _ _ h1)) ?_ ?_
    · rintro i x H' H2 hi ⟨s', xs, hD', hP'⟩ ⟨rfl, hx⟩
      rw [List.length_map] at hi
      have ex : x = V.str ws[i] := by
        rw [List.getElem?_map, List.getElem?_eq_getElem hi] at hx
        exact (Option.some.inj hx).symm
      subst ex
      obtain ⟨n, en, _⟩ := look_some ((hm ws[i]).mp (List.getElem_mem hi))
      have ev : val t ws[i] = n := by unfold val; rw [en]; rfl
      have hd' := s' _ _ (s1 _ _ hd)
      have hxl : xs.length = i := by
        rw [hP'.length, List.length_map, List.length_take]
        omega
      refine ⟨rfl, yes_it ?_⟩
      refine ⟨_, rfl, _, rfl, p, C, dx, _, _, rfl, s' _ _ (s1 _ _ hp), T.cl, T.nH, flds_held d, _, rfl, d, .int n, rfl, ?_, by show 2 ≤ sizeLine; decide, fun T2 hT2 => ?_⟩
      · have := DGet.k (k := Sum.inr ws[i]) hd'
        rw [tv_val, en] at this
        exact this
      · have nTD : D ≠ T2 := ne_of_none hD' hT2
        have sT : Same H2 (upd H2 T2 (.tup [.str ws[i], .int n])) := Same.new hT2
        refine ⟨xs, by rw [upd_ne nTD]; exact hD', by rw [hxl]; exact Nat.lt_of_le_of_lt (show i ≤ 1000 by omega) (by decide), fun b o q => ?_, xs ++ [.ref T2], upd_same, ?_⟩
        · rw [upd_ne (ne_of_none q hD)]
          exact sT _ _ (s' _ _ q)
        · rw [List.take_succ, List.getElem?_eq_getElem hi, List.map_append]
          show PrL _ (xs ++ [.ref T2]) (_ ++ [(ws[i], val t ws[i])])
          rw [ev]
          refine PrL.snoc (hP'.mono fun c a b e => ?_) (by rw [upd_ne nTD.symm]; exact upd_same)
          have cD : c ≠ D := by
            rintro rfl
            rw [hD'] at e
            cases e
          rw [upd_ne cD]
          exact sT _ _ e
    · rintro H' ⟨s', xs, hD', hP'⟩
      rw [List.length_map, List.take_length] at hP'
      exact k D H' xs _ (s1.free hD) (s1.trans s') hD' hP' (hh.told ha hm) (fun q m => by
        obtain ⟨z, hz, e⟩ := List.mem_map.mp m
        rw [← e]
        exact hw z ((hm z).mp hz)) (by rw [List.length_map]; exact hle)
theorem ok_copy {C f fPa : Addr} {fd fdPa : FuncData} {fI : Addr} (F : Fun K "copy" "Counts.copy" s_Counts_copy f fd) (g : Bi mg) (T : CT P w K mg base C fI) (MPa : MDef P w K mg base CX0 3 C "pairs" ["self"] (spPairsM C) fPa fdPa) : FnOk P w K mg base CX0 4 f fd ["self"] (spCopy C) := by
  refine F.ok sc_Counts_copy (fun vs H Q E h => ?_) (fun cdv A outer s H vs Q E hr h => ?_)
  · obtain ⟨_, _, _, rfl, _⟩ := h
    rfl
  · obtain ⟨p, d, t, rfl, hc, hl, k⟩ := h
    have hrPa : Room 3 _ := hr.mono (by decide)
    have hrI : Room 2 _ := hr.mono (by decide)
    obtain ⟨⟨dx, hp⟩, hd, hh, hw⟩ := id hc
    refine ⟨_, (pss_cons (ps_set (i := 1) sc_Counts_copy.nd rfl (Or.inl rfl) (pe_meth0 (pv 0) T.cl MPa.me MPa.ok hrPa MPa.b .nil pass0))
      (pss_one (ps_ret (pe_mkS T.mke T.ini hrI rfl T.mgC pass0 (pv 1))))), ?_⟩
    refine ⟨_, rfl, p, dx, _, rfl, hp, rfl, p, d, t, rfl, hc, hl, fun q H1 xs l hq s1 h1 hP ht hwl hle => ?_⟩
    refine ⟨_, rfl, q, xs, rfl, .inr (SqL.of h1), fun x dx2 hx hdx ne => ?_⟩
    have s2 : Same H1 (upd (upd H1 dx2 (.own x)) x (.ins C dx2 [])) := fun b o e => by rw [upd_ne (ne_of_none e hx), upd_ne (ne_of_none e hdx)]; exact e
    refine ⟨x, dx2, xs, l, rfl, upd_same, hP.mono (fun c a b e => s2 _ _ e), by omega, hwl, fun e H' he hC kp => ⟨rfl, ?_⟩⟩
    have s3 : Same H1 H' := fun b o e => kp b o (s2 _ _ e) (ne_of_none e hx)
    refine k x e H' _ (s1.free hx) (s1.free (s2.free he)) (s1.trans s3) hC (fun z => ?_) (Nat.le_trans (noZero_len _) (Nat.le_trans (addUp_len l) hle))
    rw [noZero_val (addUp_nd l), addUp_val, sumOf_told ht]
end
end Cs

set_option Elab.async false
set_option linter.all false
set_option maxRecDepth 100000
set_option maxHeartbeats 4000000
/-! Counts: of, only, total, len, the store of one word. -/
namespace Cs
open PySem L2
def spOf (K : PySem.W.Frag) (C : Addr) : Sp := fun vs H Q _ => ∃ (a : Addr) (xs : List V) (ps : List (Str × Int)), vs = [.ref C, .ref a] ∧ H a = some (.lst xs) ∧ PrL H xs ps ∧ GoodPs ps ∧ ps.length ≤ 1000 ∧ NewC C H Q (sumOf ps) ps.length
def spTotal (C : Addr) : Sp := fun vs H Q _ => ∃ (p d : Addr) (t : Tab), vs = [.ref p] ∧ Cnt C H p d t ∧ t.length ≤ 1000 ∧ ∀ H', Same H H' → Q (.int (t.map (·.2)).sum) H'
def spLen (C : Addr) : Sp := fun vs H Q _ => ∃ (p d : Addr) (t : Tab), vs = [.ref p] ∧ Cnt C H p d t ∧ Q (.int t.length) H
def spSet (C : Addr) : Sp := fun vs H Q _ => ∃ (p d : Addr) (t : Tab) (z : Str) (n : Int), vs = [.ref p, .str z, .int n] ∧ Word z ∧ Small n ∧ Cnt C H p d t ∧ t.length ≤ 1000 ∧
  ∀ (u : Tab) (H' : Hp), Cnt C H' p d u → (∀ y, val u y = if y = z then n else val t y) → u.length ≤ t.length + 1 → (∀ b o, H b = some o → b ≠ d → H' b = some o) → Q .non H'
def spOnlyB (C : Addr) : Sp := fun vs H Q _ => ∃ (p d wt : Addr) (t : Tab) (zs : List Str), vs = [.ref p, .ref wt] ∧ H wt = some (.tup (zs.map V.str)) ∧ Cnt C H p d t ∧ t.length ≤ 1000 ∧ NewC C H Q (fun z => if z ∈ zs then val t z else 0) t.length
def spOnly (C : Addr) : Sp := fun vs H Q _ => ∃ (p d : Addr) (t : Tab) (zs : List Str), vs = .ref p :: zs.map V.str ∧ zs.length ≤ 1000 ∧ Cnt C H p d t ∧ t.length ≤ 1000 ∧ NewC C H Q (fun z => if z ∈ zs then val t z else 0) t.length
theorem inV_str (z : Str) (zs : List Str) : inV (.str z) (zs.map V.str) = decide (z ∈ zs) := by
  unfold inV
  rw [List.any_map, Bool.eq_iff_iff, List.any_eq_true, decide_eq_true_eq]
  constructor
  · rintro ⟨y, m, e⟩
    have e : (y == z) = true := e
    rw [← eq_of_beq e]
    exact m
  · intro m
    exact ⟨z, m, beq_self_eq_true z⟩
theorem flat_strs (zs : List Str) : (zs.map V.str).all flatV = true := by
  rw [List.all_map, List.all_eq_true]
  intro z _
  rfl
theorem sumOf_filter (l : Tab) (zs : List Str) (z : Str) : sumOf (l.filter fun q => decide (q.1 ∈ zs)) z = if z ∈ zs then sumOf l z else 0 := by
  unfold sumOf
  rw [List.filter_filter]
  by_cases h : z ∈ zs
  · rw [if_pos h]
    congr 2
    apply List.filter_congr
    intro q _
    by_cases e : q.1 = z
    · simp [e, h]
    · simp [e]
  · rw [if_neg h, List.filter_eq_nil_iff.mpr]
    · rfl
    · intro q _ k
      rw [Bool.and_eq_true, decide_eq_true_eq, decide_eq_true_eq] at k
      exact h (k.1 ▸ k.2)
theorem held_put {t : Tab} (h : Held t) {z : Str} {n : Int} (hn : n ≠ 0) : Held (put t z n) := ⟨nd_put h.nd, fun q m => by
  rcases mem_put (y := q.1) (m := q.2) m with ⟨_, e⟩ | ⟨_, e⟩
  · rw [e]
    exact hn
  · exact h.nz _ e⟩
theorem held_drop {t : Tab} (h : Held t) {z : Str} : Held (drop t z) := ⟨nd_drop h.nd, fun q m => h.nz q (List.mem_filter.mp m).1⟩
section
variable {P : Program} {w : World} {K : PySem.W.Frag} {mg : Str → Option Value} {base : Heap}
theorem made {C : Addr} {H : Hp} {x dx : Addr} (hx : H x = none) (hd : H dx = none) : Same H (upd (upd H dx (.own x)) x (.ins C dx [])) := fun b o e => by
  rw [upd_ne (ne_of_none e hx), upd_ne (ne_of_none e hd)]
  exact e
/-- Counts(*pairs) at hand: the pairs stand as a list or tuple -/
theorem mk_pairs {C : Addr} {H1 : Hp} {xs : List V} {l : Tab} {Q : VK} {n : Nat} {G : Str → Int} (hP : PrL H1 xs l) (hw : WdP l) (hl : l.length ≤ 1000) (hn : l.length ≤ n) (hG : ∀ z, sumOf l z = G z) (k : NewC C H1 Q G n) {E : XK} :
    ∀ x dx, H1 x = none → H1 dx = none → dx ≠ x → spInit C (V.ref x :: xs) (upd (upd H1 dx (.own x)) x (.ins C dx [])) (fun v H2 => v = .non ∧ Q (.ref x) H2) E := by
  intro x dx hx hdx ne
  have s2 := made (C := C) hx hdx
  refine ⟨x, dx, xs, l, rfl, upd_same, hP.mono (fun c a b e => s2 _ _ e), hl, hw, fun e H' he hC kp => ⟨rfl, ?_⟩⟩
  have s3 : Same H1 H' := fun b o e => kp b o (s2 _ _ e) (ne_of_none e hx)
  refine k x e H' _ hx (s2.free he) s3 hC (fun z => ?_) (Nat.le_trans (noZero_len _) (Nat.le_trans (addUp_len l) hn))
  rw [noZero_val (addUp_nd l), addUp_val, hG]
theorem NewC.later {C : Addr} {H H1 : Hp} {Q : VK} {G : Str → Int} {n : Nat} (s : Same H H1) (k : NewC C H Q G n) : NewC C H1 Q G n := fun r e H' u hr he s' hc hv hl => k r e H' u (s.free hr) (s.free he) (s.trans s') hc hv hl
theorem ok_of {C f fIp : Addr} {fd fdIp : FuncData} {fI : Addr} (F : Fun K "of" "Counts.of" s_Counts_of f fd) (g : Bi mg) (T : CT P w K mg base C fI) (FIp : Def P w K mg base CX0 3 "is_pair" ["thing"] (spIsPair K) fIp fdIp) : FnOk P w K mg base CX0 4 f fd ["cls", "pairs"] (spOf K C) := by
  obtain ⟨GIp, mIp, _, bIp⟩ := id FIp
  refine F.ok sc_Counts_of (fun vs H Q E h => ?_) (fun cdv A outer s H vs Q E hr h => ?_)
  · obtain ⟨_, _, _, rfl, _⟩ := h
    rfl
  · obtain ⟨a, xs, ps, rfl, ha, hP, hG, hl, k⟩ := h
    have hrIp : Room 3 _ := hr.mono (by decide)
    have hrI : Room 2 _ := hr.mono (by decide)
    refine ⟨_, (pss_cons (ps_if (pt_not (pt_val (pe_callB call_isiT (by rfl) g.isinstance (by decide +kernel) (pa_cons (pv 1) (pa_cons (pe_tup (pa_cons (pe_bltn (v := .ty "list") (by rfl) g.list (by decide +kernel) rfl) (pa_cons (pe_bltn (v := .ty "tuple") (by rfl) g.tuple (by decide +kernel) rfl) pa_nil))) pa_nil))))) (pss_one ps_never) pss_nil)
      (pss_cons (ps_for PassesOwn.never rfl (pi_enum (by rfl) g.enumerate (pa_cons (pv 1) pa_nil)) (pg_tup rfl (pgs_cons (pg_name (i := 2) sc_Counts_of.nd rfl (Or.inl rfl)) (pgs_cons (pg_name (i := 3) sc_Counts_of.nd rfl (Or.inl rfl)) pgs_nil))) (pss_one (ps_if (pt_not (pt_val (pe_call GIp hrIp rfl mIp FIp.kp bIp .nil pass0 (pa_cons (pv 3) pa_nil)))) (pss_one ps_never) pss_nil)))
      (pss_one (ps_ret (pe_mkSL (i := 0) T.mke T.ini hrI rfl (Or.inl rfl) pass0 (pv 1)))))), ?_⟩
    refine ⟨_, rfl, by show 2 ≤ sizeLine; decide, fun tp htp => ?_⟩
    have s1 : Same H (upd H tp (.tup [.ty "list", .ty "tuple"])) := Same.new htp
    refine ⟨_, tp, _, _, _, true, rfl, upd_same, .cons (.ty "list") (.cons (.ty "tuple") .nil), .base (.lst (s1 _ _ ha)), kitAny_cons (b := true) (kit_ty (b := "list") (by decide +kernel)) (fun h => by cases h) (fun _ => rfl), _, rfl, iteF ?_⟩
    refine ⟨_, rfl, a, xs, rfl, SqL.of (s1 _ _ ha), ?_⟩
    refine for_it (walk_enum (xs := xs)) (fun i σ' H' => ∃ x2 x3 : Option V, σ' = [some (.ref C), some (.ref a), x2, x3] ∧ Same H H') ⟨_, _, rfl, s1⟩ (fun i σ' H' _ ⟨_, _, _, h⟩ => SqL.of (h _ _ ha)) ?_ ?_
    · rintro i v σ' H' H2 hi ⟨x2, x3, rfl, s'⟩ ⟨T2, x, y, rfl, hT2, rfl, ex, ey⟩
      obtain rfl : V.int (i : Nat) = x := Option.some.inj ex
      have hi2 : i < ps.length := by rw [← hP.length]; exact hi
      obtain ⟨t, et, ht⟩ := hP.at (List.getElem?_eq_getElem hi2)
      dsimp only at ey
      rw [et] at ey
      obtain rfl := Option.some.inj ey
      have sT : Same H' (upd H' T2 (.tup [.int (i : Nat), .ref t])) := Same.new hT2
      refine ⟨T2, _, rfl, SqT.of upd_same, rfl, _, _, rfl, _, _, rfl, rfl, ?_⟩
      refine ⟨_, rfl, t, _, _, rfl, sT _ _ (s' _ _ ht), (hG _ (List.getElem_mem hi2)).1, (hG _ (List.getElem_mem hi2)).2, fun H3 s3 => ⟨_, rfl, iteF ?_⟩⟩
      exact ⟨_, _, rfl, (s'.trans sT).trans s3⟩
    · rintro σ' H' ⟨x2, x3, rfl, s'⟩
      exact ⟨rfl, _, rfl, a, xs, rfl, .inr (SqL.of (s' _ _ ha)), mk_pairs (hP.mono fun c a b e => s' _ _ e) (fun q m => (hG q m).1) hl (Nat.le_refl _) (fun z => rfl) (k.later s')⟩
theorem ok_total {C f : Addr} {fd : FuncData} {fI : Addr} (F : Fun K "total" "Counts.total" s_Counts_total f fd) (g : Bi mg) (T : CT P w K mg base C fI) : FnOk P w K mg base CX0 1 f fd ["self"] (spTotal C) := by
  refine F.ok sc_Counts_total (fun vs H Q E h => ?_) (fun cdv A outer s H vs Q E hr h => ?_)
  · obtain ⟨_, _, _, rfl, _⟩ := h
    rfl
  · obtain ⟨p, d, t, rfl, hc, hl, k⟩ := h
    obtain ⟨⟨dx, hp⟩, hd, hh, hw⟩ := id hc
    refine ⟨_, (pss_one (ps_ret (pe_callB (cr_sum rfl) (by rfl) g.sum (by decide +kernel) (pa_cons (pe_lock (pe_lc (own := [("number", 1)]) (g := gName 1)  (by rfl) sc_Counts_total.nd (pi_values (pe_fld (pv 0) rfl)) (blkOk_by (own := [("number", 1)]) (N := ["self", "number"]) (sc := defScope s_Counts_total) (by decide +kernel)) (fun _ _ _ _ _ => (pg_name (i := 1) sc_Counts_total.nd rfl (Or.inl rfl))) (fun _ _ _ _ _ => pts_nil) (fun _ _ _ _ _ => (pe_callTy call_int1 (by rfl) g.int (by decide +kernel) (pa_cons (pv 1) pa_nil))))) pa_nil)))), ?_⟩
    have npd : p ≠ d := ne_of hp hd (by intro z; cases z)
    refine ⟨d, _, hd, trivial, fun od => ?_⟩
    refine ⟨_, rfl, p, C, dx, _, _, rfl, (by rw [upd_ne npd]; exact hp), T.cl, T.nH, flds_held d, d, od, _, rfl, upd_same, fun D hD => ?_⟩
    have nDd : D ≠ d := (ne_of_none upd_same hD).symm
    have hDH : H D = none := by rw [upd_ne nDd] at hD; exact hD
    refine lc_it walk_values (fun i H' => (∀ b o, H b = some o → b ≠ d → H' b = some o) ∧ H' d = some (.frz od (.dK (tv t))) ∧ H' D = some (.lst ((t.take i).map fun q => V.int q.2))) ⟨fun b o e n => by rw [upd_ne (ne_of_none e hDH), upd_ne n]; exact e, by rw [upd_ne nDd.symm]; exact upd_same, upd_same⟩ (fun i H' _ h => h.2.1) ?_ ?_
    · rintro i v H' H2 hi ⟨k1, k2, k3⟩ ⟨rfl, kk, hv⟩
      rw [tv_len] at hi
      have hi2 : (tv t)[i]? = some (Sum.inr t[i].1, V.int t[i].2) := by
        unfold tv
        rw [List.getElem?_map, List.getElem?_eq_getElem hi]
        rfl
      rw [hi2] at hv
      obtain rfl : V.int t[i].2 = v := congrArg Prod.snd (Option.some.inj hv)
      refine ⟨rfl, yes_it ?_⟩
      refine ⟨_, rfl, Or.inl ⟨_, rfl, _, k3, ?_, fun b o e n => ?_, ?_, ?_⟩⟩
      · rw [List.length_map, List.length_take]
        exact Nat.lt_of_le_of_lt (show min i t.length ≤ 1000 by omega) (by decide)
      · rw [upd_ne (ne_of_none e hDH)]
        exact k1 b o e n
      · rw [upd_ne nDd.symm]
        exact k2
      · rw [upd_same, List.take_succ, List.getElem?_eq_getElem hi, List.map_append]
        rfl
    · rintro H' ⟨k1, k2, k3⟩
      rw [tv_len, List.take_length] at k3
      refine ⟨k2, D, t.map (·.2), rfl, SqL.of ?_, k _ fun b o e => ?_⟩
      · rw [upd_ne nDd, k3, List.map_map]
        rfl
      · by_cases n : b = d
        · subst n
          rw [upd_same, ← e, hd]
        · rw [upd_ne n]
          exact k1 b o e n
theorem ok_len {C f : Addr} {fd : FuncData} {fI : Addr} (F : Fun K "__len__" "Counts.__len__" s_Counts_len f fd) (g : Bi mg) (T : CT P w K mg base C fI) : FnOk P w K mg base CX0 1 f fd ["self"] (spLen C) := by
  refine F.ok sc_Counts_len (fun vs H Q E h => ?_) (fun cdv A outer s H vs Q E hr h => ?_)
  · obtain ⟨_, _, _, rfl, _⟩ := h
    rfl
  · obtain ⟨p, d, t, rfl, hc, k⟩ := h
    obtain ⟨⟨dx, hp⟩, hd, hh, hw⟩ := id hc
    refine ⟨_, (pss_one (ps_ret (pe_callB call_lenD (by rfl) g.len PySem.boot_len (pa_cons (pe_fld (pv 0) rfl) pa_nil)))), ?_⟩
    refine ⟨_, rfl, p, C, dx, _, _, rfl, hp, T.cl, T.nH, flds_held d, d, _, rfl, hd, ?_⟩
    rw [tv_len]
    exact k
theorem ok_set {C f fIw fIs : Addr} {fd fdIw fdIs : FuncData} {fI : Addr} (F : Fun K "__setitem__" "Counts.__setitem__" s_Counts_setitem f fd) (g : Bi mg) (T : CT P w K mg base C fI) (FIw : Def P w K mg base CX0 1 "is_word" ["thing"] (spIsWord K) fIw fdIw) (FIs : Def P w K mg base CX0 2 "is_small" ["thing"] (spIsSmall K) fIs fdIs) :
    FnOk P w K mg base CX0 3 f fd ["self", "word", "number"] (spSet C) := by
  obtain ⟨GIw, mIw, _, bIw⟩ := id FIw
  obtain ⟨GIs, mIs, _, bIs⟩ := id FIs
  refine F.ok sc_Counts_setitem (fun vs H Q E h => ?_) (fun cdv A outer s H vs Q E hr h => ?_)
  · obtain ⟨_, _, _, _, _, rfl, _⟩ := h
    rfl
  · obtain ⟨p, d, t, z, n, rfl, hz, hn, hc, hl, k⟩ := h
    have hrIw : Room 1 _ := hr.mono (by decide)
    have hrIs : Room 2 _ := hr.mono (by decide)
    have hu := hu_of hr
    refine ⟨_, (pss_cons (ps_if (pt_not (pt_val (pe_call GIw hrIw rfl mIw FIw.kp bIw .nil pass0 (pa_cons (pv 1) pa_nil)))) (pss_one ps_never) pss_nil)
      (pss_cons (ps_if (pt_not (pt_val (pe_call GIs hrIs rfl mIs FIs.kp bIs .nil pass0 (pa_cons (pv 2) pa_nil)))) (pss_one ps_never) pss_nil)
      (pss_one (ps_if (pt_cmpR op_ne (pv 2) pe_int (nomark _)) (pss_one (ps_dput hu (pe_fld (pv 0) rfl) (pv 1) (pv 2) rfl)) (pss_one (ps_if (pt_cmp (pc_din hu (pv 1) (pe_fld (pv 0) rfl))) (pss_one (ps_ddel (pe_fld (pv 0) rfl) (pv 1))) pss_nil)))))), ?_⟩
    refine ⟨_, rfl, .inl ⟨z, rfl, Nat.le_trans hz.2.1 (by decide), fun H1 s1 => ?_⟩⟩
    rw [wordB_of hz]
    refine ⟨_, rfl, iteF ?_⟩
    refine ⟨_, rfl, .inl ⟨n, rfl, ?_⟩⟩
    rw [decide_eq_true hn.1, decide_eq_true hn.2]
    refine ⟨_, rfl, iteF ?_⟩
    obtain ⟨⟨dx, hp⟩, hd, hh, hw⟩ := id (hc.same s1)
    have npd : p ≠ d := ne_of hp hd (by intro z; cases z)
    refine ⟨_, rfl, rfl, _, rfl, ?_⟩
    by_cases e : n = 0
    · rw [decide_eq_true (show V.int n = V.int 0 by rw [e])]
      refine iteF ?_
      refine ⟨_, rfl, _, rfl, p, C, dx, _, _, rfl, hp, T.cl, T.nH, flds_held d, d, _, rfl, DGet.k (k := Sum.inr z) hd, _, rfl, ?_⟩
      rw [tv_val]
      cases q : look t z with
      | none =>
        refine iteF ?_
        refine k t H1 (hc.same s1) (fun y => ?_) (Nat.le_succ _) fun b o e _ => s1 b o e
        by_cases ey : y = z
        · rw [if_pos ey, ey, e]
          unfold val
          rw [q]
          rfl
        · rw [if_neg ey]
      | some v =>
        refine iteT ?_
        refine ⟨_, rfl, p, C, dx, _, _, rfl, hp, T.cl, T.nH, flds_held d, _, rfl, d, _, Sum.inr z, rfl, hd, rfl, (by rw [tv_val, q]; rfl), ?_⟩
        rw [tv_drop]
        refine k (drop t z) _ ⟨⟨dx, by rw [upd_ne npd]; exact hp⟩, upd_same, held_drop hh, fun y m => hw y (by rw [keys_drop] at m; exact (List.mem_filter.mp m).1)⟩ (fun y => by rw [val_drop hh.nd, e]) (Nat.le_trans (List.length_filter_le _ _) (Nat.le_succ _)) fun b o e n => ?_
        rw [upd_ne n]
        exact s1 b o e
    · rw [decide_eq_false (show ¬ V.int n = V.int 0 from fun q => e (V.int.inj q))]
      refine iteT ?_
      refine ⟨_, rfl, _, rfl, p, C, dx, _, _, rfl, hp, T.cl, T.nH, flds_held d, _, rfl, d, _, rfl, DPut.k (k := Sum.inr z) hd (by rw [tv_len]; exact Nat.lt_of_le_of_lt hl (by decide)), ?_⟩
      rw [tv_put]
      refine k (put t z n) _ ⟨⟨dx, by rw [upd_ne npd]; exact hp⟩, upd_same, held_put hh e, fun y m => (mem_keys_put.mp m).elim (hw y) (fun q => q ▸ hz)⟩ (fun y => val_put hh.nd) (len_put _ _ _) fun b o e n => ?_
      rw [upd_ne n]
      exact s1 b o e
theorem only_body {C f fPa : Addr} {fdPa : FuncData} {fI : Addr} {cdv : Value} {A : Around} {outer : List Env} {s : Shared} {H : Hp} {vs : List V} {Q : VK} {E : XK} (g : Bi mg) (T : CT P w K mg base C fI) (MPa : MDef P w K mg base CX0 3 C "pairs" ["self"] (spPairsM C) fPa fdPa)
    (hr : Room 3 (A.deeper (PyProof.Rows.envOfC "Counts.only" (defScope s_Counts_only) s.heap.objs.size f cdv))) (h : spOnlyB C vs H Q E) :
    ∃ t, PSs (cxOf CX0 P w K mg base ["self", "words", "pairs", "pair"] "Counts.only" (defScope s_Counts_only) f cdv A outer s H E).nox (defBody s_Counts_only) t ∧ t { nx := fun _ H' => Q .non H', rt := Q } (L2.start ["self", "words", "pairs", "pair"] vs) H := by
  obtain ⟨p, d, wt, t, zs, rfl, hwt, hc, hl, k⟩ := h
  have hrPa : Room 3 _ := hr
  have hrI : Room 2 _ := hr.mono (by decide)
  obtain ⟨⟨dx, hp⟩, hd, hh, hw⟩ := id hc
  refine ⟨_, (pss_cons (ps_setLc (i := 2) (own := [("pair", 3)]) (g := gName 3) (tt := (tTest (tOp (rIn K false) (tOp (rIxT K) _ _) _)))  (by rfl) sc_Counts_only.nd rfl rfl (sw_true rfl rfl rfl (by decide +kernel)) (pi_list (pe_meth0 (pv 0) T.cl MPa.me MPa.ok hrPa MPa.b .nil pass0)) (blkOk_by (own := [("pair", 3)]) (N := ["self", "words", "pairs", "pair"]) (sc := defScope s_Counts_only) (by decide +kernel)) (fun _ _ _ _ _ => (pg_name (i := 3) sc_Counts_only.nd rfl (Or.inl rfl))) (fun _ _ _ _ _ => (pts_one (pt_cmpR op_in_seq (pe_ix ix_tup (pv 3) pe_int (fun _ _ => rfl)) (pv 1) (by rfl)))) (fun _ _ _ _ _ => (pv 3)))
      (pss_one (ps_ret (pe_mkS T.mke T.ini hrI rfl T.mgC pass0 (pv 2))))), ?_⟩
  refine ⟨_, rfl, p, dx, _, rfl, hp, rfl, p, d, t, rfl, hc, hl, fun q H1 xs l hq s1 h1 hP ht hwl hle => ⟨q, rfl, ⟨_, SqL.of h1⟩, fun D hD => ?_⟩⟩
  refine lc_it (walk_list (xs := xs)) (fun i H' => Same H1 H' ∧ ∃ ys, H' D = some (.lst ys) ∧ PrL H' ys ((l.take i).filter fun q => decide (q.1 ∈ zs))) ⟨Same.new hD, [], upd_same, .nil⟩ (fun i H' _ h => SqL.of (h.1 _ _ h1)) ?_ ?_
  · rintro i x H' H2 hi ⟨s', ys, hD', hP'⟩ ⟨rfl, hx⟩
    have hi2 : i < l.length := by rw [← hP.length]; exact hi
    obtain ⟨t2, et, ht2⟩ := hP.at (List.getElem?_eq_getElem hi2)
    rw [et] at hx
    obtain rfl := Option.some.inj hx
    have ht3 := s' _ _ ht2
    refine ⟨rfl, _, rfl, t2, _, 0, _, rfl, rfl, SqT.of ht3, rfl, _, rfl, wt, _, rfl, .inr (SqT.of (s' _ _ (s1 _ _ hwt))), rfl, flat_strs zs, _, rfl, ?_⟩
    show if inV (.str l[i].1) (zs.map V.str) = true then _ else _
    rw [inV_str]
    have ef : (l.take (i + 1)).filter (fun q => decide (q.1 ∈ zs)) = (l.take i).filter (fun q => decide (q.1 ∈ zs)) ++ (if l[i].1 ∈ zs then [l[i]] else []) := by
      rw [List.take_succ, List.getElem?_eq_getElem hi2, List.filter_append]
      congr 1
      show List.filter _ [l[i]] = _
      rw [List.filter_cons]
      by_cases c : l[i].1 ∈ zs
      · rw [if_pos (decide_eq_true c), if_pos c]
        rfl
      · rw [if_neg (by simpa using c), if_neg c]
        rfl
    by_cases c : l[i].1 ∈ zs
    · rw [decide_eq_true c]
      rw [if_pos c] at ef
      refine iteT ?_
      have hyl : ys.length ≤ i := by
        rw [hP'.length]
        refine Nat.le_trans (List.length_filter_le _ _) ?_
        rw [List.length_take]
        omega
      refine ⟨_, rfl, ys, hD', Nat.lt_of_le_of_lt (show ys.length ≤ 1000 by omega) (by decide), fun b o e => ?_, ys ++ [.ref t2], upd_same, ?_⟩
      · rw [upd_ne (ne_of_none e hD)]
        exact s' _ _ e
      · rw [ef]
        have kD : ∀ c a b, H2 c = some (.tup [.str a, .int b]) → (upd H2 D (.lst (ys ++ [.ref t2]))) c = some (.tup [.str a, .int b]) := fun c a b e => by
          have cD : c ≠ D := by
            rintro rfl
            rw [hD'] at e
            cases e
          rw [upd_ne cD]
          exact e
        exact PrL.snoc (hP'.mono kD) (kD _ _ _ ht3)
    · rw [decide_eq_false c]
      rw [if_neg c, List.append_nil] at ef
      refine iteF ?_
      refine ⟨s', ys, hD', ?_⟩
      rw [ef]
      exact hP'
  · rintro H' ⟨s', ys, hD', hP'⟩
    rw [hP.length, List.take_length] at hP'
    refine ⟨_, rfl, D, ys, rfl, .inr (SqL.of hD'), ?_⟩
    have hle2 : (l.filter fun q => decide (q.1 ∈ zs)).length ≤ l.length := List.length_filter_le _ _
    refine mk_pairs hP' (fun q m => hwl q (List.mem_filter.mp m).1) (by omega) (by omega) (fun z => ?_) (k.later (s1.trans s'))
    rw [sumOf_filter, sumOf_told ht]
theorem ok_only {C f fPa : Addr} {fdPa : FuncData} {fI : Addr} {oc od kV doc pm an cdv ct osl} (g : Bi mg) (T : CT P w K mg base C fI) (MPa : MDef P w K mg base CX0 3 C "pairs" ["self"] (spPairsM C) fPa fdPa)
    (lk : K.lookup f = some ⟨oc, od, .func (PySem.W.fnOf "only" "Counts.only" (defArgs s_Counts_only) (defBody s_Counts_only) (defScope s_Counts_only) .none kV doc pm an cdv ct), osl⟩) (hcd : PySem.W.codeIn K cdv "Counts.only" = true) :
    FnR P w K mg base CX0 4 f (spOnly C) := by
  have G := StX.fn_star (P := P) (w := w) (mg := mg) (base := base) (CX := CX0) (k := 3) (ps := ["self"]) (pv := "words") (sp := spOnlyB C) lk hcd sc_Counts_only StX.cxUp_none
    (fun us rest hl => match us, rest, hl with | [a], [], _ => rfl | [a], r :: rs, _ => rfl)
    (fun A outer s H vs Q E hr h => by
      obtain ⟨t, a, b⟩ := only_body (P := P) (w := w) (mg := mg) (base := base) (outer := outer) (s := s) g T MPa hr h
      exact ⟨t, a.nox, b⟩)
  refine G.imp fun vs H Q E h => ?_
  obtain ⟨p, d, t, zs, rfl, hz, hc, hl, k⟩ := h
  refine ⟨[.ref p], zs.map V.str, rfl, rfl, by rw [List.length_map]; exact Nat.le_trans hz (by decide), fun q hq => ?_⟩
  have s1 : Same H (upd H q (.tup (zs.map V.str))) := Same.new hq
  exact ⟨p, d, q, t, zs, rfl, upd_same, hc.same s1, hl, k.later s1⟩
end
end Cs

set_option Elab.async false
set_option linter.all false
set_option maxRecDepth 100000
set_option maxHeartbeats 4000000
/-! The laws' common helpers: the model, what is told of it, whether counts are equal to it. -/
namespace Cs
open PySem L2
/-- a model at m: a dict of words and integers -/
structure Mdl (H : Hp) (m : Addr) (u : Tab) : Prop where
  dc : H m = some (.dK (tv u))
  nd : (keys u).Nodup
  wd : ∀ z ∈ keys u, Word z
theorem Mdl.same {H H' : Hp} {m : Addr} {u : Tab} (s : Same H H') (h : Mdl H m u) : Mdl H' m u := ⟨s _ _ h.dc, h.nd, h.wd⟩
def spModel : Sp := fun vs H Q _ => ∃ (a : Addr) (xs : List V) (ps : List (Str × Int)), vs = [.ref a] ∧ H a = some (.lst xs) ∧ PrL H xs ps ∧ WdP ps ∧ ps.length ≤ 1000 ∧
  ∀ (m : Addr) (H' : Hp), H m = none → Same H H' → Mdl H' m (addUp ps) → Q (.ref m) H'
def spTold : Sp := fun vs H Q _ => ∃ (m : Addr) (u : Tab), vs = [.ref m] ∧ Mdl H m u ∧ u.length < 64 ∧
  ∀ (q : Addr) (H' : Hp) (xs : List V) (l : Tab), H q = none → Same H H' → H' q = some (.lst xs) → PrL H' xs l → Told (val u) l → WdP l → l.length ≤ u.length → Q (.ref q) H'
def spEqual (C : Addr) : Sp := fun vs H Q _ => ∃ (p d m : Addr) (t u : Tab), vs = [.ref p, .ref m] ∧ Cnt C H p d t ∧ t.length ≤ 1000 ∧ Mdl H m u ∧ u.length < 64 ∧ (∀ z, val t z = val u z) ∧ ∀ H', Same H H' → Q (.bl true) H'
/-- pairs as data -/
def pd (l : Tab) : PyData := .list (l.map fun q => .tuple [.str q.1, .int q.2])
theorem word_ok {z : Str} (h : Word z) : PyData.strOk z = true := by
  unfold PyData.strOk
  rw [← Array.all_toList, List.all_eq_true]
  intro c hc
  have h1 := h.2.2 c hc
  have h2 : ∀ c ∈ LET.cps.toList, c < 0x110000 := by decide +kernel
  exact decide_eq_true (h2 c h1)
theorem pd_can : ∀ {l : Tab}, WdP l → PyData.canLayAll0 (l.map fun q => .tuple [.str q.1, .int q.2]) = true
  | [], _ => rfl
  | q :: l, h => by
    rw [List.map_cons, PyData.canLayAll0, pd_can fun r m => h r (List.mem_cons_of_mem _ m)]
    have := word_ok (h q List.mem_cons_self)
    simp [PyData.canLay0, PyData.canLayAll0, this]
theorem pd_depth : ∀ l : Tab, PyData.depthAll (l.map fun q => .tuple [.str q.1, .int q.2]) ≤ 1
  | [] => Nat.zero_le _
  | q :: l => by
    rw [List.map_cons, PyData.depthAll]
    have := pd_depth l
    simp only [PyData.depth, PyData.depthAll]
    omega
theorem pd_shaped {l : Tab} (h : WdP l) : SeqAt.shaped (pd l) = true := by
  unfold SeqAt.shaped pd
  rw [Bool.and_eq_true]
  refine ⟨by rw [PyData.canLay0]; exact pd_can h, decide_eq_true ?_⟩
  rw [PyData.depth]
  have := pd_depth l
  omega
theorem pd_refl {l : Tab} (h : WdP l) : PyData.eqv (pd l) (pd l) = true := SeqAt.eqv_refl _ (SeqAt.canLay_of_shaped (pd_shaped h))
theorem PrL.dp {K : PySem.W.Frag} {H : Hp} : ∀ {xs : List V} {l : Tab}, PrL H xs l → DpAll K H xs (l.map fun q => .tuple [.str q.1, .int q.2])
  | _, _, .nil => .nil
  | _, _, .cons ⟨t, e, ht⟩ r => .cons (by rw [e]; exact .tup (SqT.of ht) (.cons (.str _) (.cons (.int _) .nil))) (PrL.dp r)
section
variable {P : Program} {w : World} {K : PySem.W.Frag} {mg : Str → Option Value} {base : Heap}
theorem ok_model {f : Addr} {fd : FuncData} (F : Fun K "_law_model" "_law_model" s_l_model f fd) (g : Bi mg) : FnOk P w K mg base CX0 1 f fd ["_law_pairs_here"] spModel := by
  refine F.ok sc_l_model (fun vs H Q E h => ?_) (fun cdv A outer s H vs Q E hr h => ?_)
  · obtain ⟨_, _, _, rfl, _⟩ := h
    rfl
  · obtain ⟨a, xs, ps, rfl, ha, hP, hW, hl, k⟩ := h
    have hu := hu_of hr
    refine ⟨_, (pss_cons (ps_set (i := 1) sc_l_model.nd rfl (Or.inl rfl) pe_dnewK)
      (pss_cons (ps_for PassesOwn.never rfl (pi_list (pv 0)) (pg_tup rfl (pgs_cons (pg_name (i := 2) sc_l_model.nd rfl (Or.inl rfl)) (pgs_cons (pg_name (i := 3) sc_l_model.nd rfl (Or.inl rfl)) pgs_nil))) (pss_one (ps_dput hu (pv 1) (pv 2) (pe_op op_add (pe_dget2 hu (pv 1) (pv 2) pe_int ⟨rfl, rfl, rfl, rfl⟩) (pv 3)) rfl)))
      (pss_one (ps_ret (pv 1))))), ?_⟩
    intro e he
    have s1 : Same H (upd H e (.dK [])) := Same.new he
    refine ⟨_, rfl, a, rfl, ⟨_, SqL.of (s1 _ _ ha)⟩, for_list (K := K) (a := a) (xs := xs) (fun i σ' H' => ∃ x2 x3 : Option V, σ' = [some (.ref a), some (.ref e), x2, x3] ∧ Same H H' ∧ H' e = some (.dK (tv (addUp (ps.take i)))))
      ⟨_, _, rfl, s1, upd_same⟩ (fun i σ' H' _ ⟨_, _, _, h, _⟩ => SqL.of (h _ _ ha)) ?_ ?_⟩
    · rintro i y σ' H' hy ⟨x2, x3, rfl, s', he'⟩
      have hi : i < ps.length := by
        have := (List.getElem?_eq_some_iff.mp hy).1
        rw [hP.length] at this
        exact this
      obtain ⟨t, et, ht⟩ := hP.at (List.getElem?_eq_getElem hi)
      rw [et] at hy
      obtain rfl := Option.some.inj hy
      refine ⟨t, _, rfl, SqT.of (s' _ _ ht), rfl, _, _, rfl, _, _, rfl, rfl, ?_⟩
      refine ⟨_, rfl, e, rfl, .inl ⟨_, .inl he'⟩, _, rfl, _, DGet.k (k := Sum.inr ps[i].1) he', _, rfl, val (addUp (ps.take i)) ps[i].1, ps[i].2, (by rw [tv_val]; exact val_getD _ _), rfl, _, rfl, _, rfl, e, _, rfl, DPut.k (k := Sum.inr ps[i].1) he' ?_, ?_⟩
      · rw [tv_len]
        have h1 := addUp_len (ps.take i)
        rw [List.length_take] at h1
        exact Nat.lt_of_le_of_lt (show (addUp (ps.take i)).length ≤ 1000 by omega) (by decide)
      · refine ⟨_, _, rfl, fun b o q => by rw [upd_ne (ne_of_none q he)]; exact s' b o q, ?_⟩
        rw [upd_same, tv_put, List.take_succ, List.getElem?_eq_getElem hi]
        show some (HO.dK (tv (put (addUp (ps.take i)) ps[i].1 (val (addUp (ps.take i)) ps[i].1 + ps[i].2)))) = some (HO.dK (tv (addUp (ps.take i ++ [ps[i]]))))
        rw [addUp_snoc]
    · rintro σ' H' ⟨x2, x3, rfl, s', he'⟩
      rw [hP.length, List.take_length] at he'
      refine ⟨_, rfl, k e H' he s' ⟨he', addUp_nd ps, fun z m => ?_⟩⟩
      obtain ⟨q, hq, eq⟩ := addUp_keys z ps m
      rw [← eq]
      exact hW q hq
theorem ok_told {f : Addr} {fd : FuncData} (F : Fun K "_law_told" "_law_told" s_l_told f fd) (g : Bi mg) : FnOk P w K mg base CX0 1 f fd ["_law_model_here"] spTold := by
  refine F.ok sc_l_told (fun vs H Q E h => ?_) (fun cdv A outer s H vs Q E hr h => ?_)
  · obtain ⟨_, _, rfl, _⟩ := h
    rfl
  · obtain ⟨m, u, rfl, hm, hl, k⟩ := h
    have hu := hu_of hr
    refine ⟨_, (pss_cons (ps_set (i := 1) sc_l_told.nd rfl (Or.inl rfl) (pe_callB cr_sortedS (by rfl) g.sorted (by decide +kernel) (pa_cons (pe_lock (pe_lc (own := [("_law_word_here", 2)]) (g := gName 2)  (by rfl) sc_l_told.nd (pi_keys (pv 0)) (blkOk_by (own := [("_law_word_here", 2)]) (N := ["_law_model_here", "_law_words", "_law_word_here"]) (sc := defScope s_l_told) (by decide +kernel)) (fun _ _ _ _ _ => (pg_name (i := 2) sc_l_told.nd rfl (Or.inl rfl))) (fun _ _ _ _ _ => pts_nil) (fun _ _ _ _ _ => (pe_callTy SkE.call_str_str (by rfl) g.str (by decide +kernel) (pa_cons (pv 2) pa_nil))))) pa_nil)))
      (pss_one (ps_ret (pe_lc (own := [("_law_word_here", 2)]) (g := gName 2)  (by rfl) sc_l_told.nd (pi_list (pv 1)) (blkOk_by (own := [("_law_word_here", 2)]) (N := ["_law_model_here", "_law_words", "_law_word_here"]) (sc := defScope s_l_told) (by decide +kernel)) (fun _ _ _ _ _ => (pg_name (i := 2) sc_l_told.nd rfl (Or.inl rfl))) (fun _ _ _ _ _ => (pts_one (pt_cmpR op_ne (pe_dget hu (pv 0) (pv 2) (fun _ _ => rfl)) pe_int (nomark _)))) (fun _ _ _ _ _ => (pe_tup (pa_cons (pv 2) (pa_cons (pe_dget hu (pv 0) (pv 2) (fun _ _ => rfl)) pa_nil)))))))), ?_⟩
    refine ⟨m, _, hm.dc, trivial, fun od => ?_⟩
    refine ⟨_, rfl, m, od, rfl, .inl ⟨_, upd_same, fun D hD => ?_⟩⟩
    have nDm : D ≠ m := (ne_of_none upd_same hD).symm
    have hDH : H D = none := by rw [upd_ne nDm] at hD; exact hD
    refine lc_it walk_keys (fun i H' => (∀ b o, H b = some o → b ≠ m → H' b = some o) ∧ H' m = some (.frz od (.dK (tv u))) ∧ H' D = some (.lst (((keys u).take i).map V.str))) ⟨fun b o e n => by rw [upd_ne (ne_of_none e hDH), upd_ne n]; exact e, by rw [upd_ne nDm.symm]; exact upd_same, upd_same⟩ (fun i H' _ h => h.2.1) ?_ ?_
    · rintro i v H' H2 hi ⟨k1, k2, k3⟩ ⟨rfl, kk, vv, hv, ev⟩
      rw [tv_len] at hi
      have hi2 : (tv u)[i]? = some (Sum.inr u[i].1, V.int u[i].2) := by
        unfold tv
        rw [List.getElem?_map, List.getElem?_eq_getElem hi]
        rfl
      rw [hi2] at hv
      obtain rfl : Sum.inr u[i].1 = kk := congrArg Prod.fst (Option.some.inj hv)
      obtain rfl : v = V.str u[i].1 := ev
      refine ⟨rfl, yes_it ?_⟩
      refine ⟨_, rfl, _, rfl, _, k3, ?_, fun b o e n => ?_, ?_, ?_⟩
      · rw [List.length_map, List.length_take]
        exact Nat.lt_of_le_of_lt (show min i (keys u).length ≤ 1000 by omega) (by decide)
      · rw [upd_ne (ne_of_none e hDH)]
        exact k1 b o e n
      · rw [upd_ne nDm.symm]
        exact k2
      · have : (keys u)[i]? = some u[i].1 := by
          unfold keys
          rw [List.getElem?_map, List.getElem?_eq_getElem hi]
          rfl
        rw [upd_same, List.take_succ, this, List.map_append]
        rfl
    · rintro H' ⟨k1, k2, k3⟩
      have hkl : (keys u).length = u.length := List.length_map _
      rw [tv_len, ← hkl, List.take_length] at k3
      refine ⟨k2, D, keys u, rfl, SqL.of (by rw [upd_ne nDm]; exact k3), by omega, fun ws q hp hs hq => ?_⟩
      have s1 : Same H (upd H' m (.dK (tv u))) := fun b o e => by
        by_cases n : b = m
        · subst n
          rw [upd_same, ← e, hm.dc]
        · rw [upd_ne n]
          exact k1 b o e n
      generalize upd H' m (.dK (tv u)) = H1 at s1 hq
      have s2 : Same H1 (upd H1 q (.lst (ws.map V.str))) := Same.new hq
      have hqn : H q = none := s1.free hq
      have s3 := s1.trans s2
      have h3 : (upd H1 q (.lst (ws.map V.str))) q = some (.lst (ws.map V.str)) := upd_same
      generalize upd H1 q (.lst (ws.map V.str)) = H3 at s3 h3
      have ha : Asc ws := asc_of_sorted hs (hp.nodup_iff.mpr hm.nd)
      have hmm : ∀ z, z ∈ ws ↔ z ∈ keys u := fun z => hp.mem_iff
      have hwl : ws.length = u.length := by rw [hp.length_eq, hkl]
      have hm3 := hm.same s3
      -- the second comprehension
      refine ⟨_, rfl, q, rfl, ⟨_, SqL.of h3⟩, fun D2 hD2 => ?_⟩
      refine lc_it (walk_list (xs := ws.map V.str)) (fun i H' => Same H3 H' ∧ ∃ xs, H' D2 = some (.lst xs) ∧ PrL H' xs (toldBy u (ws.take i))) ⟨Same.new hD2, [], upd_same, .nil⟩ (fun i H' _ h => SqL.of (h.1 _ _ h3)) ?_ ?_
      · rintro i x H' H2 hi ⟨s', xs, hD', hP'⟩ ⟨rfl, hx⟩
        rw [List.length_map] at hi
        have ex : x = V.str ws[i] := by
          rw [List.getElem?_map, List.getElem?_eq_getElem hi] at hx
          exact (Option.some.inj hx).symm
        subst ex
        obtain ⟨n, en, _⟩ := look_some ((hmm ws[i]).mp (List.getElem_mem hi))
        have ev : val u ws[i] = n := by unfold val; rw [en]; rfl
        have hd' := s' _ _ hm3.dc
        have hg : DGet H2 m (V.str ws[i]) (some (V.int n)) := by
          have := DGet.k (k := Sum.inr ws[i]) hd'
          rw [tv_val, en] at this
          exact this
        have et : toldBy u (ws.take (i + 1)) = toldBy u (ws.take i) ++ (if n ≠ 0 then [(ws[i], n)] else []) := by
          unfold toldBy
          rw [List.take_succ, List.getElem?_eq_getElem hi, List.filter_append, List.map_append]
          congr 1
          show List.map _ (List.filter _ [ws[i]]) = _
          rw [List.filter_cons, ev]
          by_cases c : n ≠ 0
          · rw [if_pos (decide_eq_true c), if_pos c]
            show [(ws[i], val u ws[i])] = _
            rw [ev]
          · rw [if_neg (by simpa using c), if_neg c]
            rfl
        have hxl : xs.length ≤ i := by
          rw [hP'.length]
          unfold toldBy
          rw [List.length_map]
          refine Nat.le_trans (List.length_filter_le _ _) ?_
          rw [List.length_take]
          omega
        refine ⟨rfl, _, rfl, _, rfl, m, _, rfl, hg, rfl, _, rfl, ?_⟩
        by_cases c : n = 0
        · rw [decide_eq_true (show V.int n = V.int 0 by rw [c])]
          rw [if_neg (by simpa using c), List.append_nil] at et
          refine iteF ?_
          rw [et]
          exact ⟨s', xs, hD', hP'⟩
        · rw [decide_eq_false (show ¬ V.int n = V.int 0 from fun q => c (V.int.inj q))]
          rw [if_pos c] at et
          refine iteT ?_
          refine ⟨_, rfl, _, rfl, _, rfl, m, _, rfl, hg, by show 2 ≤ sizeLine; decide, fun T2 hT2 => ?_⟩
          have nTD : D2 ≠ T2 := ne_of_none hD' hT2
          have sT : Same H2 (upd H2 T2 (.tup [.str ws[i], .int n])) := Same.new hT2
          refine ⟨xs, by rw [upd_ne nTD]; exact hD', Nat.lt_of_le_of_lt (show xs.length ≤ 1000 by omega) (by decide), fun b o q => ?_, xs ++ [.ref T2], upd_same, ?_⟩
          · rw [upd_ne (ne_of_none q hD2)]
            exact sT _ _ (s' _ _ q)
          · rw [et]
            refine PrL.snoc (hP'.mono fun c a b e => ?_) (by rw [upd_ne nTD.symm]; exact upd_same)
            have cD : c ≠ D2 := by
              rintro rfl
              rw [hD'] at e
              cases e
            rw [upd_ne cD]
            exact sT _ _ e
      · rintro H' ⟨s', xs, hD', hP'⟩
        rw [List.length_map, List.take_length] at hP'
        refine k D2 H' xs _ (s3.free hD2) (s3.trans s') hD' hP' (told_of hm.nd ha hmm) (fun r mr => ?_) ?_
        · obtain ⟨z, hz, e⟩ := List.mem_map.mp mr
          rw [← e]
          exact hm.wd z ((hmm z).mp (List.mem_filter.mp hz).1)
        · unfold toldBy
          rw [List.length_map, ← hwl]
          exact List.length_filter_le _ _
theorem ok_lint {f : Addr} {fd : FuncData} (F : Fun K "_law_is_integer" "_law_is_integer" s_l_is_integer f fd) (g : Bi mg) : FnOk P w K mg base CX0 1 f fd ["_law_thing"] (spIsInteger K) := by
  refine F.ok sc_l_is_integer (fun vs H Q E h => ?_) (fun cdv A outer s H vs Q E hr h => ?_)
  · rcases h with ⟨_, rfl, _⟩ | ⟨_, rfl, _⟩ <;> rfl
  · refine ⟨_, (pss_one (ps_ret (pe_and (pe_callB call_isi (by rfl) g.isinstance (by decide +kernel) (pa_cons (pv 0) (pa_cons (pe_bltn (v := .ty "int") (by rfl) g.int (by decide +kernel) rfl) pa_nil))) (pe_one (pe_not (pe_callB call_isi (by rfl) g.isinstance (by decide +kernel) (pa_cons (pv 0) (pa_cons (pe_bltn (v := .ty "bool") (by rfl) g.bool (by decide +kernel) rfl) pa_nil)))))))), ?_⟩
    rcases h with ⟨n, rfl, q⟩ | ⟨x, rfl, ⟨ty, ht, hc⟩, q⟩
    · refine ⟨_, rfl, _, _, _, _, true, rfl, .ty "int", .base (.int n), kit_ty (by decide +kernel), _, rfl, iteT ?_⟩
      exact ⟨_, rfl, _, _, _, _, false, rfl, .ty "bool", .base (.int n), kit_ty (by decide +kernel), _, rfl, q⟩
    · rcases hc with e | e
      · subst e
        refine ⟨_, rfl, _, _, _, _, true, rfl, .ty "int", ht, kit_ty (by decide +kernel), _, rfl, iteT ?_⟩
        exact ⟨_, rfl, _, _, _, _, true, rfl, .ty "bool", ht, kit_ty (by decide +kernel), _, rfl, q⟩
      · exact ⟨_, rfl, _, _, _, _, false, rfl, .ty "int", ht, kit_ty e, _, rfl, iteF q⟩
theorem ok_equal {C f fPa fTo fLi : Addr} {fd fdPa fdTo fdLi : FuncData} {fI : Addr} (F : Fun K "_law_equal" "_law_equal" s_l_equal f fd) (g : Bi mg) (T : CT P w K mg base C fI) (MPa : MDef P w K mg base CX0 3 C "pairs" ["self"] (spPairsM C) fPa fdPa)
    (FTo : Def P w K mg base CX0 1 "_law_told" ["_law_model_here"] spTold fTo fdTo) (FLi : Def P w K mg base CX0 1 "_law_is_integer" ["_law_thing"] (spIsInteger K) fLi fdLi) :
    FnOk P w K mg base CX0 4 f fd ["_law_counts", "_law_model_here"] (spEqual C) := by
  obtain ⟨GTo, mTo, _, bTo⟩ := id FTo
  obtain ⟨GLi, mLi, _, bLi⟩ := id FLi
  refine F.ok sc_l_equal (fun vs H Q E h => ?_) (fun cdv A outer s H vs Q E hr h => ?_)
  · obtain ⟨_, _, _, _, _, rfl, _⟩ := h
    rfl
  · obtain ⟨p, d, m, t, u, rfl, hc, hl, hm, hlu, hv, k⟩ := h
    have hrPa : Room 3 _ := hr.mono (by decide)
    have hrTo : Room 1 _ := hr.mono (by decide)
    have hrLi : Room 1 _ := hr.mono (by decide)
    obtain ⟨⟨dx, hp⟩, hd, hh, hw⟩ := id hc
    refine ⟨_, (pss_cons (ps_set (i := 2) sc_l_equal.nd rfl (Or.inl rfl) (pe_meth0 (pv 0) T.cl MPa.me MPa.ok hrPa MPa.b .nil pass0))
      (pss_cons (ps_if (PW.pt (pw_or (pt_not (pt_val (pe_callB call_isi (by rfl) g.isinstance (by decide +kernel) (pa_cons (pv 2) (pa_cons (pe_bltn (v := .ty "list") (by rfl) g.list (by decide +kernel) rfl) pa_nil))))) (pw_or1 (pt_cmpR (op_neD hr.units) (pv 2) (pe_call GTo hrTo rfl mTo FTo.kp bTo .nil pass0 (pa_cons (pv 1) pa_nil)) (nomark _))))) (pss_one (ps_ret pe_bl)) pss_nil)
      (pss_cons (ps_for PassesOwn.never rfl (pi_list (pv 2)) (pg_name (i := 3) sc_l_equal.nd rfl (Or.inl rfl)) (pss_one (ps_if (PW.pt (pw_or (pt_not (pt_val (pe_callB call_isi (by rfl) g.isinstance (by decide +kernel) (pa_cons (pv 3) (pa_cons (pe_bltn (v := .ty "tuple") (by rfl) g.tuple (by decide +kernel) rfl) pa_nil))))) (pw_or1 (pt_not (pt_val (pe_call GLi hrLi rfl mLi FLi.kp bLi .nil pass0 (pa_cons (pe_ix ix_tup (pv 3) pe_int (fun _ _ => rfl)) pa_nil))))))) (pss_one (ps_ret pe_bl)) pss_nil)))
      (pss_one (ps_ret pe_bl))))), ?_⟩
    refine ⟨_, rfl, p, dx, _, rfl, hp, rfl, p, d, t, rfl, hc, hl, fun q H1 xs l hq s1 h1 hP ht hwl hle => ?_⟩
    refine ⟨_, rfl, _, _, _, _, true, rfl, .ty "list", .base (.lst h1), kit_ty (by decide +kernel), _, rfl, iteF ?_⟩
    refine ⟨_, rfl, _, rfl, m, u, rfl, hm.same s1, hlu, fun q2 H2 xs2 l2 hq2 s2 h2 hP2 ht2 hwl2 hle2 => ?_⟩
    obtain rfl : l = l2 := told_eq ht ht2 hv
    have hP' : PrL H2 xs l := hP.mono fun c a b e => s2 _ _ e
    refine ⟨pd l, pd l, .lst (SqL.of (s2 _ _ h1)) hP'.dp, .lst (SqL.of h2) hP2.dp, pd_shaped hwl, pd_shaped hwl, _, rfl, ?_⟩
    rw [pd_refl hwl]
    refine iteF ?_
    refine ⟨_, rfl, q, rfl, ⟨_, SqL.of (s2 _ _ h1)⟩, for_list (K := K) (a := q) (xs := xs) (fun i σ' H' => ∃ x3 : Option V, σ' = [some (.ref p), some (.ref m), some (.ref q), x3] ∧ Same H2 H') ⟨_, rfl, Same.refl _⟩ (fun i σ' H' _ ⟨_, _, h⟩ => SqL.of (h _ _ (s2 _ _ h1))) ?_ ?_⟩
    · rintro i y σ' H' hy ⟨x3, rfl, s'⟩
      have hi : i < l.length := by
        have := (List.getElem?_eq_some_iff.mp hy).1
        rw [hP.length] at this
        exact this
      obtain ⟨t2, et, ht3⟩ := hP'.at (List.getElem?_eq_getElem hi)
      rw [et] at hy
      obtain rfl := Option.some.inj hy
      have ht4 := s' _ _ ht3
      refine ⟨_, rfl, _, _, _, _, true, rfl, .ty "tuple", .base (.tup ht4), kit_ty (by decide +kernel), _, rfl, iteF ?_⟩
      refine ⟨_, rfl, t2, _, 1, _, rfl, rfl, SqT.of ht4, rfl, .inl ⟨_, rfl, _, rfl, iteF ?_⟩⟩
      exact ⟨_, rfl, s'⟩
    · rintro σ' H' ⟨x3, rfl, s'⟩
      exact k H' ((s1.trans s2).trans s')
end
end Cs

set_option Elab.async false
set_option linter.all false
set_option maxRecDepth 100000
set_option maxHeartbeats 4000000
/-! The law of chosen words: its own helpers. -/
namespace Cs
open PySem L2
/-- an own special method, a property, a classmethod, a def with a star, as callers have them -/
structure SDef (P : Program) (w : World) (K : PySem.W.Frag) (mg : Str → Option Value) (base : Heap) (CX : CXT) (k : Nat) (C : Addr) (m : Str) (ps : List Str) (sp : Sp) (f : Addr) (fd : FuncData) : Prop where
  c : Spc K C m f
  ns : PySem.W.noSeq K C = true
  ok : FnOk P w K mg base CX k f fd ps sp
  b : Binds K fd ps []
structure PDef (P : Program) (w : World) (K : PySem.W.Frag) (mg : Str → Option Value) (base : Heap) (CX : CXT) (k : Nat) (C : Addr) (m : Str) (sp : Sp) (q f : Addr) (fd : FuncData) : Prop where
  p : PropOf K C m q f
  ok : FnOk P w K mg base CX k f fd ["self"] sp
  b : Binds K fd ["self"] []
structure KDef (P : Program) (w : World) (K : PySem.W.Frag) (mg : Str → Option Value) (base : Heap) (CX : CXT) (k : Nat) (C : Addr) (mc : Value) (m : Str) (sp : Sp) (q f : Addr) : Prop where
  r : ClX.CRead K C mc
  c : ClX.CMet K C mc m q f
  ok : FnR P w K mg base CX k f sp
structure RDef (P : Program) (w : World) (K : PySem.W.Frag) (mg : Str → Option Value) (base : Heap) (CX : CXT) (k : Nat) (C : Addr) (m : Str) (sp : Sp) (f : Addr) : Prop where
  me : Meth K C m f
  ok : FnR P w K mg base CX k f sp
def spPicked : Sp := fun vs H Q _ => ∃ (m l : Addr) (u : Tab) (zs : List Str), vs = [.ref m, .ref l] ∧ Mdl H m u ∧ u.length ≤ 1000 ∧ H l = some (.lst (zs.map V.str)) ∧
  ∀ (e : Addr) (H' : Hp) (v : Tab), H e = none → Same H H' → Mdl H' e v → (∀ z, val v z = if z ∈ zs then val u z else 0) → v.length ≤ u.length → Q (.ref e) H'
/-- the table of the words picked so far -/
def pick (u : Tab) (zs : List Str) : Tab := u.filter fun q => decide (q.1 ∈ zs)
theorem pick_keys {u : Tab} {zs : List Str} {z : Str} : z ∈ keys (pick u zs) ↔ z ∈ keys u ∧ z ∈ zs := by
  unfold keys pick
  constructor
  · intro h
    obtain ⟨q, hq, e⟩ := List.mem_map.mp h
    obtain ⟨a, b⟩ := List.mem_filter.mp hq
    subst e
    exact ⟨List.mem_map.mpr ⟨q, a, rfl⟩, of_decide_eq_true b⟩
  · rintro ⟨h, k⟩
    obtain ⟨q, hq, e⟩ := List.mem_map.mp h
    subst e
    exact List.mem_map.mpr ⟨q, List.mem_filter.mpr ⟨hq, decide_eq_true k⟩, rfl⟩
theorem pick_nd {u : Tab} (zs : List Str) (h : (keys u).Nodup) : (keys (pick u zs)).Nodup := by
  unfold keys pick
  exact List.Nodup.sublist ((List.filter_sublist).map _) h
theorem pick_val {u : Tab} (zs : List Str) (h : (keys u).Nodup) (z : Str) : val (pick u zs) z = if z ∈ zs then val u z else 0 := by
  unfold val
  by_cases m : z ∈ keys (pick u zs)
  · obtain ⟨n, a, b⟩ := look_some m
    obtain ⟨c, d⟩ := List.mem_filter.mp b
    rw [a, if_pos (pick_keys.mp m).2, look_mem h c]
  · rw [look_none m]
    by_cases k : z ∈ zs
    · rw [if_pos k, look_none fun q => m (pick_keys.mpr ⟨q, k⟩)]
    · rw [if_neg k]
      rfl
theorem pick_take {u : Tab} (zs : List Str) (nd : (keys u).Nodup) {i : Nat} {q : Str × Int} (h : u[i]? = some q) :
    pick (u.take (i + 1)) zs = if q.1 ∈ zs then put (pick (u.take i) zs) q.1 q.2 else pick (u.take i) zs := by
  have e : u.take (i + 1) = u.take i ++ [q] := by rw [List.take_succ, h]; rfl
  by_cases c : q.1 ∈ zs
  · rw [if_pos c, put_new]
    · unfold pick
      rw [e, List.filter_append, List.filter_cons, if_pos (decide_eq_true c)]
      rfl
    · intro m
      have h1 := (pick_keys.mp m).1
      have h2 : (keys (u.take i ++ [q])).Nodup := by
        rw [← e]
        unfold keys
        rw [List.map_take]
        exact nd.sublist (List.take_sublist _ _)
      unfold keys at h2
      rw [List.map_append, List.nodup_append] at h2
      exact h2.2.2 q.1 h1 q.1 (by simp) rfl
  · rw [if_neg c]
    unfold pick
    rw [e, List.filter_append, List.filter_cons, if_neg (by simpa using c)]
    simp
/-- counts and a model, other counts and another model: the first ones stand apart from the others -/
def spApart (C : Addr) : Sp := fun vs H Q _ => ∃ (p d m p2 d2 m2 : Addr) (t u t2 u2 : Tab), vs = [.ref p, .ref m, .ref p2, .ref m2] ∧ Cnt C H p d t ∧ t.length ≤ 50 ∧ Mdl H m u ∧ u.length ≤ 50 ∧ (∀ z, val t z = val u z) ∧
  Cnt C H p2 d2 t2 ∧ t2.length ≤ 50 ∧ Mdl H m2 u2 ∧ u2.length ≤ 50 ∧ (∀ z, val t2 z = val u2 z) ∧ d ≠ d2 ∧ d ≠ m2 ∧ m ≠ d2 ∧ m ≠ m2 ∧ d2 ≠ m2 ∧ ∀ H', (∀ b o, H b = some o → b ≠ d2 → b ≠ m2 → H' b = some o) → Q (.bl true) H'
theorem nodup_of_map {α β : Type} {f : α → β} {l : List α} (h : (l.map f).Nodup) : l.Nodup := by
  unfold List.Nodup at h ⊢
  rw [List.pairwise_map] at h
  exact h.imp fun n e => n (by rw [e])
theorem told_perm {t l : Tab} (h : Held t) (k : Told (val t) l) : l.Perm t := by
  have n1 : l.Nodup := by
    have := k.asc.nodup
    unfold keys at this
    exact nodup_of_map this
  have n2 : t.Nodup := by
    have := h.nd
    unfold keys at this
    exact nodup_of_map this
  rw [List.perm_ext_iff_of_nodup n1 n2]
  rintro ⟨z, n⟩
  rw [k.mem]
  constructor
  · rintro ⟨e, q⟩
    have hz : z ∈ keys t := (h.keys_iff z).mpr (e ▸ q)
    obtain ⟨n', a, b⟩ := look_some hz
    have : n = n' := by rw [e]; unfold val; rw [a]; rfl
    rw [this]
    exact b
  · intro m
    refine ⟨?_, h.nz _ m⟩
    unfold val
    rw [look_mem h.nd m]
    rfl
theorem sum_perm {l m : List Int} (h : l.Perm m) : l.sum = m.sum := by
  induction h with
  | nil => rfl
  | cons x _ ih => rw [List.sum_cons, List.sum_cons, ih]
  | swap x y l => rw [List.sum_cons, List.sum_cons, List.sum_cons, List.sum_cons]; omega
  | trans _ _ a b => exact a.trans b
theorem total_told {t l : Tab} (h : Held t) (k : Told (val t) l) : (t.map (·.2)).sum = (l.map (·.2)).sum := (sum_perm ((told_perm h k).map _)).symm
theorem Told.congr {f g : Str → Int} {l : Tab} (h : Told f l) (e : ∀ z, f z = g z) : Told g l := by
  obtain rfl : f = g := funext e
  exact h
section
variable {P : Program} {w : World} {K : PySem.W.Frag} {mg : Str → Option Value} {base : Heap}
theorem ok_picked {f : Addr} {fd : FuncData} (F : Fun K "_law_picked" "_law_picked" s_l_picked f fd) (g : Bi mg) : FnOk P w K mg base CX0 1 f fd ["_law_model_here", "_law_words"] spPicked := by
  refine F.ok sc_l_picked (fun vs H Q E h => ?_) (fun cdv A outer s H vs Q E hr h => ?_)
  · obtain ⟨_, _, _, _, rfl, _⟩ := h
    rfl
  · obtain ⟨m, l, u, zs, rfl, hm, hlu, hl, k⟩ := h
    have hu := hu_of hr
    refine ⟨_, (pss_cons (ps_set (i := 2) sc_l_picked.nd rfl (Or.inl rfl) pe_dnewK)
      (pss_cons (ps_lock (ps_for PassesOwn.never rfl (pi_keys (pv 0)) (pg_name (i := 3) sc_l_picked.nd rfl (Or.inl rfl)) (pss_one (ps_if (pt_cmpR op_in_seq (pv 3) (pv 1) (by rfl)) (pss_one (ps_dput hu (pv 2) (pv 3) (pe_dget hu (pv 0) (pv 3) (fun _ _ => rfl)) rfl)) pss_nil))))
      (pss_one (ps_ret (pv 2))))), ?_⟩
    intro e he
    have s1 : Same H (upd H e (.dK [])) := Same.new he
    have nme : m ≠ e := ne_of_none hm.dc he
    have nlm : l ≠ m := ne_of hl hm.dc (by intro z; cases z)
    refine ⟨m, _, s1 _ _ hm.dc, trivial, fun od => ?_⟩
    refine ⟨_, rfl, m, od, rfl, .inl ⟨_, upd_same, ?_⟩⟩
    refine for_it walk_keys (fun i σ' H' => ∃ x3 : Option V, σ' = [some (.ref m), some (.ref l), some (.ref e), x3] ∧ (∀ b o, H b = some o → b ≠ m → H' b = some o) ∧ H' m = some (.frz od (.dK (tv u))) ∧ H' e = some (.dK (tv (pick (u.take i) zs))))
      ⟨_, rfl, fun b o q n => by rw [upd_ne n]; exact s1 _ _ q, upd_same, by rw [upd_ne nme.symm]; exact upd_same⟩ (fun i σ' H' _ ⟨_, _, _, h, _⟩ => h) ?_ ?_
    · rintro i v σ' H' H2 hi ⟨x3, rfl, k1, k2, k3⟩ ⟨rfl, kk, vv, hv, ev⟩
      rw [tv_len] at hi
      have hi2 : (tv u)[i]? = some (Sum.inr u[i].1, V.int u[i].2) := by
        unfold tv
        rw [List.getElem?_map, List.getElem?_eq_getElem hi]
        rfl
      rw [hi2] at hv
      obtain rfl : Sum.inr u[i].1 = kk := congrArg Prod.fst (Option.some.inj hv)
      obtain rfl : v = V.str u[i].1 := ev
      have pt := pick_take zs hm.nd (List.getElem?_eq_getElem hi)
      refine ⟨_, rfl, _, rfl, l, _, rfl, .inl (SqL.of (k1 _ _ hl nlm)), rfl, flat_strs zs, _, rfl, ?_⟩
      show if inV (.str u[i].1) (zs.map V.str) = true then _ else _
      rw [inV_str]
      by_cases c : u[i].1 ∈ zs
      · rw [decide_eq_true c]
        rw [if_pos c] at pt
        refine iteT ?_
        have lk : valV (tv u) (Sum.inr u[i].1) = some (V.int u[i].2) := by rw [tv_val, look_mem hm.nd (show (u[i].1, u[i].2) ∈ u from List.getElem_mem hi)]; rfl
        refine ⟨_, rfl, _, rfl, m, V.int u[i].2, rfl, .inl ⟨_, Sum.inr u[i].1, .inr ⟨od, k2⟩, rfl, lk.symm⟩, _, rfl, _, rfl, e, _, rfl, DPut.k (k := Sum.inr u[i].1) k3 ?_, ?_⟩
        · rw [tv_len]
          have : (pick (u.take i) zs).length ≤ (u.take i).length := List.length_filter_le _ _
          rw [List.length_take] at this
          exact Nat.lt_of_le_of_lt (show (pick (u.take i) zs).length ≤ 1000 by omega) (by decide)
        · refine ⟨_, rfl, fun b o q n => by rw [upd_ne (ne_of_none q he)]; exact k1 b o q n, by rw [upd_ne nme]; exact k2, ?_⟩
          rw [upd_same, tv_put, pt]
      · rw [decide_eq_false c]
        rw [if_neg c] at pt
        refine iteF ?_
        refine ⟨_, rfl, k1, k2, ?_⟩
        rw [pt]
        exact k3
    · rintro σ' H' ⟨x3, rfl, k1, k2, k3⟩
      rw [tv_len, List.take_length] at k3
      refine ⟨k2, _, rfl, ?_⟩
      refine k e _ (pick u zs) he (fun b o q => ?_) ⟨by rw [upd_ne nme.symm]; exact k3, pick_nd zs hm.nd, fun z mz => hm.wd z (pick_keys.mp mz).1⟩ (pick_val zs hm.nd) (List.length_filter_le _ _)
      by_cases n : b = m
      · subst n
        rw [upd_same, ← q, hm.dc]
      · rw [upd_ne n]
        exact k1 b o q n
theorem ok_apart {C f fEq fTo fSe qT fT : Addr} {fd fdEq fdTo fdSe fdT : FuncData} {fI : Addr} (F : Fun K "_law_apart" "_law_apart" s_l_apart f fd) (g : Bi mg) (T : CT P w K mg base C fI)
    (FEq : Def P w K mg base CX0 4 "_law_equal" ["_law_counts", "_law_model_here"] (spEqual C) fEq fdEq) (FTo : Def P w K mg base CX0 1 "_law_told" ["_law_model_here"] spTold fTo fdTo)
    (MSe : SDef P w K mg base CX0 3 C "__setitem__" ["self", "word", "number"] (spSet C) fSe fdSe) (PTo : PDef P w K mg base CX0 1 C "total" (spTotal C) qT fT fdT) :
    FnOk P w K mg base CX0 5 f fd ["_law_counts", "_law_model_here", "_law_other", "_law_other_model"] (spApart C) := by
  obtain ⟨GEq, mEq, _, bEq⟩ := id FEq
  obtain ⟨GTo, mTo, _, bTo⟩ := id FTo
  refine F.ok sc_l_apart (fun vs H Q E h => ?_) (fun cdv A outer s H vs Q E hr h => ?_)
  · obtain ⟨_, _, _, _, _, _, _, _, _, _, rfl, _⟩ := h
    rfl
  · obtain ⟨p, d, m, p2, d2, m2, t, u, t2, u2, rfl, hc, hl, hm, hlu, hv, hc2, hl2, hm2, hlu2, hv2, n1, n2, n3, n4, n5, k⟩ := h
    have hrEq : Room 4 _ := hr.mono (by decide)
    have hrTo : Room 1 _ := hr.mono (by decide)
    have hrSe : Room 3 _ := hr.mono (by decide)
    have hrPt : Room 2 _ := hr.mono (by decide)
    have hu := hu_of hr
    refine ⟨_, (pss_cons (ps_set (i := 4) sc_l_apart.nd rfl (Or.inl rfl) pe_str)
      (pss_cons (ps_asg pe_int (pg_sub (pv 2) (pv 4) (set_own MSe.c MSe.ns MSe.ok hrSe MSe.b pass0)))
      (pss_cons (ps_dput hu (pv 3) (pv 4) pe_int rfl)
      (pss_cons (ps_if (PW.pt (pw_or (pt_not (pt_val (pe_call GEq hrEq rfl mEq FEq.kp bEq .nil pass0 (pa_cons (pv 0) (pa_cons (pv 1) pa_nil))))) (pw_or1 (pt_not (pt_val (pe_call GEq hrEq rfl mEq FEq.kp bEq .nil pass0 (pa_cons (pv 2) (pa_cons (pv 3) pa_nil)))))))) (pss_one (ps_ret pe_bl)) pss_nil)
      (pss_cons (ps_set (i := 5) sc_l_apart.nd rfl (Or.inl rfl) (pe_callB (cr_sum rfl) (by rfl) g.sum (by decide +kernel) (pa_cons (pe_lc (own := [("_law_pair", 6)]) (g := gName 6) (te := (tOp (rIxT K) _ _))  (by rfl) sc_l_apart.nd (pi_list (pe_call GTo hrTo rfl mTo FTo.kp bTo .nil pass0 (pa_cons (pv 3) pa_nil))) (blkOk_by (own := [("_law_pair", 6)]) (N := ["_law_counts", "_law_model_here", "_law_other", "_law_other_model", "_law_word_here", "_law_total", "_law_pair"]) (sc := defScope s_l_apart) (by decide +kernel)) (fun _ _ _ _ _ => (pg_name (i := 6) sc_l_apart.nd rfl (Or.inl rfl))) (fun _ _ _ _ _ => pts_nil) (fun _ _ _ _ _ => (pe_ix ix_tup (pv 6) pe_int (fun _ _ => rfl)))) pa_nil)))
      (pss_one (ps_ret (pe_and (pe_cmpR op_eq (pe_prop (pv 2) T.cl PTo.p PTo.ok hrPt PTo.b .nil pass0 rfl) (pv 5) (nomark _)) (pe_one (pe_cmpR op_eq (pe_prop (pv 0) T.cl PTo.p PTo.ok hrPt PTo.b .nil pass0 rfl) (pe_callB (cr_sum rfl) (by rfl) g.sum (by decide +kernel) (pa_cons (pe_lc (own := [("_law_pair", 6)]) (g := gName 6) (te := (tOp (rIxT K) _ _))  (by rfl) sc_l_apart.nd (pi_list (pe_call GTo hrTo rfl mTo FTo.kp bTo .nil pass0 (pa_cons (pv 1) pa_nil))) (blkOk_by (own := [("_law_pair", 6)]) (N := ["_law_counts", "_law_model_here", "_law_other", "_law_other_model", "_law_word_here", "_law_total", "_law_pair"]) (sc := defScope s_l_apart) (by decide +kernel)) (fun _ _ _ _ _ => (pg_name (i := 6) sc_l_apart.nd rfl (Or.inl rfl))) (fun _ _ _ _ _ => pts_nil) (fun _ _ _ _ _ => (pe_ix ix_tup (pv 6) pe_int (fun _ _ => rfl)))) pa_nil)) (nomark _))))))))))), ?_⟩
    have hwd : Word "apart" := word_of (by decide +kernel)
    obtain ⟨⟨dx2, hp2⟩, _⟩ := id hc2
    refine ⟨_, rfl, _, rfl, p2, dx2, _, rfl, hp2, p2, d2, t2, "apart", 3, rfl, hwd, ⟨by decide, by decide⟩, hc2, by omega, fun t3 H1 hc3 ht3 hl3 kp1 => ?_⟩
    have hm2' : Mdl H1 m2 u2 := ⟨kp1 _ _ hm2.dc n5.symm, hm2.nd, hm2.wd⟩
    refine ⟨_, rfl, _, rfl, m2, _, rfl, DPut.k (k := Sum.inr "apart") hm2'.dc (by rw [tv_len]; exact Nat.lt_of_le_of_lt (show u2.length ≤ 1000 by omega) (by decide)), ?_⟩
    rw [tv_put]
    have k2 : ∀ b o, H b = some o → b ≠ d2 → b ≠ m2 → (upd H1 m2 (.dK (tv (put u2 "apart" 3)))) b = some o := fun b o e a c => by rw [upd_ne c]; exact kp1 b o e a
    have hm3 : Mdl (upd H1 m2 (.dK (tv (put u2 "apart" 3)))) m2 (put u2 "apart" 3) := ⟨upd_same, nd_put hm2.nd, fun y hy => (mem_keys_put.mp hy).elim (hm2.wd y) (fun q => q ▸ hwd)⟩
    have hc3' : Cnt C (upd H1 m2 (.dK (tv (put u2 "apart" 3)))) p2 d2 t3 := by
      obtain ⟨⟨dx, a⟩, b, c, c'⟩ := hc3
      exact ⟨⟨dx, by rw [upd_ne (ne_of a hm2'.dc (by intro z; cases z))]; exact a⟩, by rw [upd_ne n5]; exact b, c, c'⟩
    have hc' : Cnt C (upd H1 m2 (.dK (tv (put u2 "apart" 3)))) p d t := by
      obtain ⟨⟨dx, a⟩, b, c, c'⟩ := hc
      exact ⟨⟨dx, k2 _ _ a (ne_of a hc2.dc (by intro z; cases z)) (ne_of a hm2.dc (by intro z; cases z))⟩, k2 _ _ b n1 n2, c, c'⟩
    have hm' : Mdl (upd H1 m2 (.dK (tv (put u2 "apart" 3)))) m u := ⟨k2 _ _ hm.dc n3 n4, hm.nd, hm.wd⟩
    have hv3 : ∀ z, val t3 z = val (put u2 "apart" 3) z := fun z => by rw [ht3, val_put hm2.nd, hv2]
    have hlu3 := len_put u2 "apart" 3
    generalize upd H1 m2 (.dK (tv (put u2 "apart" 3))) = H2 at k2 hm3 hc3' hc' hm'
    generalize put u2 "apart" 3 = u3 at hm3 hv3 hlu3
    -- equal, twice
    refine ⟨_, rfl, _, rfl, p, d, m, t, u, rfl, hc', by omega, hm', by omega, hv, fun H3 s3 => ⟨_, rfl, iteF ?_⟩⟩
    refine ⟨_, rfl, _, rfl, p2, d2, m2, t3, u3, rfl, hc3'.same s3, by omega, hm3.same s3, by omega, hv3, fun H4 s4 => ⟨_, rfl, iteF ?_⟩⟩
    have s24 := s3.trans s4
    -- the total of what is told
    refine ⟨_, rfl, m2, u3, rfl, hm3.same s24, by omega, fun q H5 xs l hq s5 h5 hP ht hwl hle => ⟨q, rfl, ⟨_, SqL.of h5⟩, fun D hD => ?_⟩⟩
    refine lc_it (walk_list (xs := xs)) (fun i H' => Same H5 H' ∧ H' D = some (.lst ((l.take i).map fun q => V.int q.2))) ⟨Same.new hD, upd_same⟩ (fun i H' _ h => SqL.of (h.1 _ _ h5)) ?_ ?_
    · rintro i x H' H2' hi ⟨s', hD'⟩ ⟨rfl, hx⟩
      have hi2 : i < l.length := by rw [← hP.length]; exact hi
      obtain ⟨t9, et, ht9⟩ := hP.at (List.getElem?_eq_getElem hi2)
      rw [et] at hx
      obtain rfl := Option.some.inj hx
      refine ⟨rfl, yes_it ⟨_, rfl, t9, _, 1, _, rfl, rfl, SqT.of (s' _ _ ht9), rfl, _, hD', ?_, fun b o e => ?_, ?_⟩⟩
      · rw [List.length_map, List.length_take]
        exact Nat.lt_of_le_of_lt (show min i l.length ≤ 1000 by omega) (by decide)
      · rw [upd_ne (ne_of_none e hD)]
        exact s' _ _ e
      · rw [upd_same, List.take_succ, List.getElem?_eq_getElem hi2, List.map_append]
        rfl
    rintro H6 ⟨s6, hD6⟩
    rw [hP.length, List.take_length] at hD6
    refine ⟨D, l.map (·.2), rfl, SqL.of (by rw [hD6, List.map_map]; rfl), ?_⟩
    have s26 := (s24.trans s5).trans s6
    -- return
    obtain ⟨⟨dx3, hp3⟩, hd3, hh3, hw3⟩ := id (hc3'.same s26)
    refine ⟨_, rfl, p2, dx3, _, rfl, hp3, p2, d2, t3, rfl, hc3'.same s26, by omega, fun H7 s7 => ⟨_, rfl, rfl, _, rfl, ?_⟩⟩
    rw [decide_eq_true (show V.int (t3.map (·.2)).sum = V.int (l.map (·.2)).sum by rw [total_told hh3 (ht.congr fun z => (hv3 z).symm)])]
    refine iteT ?_
    have s27 := s26.trans s7
    obtain ⟨⟨dx4, hp4⟩, hd4, hh4, hw4⟩ := id (hc'.same s27)
    refine ⟨_, rfl, p, dx4, _, rfl, hp4, p, d, t, rfl, hc'.same s27, by omega, fun H8 s8 => ?_⟩
    have s28 := s27.trans s8
    refine ⟨_, rfl, m, u, rfl, hm'.same s28, by omega, fun q2 H9 xs2 l2 hq2 s9 h9 hP2 ht2 hwl2 hle2 => ⟨q2, rfl, ⟨_, SqL.of h9⟩, fun D2 hD2 => ?_⟩⟩
    refine lc_it (walk_list (xs := xs2)) (fun i H' => Same H9 H' ∧ H' D2 = some (.lst ((l2.take i).map fun q => V.int q.2))) ⟨Same.new hD2, upd_same⟩ (fun i H' _ h => SqL.of (h.1 _ _ h9)) ?_ ?_
    · rintro i x H' H2' hi ⟨s', hD'⟩ ⟨rfl, hx⟩
      have hi2 : i < l2.length := by rw [← hP2.length]; exact hi
      obtain ⟨t9, et, ht9⟩ := hP2.at (List.getElem?_eq_getElem hi2)
      rw [et] at hx
      obtain rfl := Option.some.inj hx
      refine ⟨rfl, yes_it ⟨_, rfl, t9, _, 1, _, rfl, rfl, SqT.of (s' _ _ ht9), rfl, _, hD', ?_, fun b o e => ?_, ?_⟩⟩
      · rw [List.length_map, List.length_take]
        exact Nat.lt_of_le_of_lt (show min i l2.length ≤ 1000 by omega) (by decide)
      · rw [upd_ne (ne_of_none e hD2)]
        exact s' _ _ e
      · rw [upd_same, List.take_succ, List.getElem?_eq_getElem hi2, List.map_append]
        rfl
    rintro H10 ⟨s10, hD10⟩
    rw [hP2.length, List.take_length] at hD10
    refine ⟨D2, l2.map (·.2), rfl, SqL.of (by rw [hD10, List.map_map]; rfl), rfl, ?_⟩
    rw [decide_eq_true (show V.int (t.map (·.2)).sum = V.int (l2.map (·.2)).sum by rw [total_told hh4 (ht2.congr fun z => (hv z).symm)])]
    exact k H10 fun b o e a c => ((s28.trans s9).trans s10) b o (k2 b o e a c)
end
end Cs

set_option Elab.async false
set_option linter.all false
set_option maxRecDepth 100000
set_option maxHeartbeats 8000000
/-! The law of chosen words. -/
namespace Cs
open PySem L2
/-- a row: a tuple of counts and their model, with one table of values -/
def RowOk (C : Addr) (H : Hp) (x : V) (a : Addr × Addr) : Prop := ∃ (T r : Addr) (t u : Tab), x = .ref T ∧ H T = some (.tup [.ref r, .ref a.2]) ∧ Cnt C H r a.1 t ∧ t.length ≤ 50 ∧ Mdl H a.2 u ∧ u.length ≤ 50 ∧ ∀ z, val t z = val u z
theorem RowOk.same {C : Addr} {H H' : Hp} {x : V} {a : Addr × Addr} (s : Same H H') (h : RowOk C H x a) : RowOk C H' x a := by
  obtain ⟨T, r, t, u, e, hT, hc, hl, hm, hlu, hv⟩ := h
  exact ⟨T, r, t, u, e, s _ _ hT, hc.same s, hl, hm.same s, hlu, hv⟩
/-- the dicts of two rows differ -/
def Dif (a b : Addr × Addr) : Prop := a.1 ≠ b.1 ∧ a.1 ≠ b.2 ∧ a.2 ≠ b.1 ∧ a.2 ≠ b.2
/-- rows whose dicts are all apart, also from those at e and m -/
structure RW (C : Addr) (H : Hp) (xs : List V) (as : List (Addr × Addr)) (e m : Addr) : Prop where
  ok : Paired (RowOk C H) xs as
  pw : as.Pairwise Dif
  own : ∀ a ∈ as, a.1 ≠ a.2 ∧ Dif (e, m) a
theorem RW.same {C : Addr} {H H' : Hp} {xs : List V} {as : List (Addr × Addr)} {e m : Addr} (s : Same H H') (h : RW C H xs as e m) : RW C H' xs as e m := ⟨L2.Paired.mapP h.ok fun _ _ r => r.same s, h.pw, h.own⟩
theorem rows_at {C : Addr} {H : Hp} : ∀ {xs : List V} {as : List (Addr × Addr)}, Paired (RowOk C H) xs as → ∀ a ∈ as, (∃ o, H a.1 = some o) ∧ ∃ o, H a.2 = some o
  | _, _, .nil, a, h => nomatch h
  | _, _, .cons r t, a, h => by
    rcases List.mem_cons.mp h with e | e
    · subst e
      obtain ⟨T, r, t, u, _, _, hc, _, hm, _⟩ := r
      exact ⟨⟨_, hc.dc⟩, ⟨_, hm.dc⟩⟩
    · exact rows_at t a e
theorem pair_snoc {α β : Type} {R : α → β → Prop} : ∀ {xs : List α} {ys : List β} {x : α} {y : β}, Paired R xs ys → R x y → Paired R (xs ++ [x]) (ys ++ [y])
  | _, _, _, _, .nil, h => .cons h .nil
  | _, _, _, _, .cons r t, h => .cons r (pair_snoc t h)
theorem pair_len {α β : Type} {R : α → β → Prop} : ∀ {xs : List α} {ys : List β}, Paired R xs ys → xs.length = ys.length
  | _, _, .nil => rfl
  | _, _, .cons _ t => congrArg (· + 1) (pair_len t)
theorem RW.snoc {C : Addr} {H H' : Hp} {xs : List V} {as : List (Addr × Addr)} {e m : Addr} {x : V} {e' m' : Addr} (h : RW C H xs as e m) (s : Same H H') (he : ∃ o, H e = some o) (hm : ∃ o, H m = some o) (f1 : H e' = none) (f2 : H m' = none) (ne : e' ≠ m') (r : RowOk C H' x (e', m')) :
    RW C H' (xs ++ [x]) (as ++ [(e', m')]) e m := by
  have two : ∀ {a : Addr × Addr}, (∃ o, H a.1 = some o) → (∃ o, H a.2 = some o) → Dif a (e', m') := fun ⟨_, a1⟩ ⟨_, a2⟩ => ⟨ne_of_none a1 f1, ne_of_none a1 f2, ne_of_none a2 f1, ne_of_none a2 f2⟩
  refine ⟨pair_snoc (L2.Paired.mapP h.ok fun _ _ r => r.same s) r, ?_, fun a ha => ?_⟩
  · rw [List.pairwise_append]
    refine ⟨h.pw, List.pairwise_singleton _ _, fun a ha b hb => ?_⟩
    rw [List.mem_singleton.mp hb]
    obtain ⟨h1, h2⟩ := rows_at h.ok a ha
    exact two h1 h2
  · rcases List.mem_append.mp ha with q | q
    · exact h.own a q
    · rw [List.mem_singleton.mp q]
      exact ⟨ne, two he hm⟩
theorem cut_last (xs : List V) (x : V) : cutV (xs ++ [x]) none (some (-1)) = xs := by
  unfold cutV
  show ((xs ++ [x]).drop 0).take ((-1 + ((xs ++ [x]).length : Int)).toNat - 0) = xs
  rw [List.length_append, List.drop_zero]
  have : (-1 + ((xs.length + [x].length : Nat) : Int)).toNat - 0 = xs.length := by
    simp only [List.length_singleton]
    omega
  rw [this]
  simp
def pds (zs : List Str) : PyData := .list (zs.map .str)
theorem pds_can : ∀ {zs : List Str}, (∀ z ∈ zs, Word z) → PyData.canLayAll0 (zs.map .str) = true
  | [], _ => rfl
  | z :: zs, h => by
    rw [List.map_cons, PyData.canLayAll0, pds_can fun y m => h y (List.mem_cons_of_mem _ m), PyData.canLay0, word_ok (h z List.mem_cons_self)]
    rfl
theorem pds_depth : ∀ zs : List Str, PyData.depthAll (zs.map .str) = 0
  | [] => rfl
  | z :: zs => by
    rw [List.map_cons, PyData.depthAll, pds_depth zs, PyData.depth]
    rfl
theorem pds_shaped {zs : List Str} (h : ∀ z ∈ zs, Word z) : SeqAt.shaped (pds zs) = true := by
  unfold SeqAt.shaped pds
  rw [Bool.and_eq_true]
  refine ⟨by rw [PyData.canLay0]; exact pds_can h, decide_eq_true ?_⟩
  rw [PyData.depth, pds_depth]
  decide
theorem pds_refl {zs : List Str} (h : ∀ z ∈ zs, Word z) : PyData.eqv (pds zs) (pds zs) = true := SeqAt.eqv_refl _ (SeqAt.canLay_of_shaped (pds_shaped h))
theorem dp_strs {K : PySem.W.Frag} {H : Hp} : ∀ zs : List Str, DpAll K H (zs.map V.str) (zs.map .str)
  | [] => .nil
  | z :: zs => .cons (.str z) (dp_strs zs)
theorem four {α : Type} {l : List α} (h : l.length = 4) : ∃ a b c d, l = [a, b, c, d] := by
  match l, h with
  | [a, b, c, d], _ => exact ⟨a, b, c, d, rfl⟩
def spLaw (K : PySem.W.Frag) : Sp := fun vs H Q _ => ∃ (a : Addr) (ns : List Int), vs = [.ref a] ∧ SqL K H a (ns.map V.int) ∧ ns.length ≤ 63 ∧ ∀ H', Q (.bl true) H'
section
variable {P : Program} {w : World} {K : PySem.W.Frag} {mg : Str → Option Value} {base : Heap}
theorem ok_law {C f fI fS fP fMo qO fO fW fD fWo fTo fLe fOn fPi fCo fEq fAp : Addr} {fd fdS fdP fdMo fdW fdD fdWo fdTo fdLe fdPi fdCo fdEq fdAp : FuncData} {mc : Value} (F : Fun K "law" "law" s_law f fd) (g : Bi mg) (T : CT P w K mg base C fI)
    (FS : Def P w K mg base CX0 1 "_law_source" ["_law_script"] (spSource K) fS fdS) (FP : Def P w K mg base CX0 4 "_law_pairs" ["_law_source_here", "_law_most"] spPairs fP fdP) (FMo : Def P w K mg base CX0 1 "_law_model" ["_law_pairs_here"] spModel fMo fdMo)
    (MOf : KDef P w K mg base CX0 4 C mc "of" (spOf K C) qO fO) (FW : Def P w K mg base CX0 3 "_law_word" ["_law_source_here"] spWord fW fdW) (FD : Def P w K mg base CX0 2 "_law_draw" ["_law_source_here", "_law_size"] spDraw fD fdD)
    (MWo : MDef P w K mg base CX0 2 C "words" ["self"] (spWords C) fWo fdWo) (FTo : Def P w K mg base CX0 1 "_law_told" ["_law_model_here"] spTold fTo fdTo) (MLe : SDef P w K mg base CX0 1 C "__len__" ["self"] (spLen C) fLe fdLe)
    (MOn : RDef P w K mg base CX0 4 C "only" (spOnly C) fOn) (FPi : Def P w K mg base CX0 1 "_law_picked" ["_law_model_here", "_law_words"] spPicked fPi fdPi) (MCo : MDef P w K mg base CX0 4 C "copy" ["self"] (spCopy C) fCo fdCo)
    (FEq : Def P w K mg base CX0 4 "_law_equal" ["_law_counts", "_law_model_here"] (spEqual C) fEq fdEq) (FAp : Def P w K mg base CX0 5 "_law_apart" ["_law_counts", "_law_model_here", "_law_other", "_law_other_model"] (spApart C) fAp fdAp) :
    FnOk P w K mg base CX0 6 f fd ["_law_script"] (spLaw K) := by
  obtain ⟨GS, mS, _, bS⟩ := id FS
  obtain ⟨GP, mP, _, bP⟩ := id FP
  obtain ⟨GMo, mMo, _, bMo⟩ := id FMo
  obtain ⟨GW, mW, _, bW⟩ := id FW
  obtain ⟨GD, mD, _, bD⟩ := id FD
  obtain ⟨GTo, mTo, _, bTo⟩ := id FTo
  obtain ⟨GPi, mPi, _, bPi⟩ := id FPi
  obtain ⟨GEq, mEq, _, bEq⟩ := id FEq
  obtain ⟨GAp, mAp, _, bAp⟩ := id FAp
  refine F.ok sc_law (fun vs H Q E h => ?_) (fun cdv A outer s H vs Q E hr h => ?_)
  · obtain ⟨_, _, rfl, _⟩ := h
    rfl
  · obtain ⟨a, ns, rfl, hS, hlen, k⟩ := h
    have hrS : Room 1 _ := hr.mono (by decide)
    have hrP : Room 4 _ := hr.mono (by decide)
    have hrMo : Room 1 _ := hr.mono (by decide)
    have hrOf : Room 4 _ := hr.mono (by decide)
    have hrW : Room 3 _ := hr.mono (by decide)
    have hrD : Room 2 _ := hr.mono (by decide)
    have hrWo : Room 2 _ := hr.mono (by decide)
    have hrTo : Room 1 _ := hr.mono (by decide)
    have hrLe : Room 2 _ := hr.mono (by decide)
    have hrOn : Room 4 _ := hr.mono (by decide)
    have hrPi : Room 1 _ := hr.mono (by decide)
    have hrCo : Room 4 _ := hr.mono (by decide)
    have hrI : Room 2 _ := hr.mono (by decide)
    have hrEq : Room 4 _ := hr.mono (by decide)
    have hrAp : Room 5 _ := hr.mono (by decide)
    have hu := hu_of hr
    refine ⟨_, (pss_cons (ps_set (i := 1) sc_law.nd rfl (Or.inl rfl) (pe_call GS hrS rfl mS FS.kp bS .nil pass0 (pa_cons (pv 0) pa_nil)))
      (pss_cons (ps_set (i := 2) sc_law.nd rfl (Or.inl rfl) (pe_call GP hrP rfl mP FP.kp bP .nil pass0 (pa_cons (pv 1) (pa_cons pe_int pa_nil))))
      (pss_cons (ps_set (i := 3) sc_law.nd rfl (Or.inl rfl) (pe_call GMo hrMo rfl mMo FMo.kp bMo .nil pass0 (pa_cons (pv 2) pa_nil)))
      (pss_cons (ps_set (i := 4) sc_law.nd rfl (Or.inl rfl) (ClX.pe_cmeth (pe_glob (v := .ref C) rfl T.mgC rfl) MOf.r MOf.c MOf.ok hrOf pass0 (pa_cons (pv 2) pa_nil)))
      (pss_cons (ps_set (i := 5) sc_law.nd rfl (Or.inl rfl) (pe_lst pa_nil))
      (pss_cons (ps_for PassesOwn.never rfl (pi_range1 rfl g.range (pa_cons pe_int pa_nil)) (pg_name (i := 6) sc_law.nd rfl (Or.inl rfl)) (pss_cons (ps_set (i := 7) sc_law.nd rfl (Or.inl rfl) (pe_call GW hrW rfl mW FW.kp bW .nil pass0 (pa_cons (pv 1) pa_nil)))
      (C8.pss_cut (ps_if (PW.pt (pw_and (pt_cmpR op_gt (pe_callB call_len (by rfl) g.len PySem.boot_len (pa_cons (pv 2) pa_nil)) pe_int (nomark _)) (pw_and1 (pt_cmpR op_gt (pe_call GD hrD rfl mD FD.kp bD .nil pass0 (pa_cons (pv 1) (pa_cons pe_int pa_nil))) pe_int (nomark _))))) (pss_one (ps_set (i := 7) sc_law.nd rfl (Or.inl rfl) (pe_ix ix_tup (pe_ix ix_list (pv 2) (pe_call GD hrD rfl mD FD.kp bD .nil pass0 (pa_cons (pv 1) (pa_cons (pe_callB call_len (by rfl) g.len PySem.boot_len (pa_cons (pv 2) pa_nil)) pa_nil))) (fun _ _ => rfl)) pe_int (fun _ _ => rfl)))) pss_nil)
      (pss_one (ps_expr (pe_bm PySem.F.plainAttrs_list PySem.F.slot_list_append PySem.F.type_list_append mt_append (pv 5) (pa_cons (pv 7) pa_nil)))))))
      (pss_cons (ps_set (i := 8) sc_law.nd rfl (Or.inl rfl) (pe_meth0 (pv 4) T.cl MWo.me MWo.ok hrWo MWo.b .nil pass0))
      (pss_cons (ps_if (PW.pt (pw_or (pt_not (pt_val (pe_callB call_isi (by rfl) g.isinstance (by decide +kernel) (pa_cons (pv 8) (pa_cons (pe_bltn (v := .ty "list") (by rfl) g.list (by decide +kernel) rfl) pa_nil))))) (pw_or1 (pt_cmpR (op_neD hr.units) (pv 8) (pe_lc (own := [("_law_pair", 12)]) (g := gName 12) (te := (tOp (rIxT K) _ _))  (by rfl) sc_law.nd (pi_list (pe_call GTo hrTo rfl mTo FTo.kp bTo .nil pass0 (pa_cons (pv 3) pa_nil))) (blkOk_by (own := [("_law_pair", 12)]) (N := ["_law_script", "_law_source_here", "_law_pairs_here", "_law_model_here", "_law_counts", "_law_words", "_law_k", "_law_word_here", "_law_told_here", "_law_rows", "_law_result", "_law_due", "_law_pair"]) (sc := defScope s_law) (by decide +kernel)) (fun _ _ _ _ _ => (pg_name (i := 12) sc_law.nd rfl (Or.inl rfl))) (fun _ _ _ _ _ => pts_nil) (fun _ _ _ _ _ => (pe_ix ix_tup (pv 12) pe_int (fun _ _ => rfl)))) (nomark _))))) (pss_one (ps_ret pe_bl)) pss_nil)
      (pss_cons (ps_expr (pe_bm PySem.F.plainAttrs_list PySem.F.slot_list_append PySem.F.type_list_append mt_append (pv 8) (pa_cons pe_str pa_nil)))
      (pss_cons (ps_if (PW.pt (pw_or (pt_cmpR (op_neD hr.units) (pe_meth0 (pv 4) T.cl MWo.me MWo.ok hrWo MWo.b .nil pass0) (pe_slice sl_list (pv 8) po_none (po_some (pe_un un_neg pe_int))) (nomark _)) (pw_or1 (pt_cmpR op_ne (pe_callB call_len (by rfl) g.len PySem.boot_len (pa_cons (pe_meth0 (pv 4) T.cl MWo.me MWo.ok hrWo MWo.b .nil pass0) pa_nil)) (pe_callB (call_lenO MLe.c MLe.ok hrLe MLe.b pass0) (by rfl) g.len PySem.boot_len (pa_cons (pv 4) pa_nil)) (nomark _))))) (pss_one (ps_ret pe_bl)) pss_nil)
      (pss_cons (ps_set (i := 9) sc_law.nd rfl (Or.inl rfl) (pe_lst (pa_cons (pe_tup (pa_cons (pe_methR (pv 4) T.cl MOn.me MOn.ok hrOn pass0 (pa_cons (pe_ix ix_list (pv 5) pe_int (fun _ _ => rfl)) (pa_cons (pe_ix ix_list (pv 5) pe_int (fun _ _ => rfl)) (pa_cons (pe_ix ix_list (pv 5) pe_int (fun _ _ => rfl)) (pa_cons (pe_ix ix_list (pv 5) pe_int (fun _ _ => rfl)) pa_nil))))) (pa_cons (pe_call GPi hrPi rfl mPi FPi.kp bPi .nil pass0 (pa_cons (pv 3) (pa_cons (pv 5) pa_nil))) pa_nil))) pa_nil)))
      (pss_cons (ps_set (i := 9) sc_law.nd rfl (Or.inl rfl) (pe_op op_cat (pv 9) (pe_lst (pa_cons (pe_tup (pa_cons (pe_methR (pv 4) T.cl MOn.me MOn.ok hrOn pass0 (pa_cons (pe_ix ix_list (pv 5) pe_int (fun _ _ => rfl)) (pa_cons (pe_ix ix_list (pv 5) pe_int (fun _ _ => rfl)) pa_nil))) (pa_cons (pe_call GPi hrPi rfl mPi FPi.kp bPi .nil pass0 (pa_cons (pv 3) (pa_cons (pe_slice sl_list (pv 5) po_none (po_some pe_int)) pa_nil))) pa_nil))) (pa_cons (pe_tup (pa_cons (pe_methR0 (pv 4) T.cl MOn.me MOn.ok hrOn pass0) (pa_cons pe_dnewK pa_nil))) pa_nil)))))
      (pss_cons (ps_set (i := 9) sc_law.nd rfl (Or.inl rfl) (pe_op op_cat (pv 9) (pe_lst (pa_cons (pe_tup (pa_cons (pe_meth0 (pv 4) T.cl MCo.me MCo.ok hrCo MCo.b .nil pass0) (pa_cons (pe_callTy call_dictD (by rfl) g.dict (by decide +kernel) (pa_cons (pv 3) pa_nil)) pa_nil))) (pa_cons (pe_tup (pa_cons (pe_meth0 (pe_mkR0 T.mke T.ini hrI rfl T.mgC pass0) T.cl MCo.me MCo.ok hrCo MCo.b .nil pass0) (pa_cons pe_dnewK pa_nil))) pa_nil)))))
      (pss_cons (ps_set (i := 9) sc_law.nd rfl (Or.inl rfl) (pe_op op_cat (pv 9) (pe_lst (pa_cons (pe_tup (pa_cons (pe_meth0 (pe_methR (pv 4) T.cl MOn.me MOn.ok hrOn pass0 (pa_cons (pe_ix ix_list (pv 5) pe_int (fun _ _ => rfl)) pa_nil)) T.cl MCo.me MCo.ok hrCo MCo.b .nil pass0) (pa_cons (pe_call GPi hrPi rfl mPi FPi.kp bPi .nil pass0 (pa_cons (pv 3) (pa_cons (pe_slice sl_list (pv 5) (po_some pe_int) po_none) pa_nil))) pa_nil))) pa_nil))))
      (pss_cons (ps_for PassesOwn.never rfl (pi_list (pv 9)) (pg_tup rfl (pgs_cons (pg_name (i := 10) sc_law.nd rfl (Or.inl rfl)) (pgs_cons (pg_name (i := 11) sc_law.nd rfl (Or.inl rfl)) pgs_nil))) (pss_one (ps_if (PW.pt (pw_or (pt_not (pt_val (pe_call GEq hrEq rfl mEq FEq.kp bEq .nil pass0 (pa_cons (pv 10) (pa_cons (pv 11) pa_nil))))) (pw_or1 (pt_not (pt_val (pe_call GAp hrAp rfl mAp FAp.kp bAp .nil pass0 (pa_cons (pv 4) (pa_cons (pv 3) (pa_cons (pv 10) (pa_cons (pv 11) pa_nil)))))))))) (pss_one (ps_ret pe_bl)) pss_nil)))
      (pss_one (ps_ret (pe_call GEq hrEq rfl mEq FEq.kp bEq .nil pass0 (pa_cons (pv 4) (pa_cons (pv 3) pa_nil)))))))))))))))))))), ?_⟩
    -- source, pairs, model, counts, words = []
    refine ⟨_, rfl, a, ns, rfl, hS, fun p c H1 hp hc s1 S1 => ?_⟩
    refine ⟨_, rfl, p, c, 10, rfl, S1, by decide, by decide, fun q H2 xs ps hq h2 hP hG hl S2 k2 => ?_⟩
    have hW : WdP ps := fun r m => (hG r m).1
    refine ⟨_, rfl, q, xs, ps, rfl, h2, hP, hW, by omega, fun m H3 hm s3 M3 => ?_⟩
    refine ⟨rfl, _, rfl, q, xs, ps, rfl, s3 _ _ h2, hP.mono (fun _ _ _ e => s3 _ _ e), hG, by omega, fun r e H4 t hr4 he4 s4 hc4 hv4 hl4 => ?_⟩
    have hvu : ∀ z, val t z = val (addUp ps) z := fun z => by rw [hv4, addUp_val]
    have hul : (addUp ps).length ≤ 10 := Nat.le_trans (addUp_len ps) (by omega)
    have M4 := M3.same s4
    have S4 : Src H4 p c := (S2.same s3).same s4
    have h4 : H4 q = some (.lst xs) := s4 _ _ (s3 _ _ h2)
    have hP4 : PrL H4 xs ps := hP.mono fun _ _ _ e => s4 _ _ (s3 _ _ e)
    generalize hU : addUp ps = u at hvu hul M4
    have ht10 : t.length ≤ 10 := by omega
    refine ⟨Nat.zero_le _, fun wl hwl => ?_⟩
    have s5 : Same H4 (upd H4 wl (.lst [])) := Same.new hwl
    have nwp : wl ≠ p := S4.new_p hwl
    have nwc : wl ≠ c := S4.new_c hwl
    -- four words
    refine ⟨4, rfl, by decide, by decide, for_range (lo := 0) (n := 4) (fun i σ' H' => ∃ (ws : List Str) (x6 x7 : Option V), σ' = [some (.ref a), some (.ref p), some (.ref q), some (.ref m), some (.ref r), some (.ref wl), x6, x7, none, none, none, none, none] ∧ ws.length = i ∧ H' wl = some (.lst (ws.map V.str)) ∧ Src H' p c ∧ ∀ b o, H4 b = some o → b ≠ p → b ≠ wl → H' b = some o)
      ⟨[], _, _, rfl, rfl, upd_same, S4.same s5, fun b o q _ _ => s5 _ _ q⟩ ?_ ?_⟩
    · rintro i σ' H' hi ⟨ws, x6, x7, rfl, hwsl, hw', S', k'⟩
      have nqp : q ≠ p := S1.new_p hq
      have tn : ∀ {H6 : Hp}, Kp p H' H6 → PrL H6 xs ps := fun {H6} k6 => hP4.mono fun t2 a2 b2 e2 => k6 _ _ (k' _ _ e2 (S4.tup_p e2) (ne_of_none e2 hwl)) (S4.tup_p e2)
      have hq' := k' _ _ h4 nqp (ne_of_none h4 hwl)
      refine ⟨_, rfl, p, c, rfl, S', fun z H6 hz S6 k6 => ?_⟩
      have hq6 := k6 _ _ hq' nqp
      have hw6 := k6 _ _ hw' nwp
      refine ⟨fun σ2 H7 => ∃ (z : Str) (x6 : Option V), σ2 = [some (.ref a), some (.ref p), some (.ref q), some (.ref m), some (.ref r), some (.ref wl), x6, some (.str z), none, none, none, none, none] ∧ H7 wl = some (.lst (ws.map V.str)) ∧ Src H7 p c ∧ ∀ b o, H4 b = some o → b ≠ p → b ≠ wl → H7 b = some o, ?_, ?_⟩
      · refine ⟨_, rfl, _, _, rfl, .inl ⟨_, SqL.of hq6, rfl⟩, _, _, rfl, rfl, _, rfl, ite2 (fun z1 => ?_) (fun z1 => ?_)⟩
        · refine ⟨_, rfl, p, c, 4, rfl, S6, by decide, by decide, fun v7 H7 b0 b1 S7 k7 => ⟨_, _, rfl, rfl, _, rfl, ite2 (fun z2 => ?_) (fun z2 => ?_)⟩⟩
          · have hq7 := k7 _ _ hq6 nqp
            have hpos : 0 < xs.length := by simpa using z1
            have hxl : xs.length = ps.length := hP.length
            refine ⟨_, rfl, _, rfl, _, rfl, _, _, rfl, .inl ⟨_, SqL.of hq7, rfl⟩, p, c, _, rfl, S7, by omega, by omega, fun v8 H8 d0 d1 S8 k8 => ?_⟩
            have hj : v8.toNat < ps.length := by omega
            obtain ⟨t2, et, ht⟩ := (tn ((k6.trans k7).trans k8)).at (List.getElem?_eq_getElem hj)
            refine ⟨q, _, v8, _, rfl, rfl, SqL.of (k8 _ _ hq7 nqp), at_of (z := v8) (j := v8.toNat) (by omega) et, t2, _, 0, _, rfl, rfl, SqT.of ht, rfl, ?_⟩
            exact ⟨_, _, rfl, k8 _ _ (k7 _ _ hw6 nwp) nwp, S8, fun b o e1 n1 n2 => k8 _ _ (k7 _ _ (k6 _ _ (k' b o e1 n1 n2) n1) n1) n1⟩
          · exact ⟨z, _, rfl, k7 _ _ hw6 nwp, S7, fun b o e1 n1 n2 => k7 _ _ (k6 _ _ (k' b o e1 n1 n2) n1) n1⟩
        · exact ⟨z, _, rfl, hw6, S6, fun b o e1 n1 n2 => k6 _ _ (k' b o e1 n1 n2) n1⟩
      · rintro σ2 H7 ⟨z, x6, rfl, hw7, S7, k7⟩
        refine ⟨_, rfl, .inl ⟨rfl, _, SqL.of hw7⟩, _, rfl, wl, _, _, rfl, rfl, hw7, ?_, ?_⟩
        · rw [List.length_map]
          exact Nat.lt_of_le_of_lt (show ws.length ≤ 1000 by omega) (by decide)
        · refine ⟨ws ++ [z], _, _, rfl, by rw [List.length_append, hwsl]; rfl, by rw [upd_same, List.map_append]; rfl, S7.keep fun b o hb e1 => ?_, fun b o e1 n1 n2 => by rw [upd_ne n2]; exact k7 b o e1 n1 n2⟩
          rw [upd_ne (by rcases hb with rfl | rfl; exact nwp.symm; exact nwc.symm)]
          exact e1
    · rintro σ' H5 ⟨ws, x6, x7, rfl, hwsl, hw5, S5, k5⟩
      obtain ⟨w0, w1, w2, w3, rfl⟩ := four hwsl
      have s45 : ∀ {b : Addr} {o : HO}, H4 b = some o → b ≠ p → H5 b = some o := fun e1 n1 => k5 _ _ e1 n1 (ne_of_none e1 hwl)
      have nrp : r ≠ p := (S2.same s3).new_p hr4
      have nep : e ≠ p := (S2.same s3).new_p he4
      have nmp : m ≠ p := S2.new_p hm
      have hc5 : Cnt C H5 r e t := by
        obtain ⟨⟨dx, a1⟩, b1, c1, d1⟩ := hc4
        exact ⟨⟨dx, s45 a1 nrp⟩, s45 b1 nep, c1, d1⟩
      have M5 : Mdl H5 m u := ⟨s45 M4.dc nmp, M4.nd, M4.wd⟩
      have nem : e ≠ m := (ne_of_none M3.dc he4).symm
      clear hc4 M4 s45 k5 S5 S4 h4 hP4
      -- counts.words()
      obtain ⟨⟨dx, hp5⟩, hd5, hh, hwd⟩ := id hc5
      refine ⟨_, rfl, r, dx, _, rfl, hp5, rfl, r, e, t, rfl, hc5, by omega, fun th H6 ks hth s6 h6 hasc hmem hle => ?_⟩
      refine ⟨_, rfl, _, _, _, _, true, rfl, .ty "list", .base (.lst h6), kit_ty (by decide +kernel), _, rfl, iteF ?_⟩
      refine ⟨_, rfl, _, rfl, m, u, rfl, M5.same s6, by omega, fun q2 H7 xs2 l2 hq2 s7 h7 hP2 ht2 hwl2 hle2 => ⟨q2, rfl, ⟨_, SqL.of h7⟩, fun D hD => ?_⟩⟩
      refine lc_it (walk_list (xs := xs2)) (fun i H' => Same H7 H' ∧ H' D = some (.lst (((keys l2).take i).map V.str))) ⟨Same.new hD, upd_same⟩ (fun i H' _ h => SqL.of (h.1 _ _ h7)) ?_ ?_
      · rintro i x H' H2' hi ⟨s', hD'⟩ ⟨rfl, hx⟩
        have hi2 : i < l2.length := by rw [← hP2.length]; exact hi
        obtain ⟨t9, et, ht9⟩ := hP2.at (List.getElem?_eq_getElem hi2)
        rw [et] at hx
        obtain rfl := Option.some.inj hx
        have hk : (keys l2)[i]? = some l2[i].1 := by
          unfold keys
          rw [List.getElem?_map, List.getElem?_eq_getElem hi2]
          rfl
        refine ⟨rfl, yes_it ⟨_, rfl, t9, _, 0, _, rfl, rfl, SqT.of (s' _ _ ht9), rfl, _, hD', ?_, fun b o e1 => ?_, ?_⟩⟩
        · rw [List.length_map, List.length_take]
          exact Nat.lt_of_le_of_lt (show min i (keys l2).length ≤ 1000 by unfold keys; rw [List.length_map]; omega) (by decide)
        · rw [upd_ne (ne_of_none e1 hD)]
          exact s' _ _ e1
        · rw [upd_same, List.take_succ, hk, List.map_append]
          rfl
      rintro H8 ⟨s8, hD8⟩
      have hkl : (keys l2).length = xs2.length := by unfold keys; rw [List.length_map, hP2.length]
      rw [← hkl, List.take_length] at hD8
      have ek : ks = keys l2 := asc_eq hasc ht2.asc fun z => by rw [hmem, hh.keys_iff, ht2.keys_iff, hvu]
      have hks : ∀ z ∈ ks, Word z := fun z mz => hwd z ((hmem z).mp mz)
      have s68 := s7.trans s8
      refine ⟨pds ks, pds ks, .lst (SqL.of (s68 _ _ h6)) (dp_strs ks), .lst (SqL.of hD8) (by rw [← ek]; exact dp_strs ks), pds_shaped hks, pds_shaped hks, _, rfl, ?_⟩
      rw [pds_refl hks]
      refine iteF ?_
      have hc8 := (hc5.same s6).same s68
      have M8 := (M5.same s6).same s68
      have h8 := s68 _ _ h6
      have hw8 := s68 _ _ (s6 _ _ hw5)
      have nthw : wl ≠ th := ne_of_none hw5 hth
      -- told_here.append('more')
      have hkl2 : ks.length ≤ 1000 := by omega
      refine ⟨_, rfl, .inl ⟨rfl, _, SqL.of h8⟩, th, _, _, rfl, rfl, h8, by rw [List.length_map]; exact Nat.lt_of_le_of_lt hkl2 (by decide), ?_⟩
      have up : ∀ {b : Addr} {o : HO}, H8 b = some o → b ≠ th → (upd H8 th (.lst (ks.map V.str ++ [.str "more"]))) b = some o := fun e1 n1 => by rw [upd_ne n1]; exact e1
      have hc9 : Cnt C (upd H8 th (.lst (ks.map V.str ++ [.str "more"]))) r e t := by
        obtain ⟨⟨dx, a1⟩, b1, c1, d1⟩ := hc8
        exact ⟨⟨dx, up a1 (ne_of a1 h8 (by intro z; cases z))⟩, up b1 (ne_of b1 h8 (by intro z; cases z)), c1, d1⟩
      have M9 : Mdl (upd H8 th (.lst (ks.map V.str ++ [.str "more"]))) m u := ⟨up M8.dc (ne_of M8.dc h8 (by intro z; cases z)), M8.nd, M8.wd⟩
      have hw9 := up hw8 nthw
      have h9 : (upd H8 th (.lst (ks.map V.str ++ [.str "more"]))) th = some (.lst (ks.map V.str ++ [.str "more"])) := upd_same
      generalize upd H8 th (.lst (ks.map V.str ++ [.str "more"])) = H9 at hc9 M9 hw9 h9
      clear up
      -- counts.words() != told_here[:-1]
      obtain ⟨⟨dx9, hp9⟩, _⟩ := id hc9
      refine ⟨_, rfl, r, dx9, _, rfl, hp9, rfl, r, e, t, rfl, hc9, by omega, fun th2 H10 ks2 hth2 s10 h10 hasc2 hmem2 hle2' => ?_⟩
      have ek2 : ks2 = ks := asc_eq hasc2 hasc fun z => by rw [hmem2, hmem]
      refine ⟨_, rfl, _, rfl, _, rfl, th, _, rfl, SqL.of (s10 _ _ h9), fun sl hsl => ?_⟩
      rw [cut_last]
      have s11 : Same H10 (upd H10 sl (.lst (ks.map V.str))) := Same.new hsl
      refine ⟨pds ks, pds ks, .lst (SqL.of (s11 _ _ h10)) (by rw [ek2]; exact dp_strs ks), .lst (SqL.of upd_same) (dp_strs ks), pds_shaped hks, pds_shaped hks, _, rfl, ?_⟩
      rw [pds_refl hks]
      refine iteF ?_
      have s911 := s10.trans s11
      generalize upd H10 sl (.lst (ks.map V.str)) = H11 at s11 s911
      obtain ⟨⟨dx11, hp11⟩, _⟩ := id (hc9.same s911)
      refine ⟨_, rfl, r, dx11, _, rfl, hp11, rfl, r, e, t, rfl, hc9.same s911, by omega, fun th3 H12 ks3 hth3 s12 h12 hasc3 hmem3 hle3 => ?_⟩
      have s912 := s911.trans s12
      obtain ⟨⟨dx12, hp12⟩, _⟩ := id (hc9.same s912)
      have hl3 : ks3.length = t.length := by
        have h1 : ks3.Perm (keys t) := (List.perm_ext_iff_of_nodup hasc3.nodup hh.nd).mpr hmem3
        rw [h1.length_eq]
        unfold keys
        rw [List.length_map]
      refine ⟨_, _, rfl, .inl ⟨_, SqL.of h12, rfl⟩, _, rfl, r, dx12, _, rfl, hp12, r, e, t, rfl, hc9.same s912, t.length, rfl, ⟨by omega, by omega⟩, rfl, _, rfl, ?_⟩
      rw [List.length_map, hl3]
      refine iteNS rfl ?_
      -- the rows
      have hcA := hc9.same s912
      have MA := M9.same s912
      have hwA := s912 _ _ hw9
      clear hc9 M9 hw9 s911 s912 hc8 M8 hw8
      have hso : ∃ o, H12 e = some o := ⟨_, hcA.dc⟩
      have hsm : ∃ o, H12 m = some o := ⟨_, MA.dc⟩
      -- the first row
      obtain ⟨⟨dxA, hpA⟩, _⟩ := id hcA
      refine ⟨_, rfl, r, dxA, _, rfl, hpA, rfl, _, rfl, wl, _, 0, _, rfl, rfl, SqL.of hwA, rfl, _, rfl, wl, _, 1, _, rfl, rfl, SqL.of hwA, rfl, _, rfl, wl, _, 2, _, rfl, rfl, SqL.of hwA, rfl, _, rfl, wl, _, 3, _, rfl, rfl, SqL.of hwA, rfl, r, e, t, [w0, w1, w2, w3], rfl, by show 4 ≤ 1000; decide, hcA, by omega, fun r1 e1 H13 t1 hr1 he1 s13 hc1 hv1 hl1 => ?_⟩
      refine ⟨_, rfl, _, rfl, m, wl, u, [w0, w1, w2, w3], rfl, MA.same s13, by omega, s13 _ _ hwA, fun m1 H14 v1 hm1 s14 Mv1 hvv1 hlv1 => ⟨by show 2 ≤ sizeLine; decide, fun T1 hT1 => ⟨by show 1 ≤ sizeLine; decide, fun L1 hL1 => ?_⟩⟩⟩
      have R1 : RW C (upd (upd H14 T1 (.tup [.ref r1, .ref m1])) L1 (.lst [.ref T1])) [.ref T1] [(e1, m1)] e m := by
        have sT : Same H14 (upd H14 T1 (.tup [.ref r1, .ref m1])) := Same.new hT1
        have sL : Same (upd H14 T1 (.tup [.ref r1, .ref m1])) (upd (upd H14 T1 (.tup [.ref r1, .ref m1])) L1 (.lst [.ref T1])) := Same.new hL1
        refine RW.snoc (xs := []) (as := []) ⟨.nil, .nil, fun _ h => nomatch h⟩ (((s13.trans s14).trans sT).trans sL) hso hsm he1 (s13.free hm1) (ne_of_none hc1.dc hm1) ⟨T1, r1, t1, v1, rfl, sL _ _ upd_same, ((hc1.same s14).same sT).same sL, by omega, (Mv1.same sT).same sL, by omega, fun z => ?_⟩
        rw [hv1, hvv1]
        dsimp only
        rw [hvu]
      have sB : Same H12 (upd (upd H14 T1 (.tup [.ref r1, .ref m1])) L1 (.lst [.ref T1])) := ((s13.trans s14).trans (Same.new hT1)).trans (Same.new hL1)
      have hL1' : (upd (upd H14 T1 (.tup [.ref r1, .ref m1])) L1 (.lst [.ref T1])) L1 = some (.lst [.ref T1]) := upd_same
      have hcB := hcA.same sB
      have MB := MA.same sB
      have hwB := sB _ _ hwA
      generalize upd (upd H14 T1 (.tup [.ref r1, .ref m1])) L1 (.lst [.ref T1]) = HB at R1 sB hL1' hcB MB hwB
      clear hc1 hv1 hl1 s13 s14 Mv1 hvv1 hlv1 hT1 hL1 hr1 he1 hm1
      have hso : ∃ o, HB e = some o := ⟨_, hcB.dc⟩
      have hsm : ∃ o, HB m = some o := ⟨_, MB.dc⟩
      -- two more
      obtain ⟨⟨dxB, hpB⟩, _⟩ := id hcB
      refine ⟨_, rfl, _, rfl, r, dxB, _, rfl, hpB, rfl, _, rfl, wl, _, 0, _, rfl, rfl, SqL.of hwB, rfl, _, rfl, wl, _, 0, _, rfl, rfl, SqL.of hwB, rfl, r, e, t, [w0, w0], rfl, by show 2 ≤ 1000; decide, hcB, by omega, fun r2 e2 H15 t2 hr2 he2 s15 hc2 hv2 hl2 => ?_⟩
      refine ⟨_, rfl, _, rfl, _, rfl, wl, _, rfl, SqL.of (s15 _ _ hwB), fun sl2 hsl2 => ?_⟩
      have ec1 : cutV ([w0, w1, w2, w3].map V.str) none (some 1) = [w0].map V.str := rfl
      rw [ec1]
      have s16 : Same H15 (upd H15 sl2 (.lst ([w0].map V.str))) := Same.new hsl2
      refine ⟨m, sl2, u, [w0], rfl, (MB.same s15).same s16, by omega, upd_same, fun m2 H17 v2 hm2 s17 Mv2 hvv2 hlv2 => ⟨by show 2 ≤ sizeLine; decide, fun T2 hT2 => ?_⟩⟩
      have sT2 : Same H17 (upd H17 T2 (.tup [.ref r2, .ref m2])) := Same.new hT2
      have sBC : Same HB (upd H17 T2 (.tup [.ref r2, .ref m2])) := ((s15.trans s16).trans s17).trans sT2
      have R2 : RW C (upd H17 T2 (.tup [.ref r2, .ref m2])) ([.ref T1] ++ [.ref T2]) ([(e1, m1)] ++ [(e2, m2)]) e m := by
        refine RW.snoc R1 sBC hso hsm he2 ((s15.trans s16).free hm2) (ne_of_none (s16 _ _ hc2.dc) hm2) ⟨T2, r2, t2, v2, rfl, upd_same, ((hc2.same s16).same s17).same sT2, by omega, Mv2.same sT2, by omega, fun z => ?_⟩
        rw [hv2, hvv2]
        dsimp only
        rw [hvu]
        by_cases cz : z = w0
        · rw [if_pos (by simp [cz]), if_pos (by simp [cz])]
        · rw [if_neg (by simp [cz]), if_neg (by simp [cz])]
      have hcC := hcB.same sBC
      have MC := MB.same sBC
      have hwC := sBC _ _ hwB
      have hL1C := sBC _ _ hL1'
      generalize upd H17 T2 (.tup [.ref r2, .ref m2]) = HC at R2 sBC hcC MC hwC hL1C
      have hsoC : ∃ o, HC e = some o := ⟨_, hcC.dc⟩
      have hsmC : ∃ o, HC m = some o := ⟨_, MC.dc⟩
      clear hc2 hv2 hl2 s15 s16 s17 Mv2 hvv2 hlv2 hT2 hr2 he2 hm2 sT2 hsl2
      obtain ⟨⟨dxC, hpC⟩, _⟩ := id hcC
      refine ⟨_, rfl, r, dxC, _, rfl, hpC, rfl, r, e, t, [], rfl, by show 0 ≤ 1000; decide, hcC, by omega, fun r3 e3 H18 t3 hr3 he3 s18 hc3 hv3 hl3' m3 hm3 => ⟨by show 2 ≤ sizeLine; decide, fun T3 hT3 => ⟨by show 2 ≤ sizeLine; decide, fun L2' hL2 => ?_⟩⟩⟩
      have sm3 : Same H18 (upd H18 m3 (.dK [])) := Same.new hm3
      have sT3 : Same (upd H18 m3 (.dK [])) (upd (upd H18 m3 (.dK [])) T3 (.tup [.ref r3, .ref m3])) := Same.new hT3
      have hmT3 := sT3 _ _ (upd_same (H := H18) (a := m3) (o := .dK []))
      have hTT3 : (upd (upd H18 m3 (.dK [])) T3 (.tup [.ref r3, .ref m3])) T3 = some (.tup [.ref r3, .ref m3]) := upd_same
      have sCD0 : Same HC (upd (upd H18 m3 (.dK [])) T3 (.tup [.ref r3, .ref m3])) := (s18.trans sm3).trans sT3
      have hc3D := (hc3.same sm3).same sT3
      generalize upd (upd H18 m3 (.dK [])) T3 (.tup [.ref r3, .ref m3]) = H19 at hmT3 hTT3 sCD0 hc3D hL2
      have sL2 : Same H19 (upd H19 L2' (.lst [.ref T2, .ref T3])) := Same.new hL2
      refine ⟨L1, L2', _, _, rfl, rfl, (sCD0.trans sL2) _ _ hL1C, upd_same, by show 3 ≤ sizeLine; decide, fun L3 hL3 => ?_⟩
      have sL3 : Same (upd H19 L2' (.lst [.ref T2, .ref T3])) (upd (upd H19 L2' (.lst [.ref T2, .ref T3])) L3 (.lst ([.ref T1] ++ [.ref T2, .ref T3]))) := Same.new hL3
      have s19D := sL2.trans sL3
      have sCD := sCD0.trans s19D
      have hL3' : (upd (upd H19 L2' (.lst [.ref T2, .ref T3])) L3 (.lst ([.ref T1] ++ [.ref T2, .ref T3]))) L3 = some (.lst [.ref T1, .ref T2, .ref T3]) := upd_same
      have R3 : RW C (upd (upd H19 L2' (.lst [.ref T2, .ref T3])) L3 (.lst ([.ref T1] ++ [.ref T2, .ref T3]))) [.ref T1, .ref T2, .ref T3] [(e1, m1), (e2, m2), (e3, m3)] e m := by
        refine RW.snoc R2 sCD hsoC hsmC he3 (s18.free hm3) (ne_of_none hc3.dc hm3) ⟨T3, r3, t3, [], rfl, s19D _ _ hTT3, hc3D.same s19D, by omega, ⟨s19D _ _ hmT3, List.nodup_nil, fun _ h => nomatch h⟩, Nat.zero_le _, fun z => ?_⟩
        rw [hv3]
        rfl
      have hcD := hcC.same sCD
      have MD := MC.same sCD
      have hwD := sCD _ _ hwC
      generalize upd (upd H19 L2' (.lst [.ref T2, .ref T3])) L3 (.lst ([.ref T1] ++ [.ref T2, .ref T3])) = HD at R3 sCD hcD MD hwD hL3'
      have hsoD : ∃ o, HD e = some o := ⟨_, hcD.dc⟩
      have hsmD : ∃ o, HD m = some o := ⟨_, MD.dc⟩
      clear hc3 hv3 hl3' s18 hr3 he3 hm3 sT3 hL2 hL3 hmT3 hTT3 sCD0 hc3D sL2 sL3 s19D hT3 sm3
      -- copy, dict(model); Counts().copy(), {}
      obtain ⟨⟨dxD, hpD⟩, _⟩ := id hcD
      refine ⟨_, rfl, _, rfl, r, dxD, _, rfl, hpD, rfl, r, e, t, rfl, hcD, by omega, fun r4 e4 H20 t4 hr4' he4' s20 hc4 hv4' hl4' => ?_⟩
      refine ⟨_, rfl, m, _, rfl, .inl (s20 _ _ MD.dc), fun m4 hm4 => ⟨by show 2 ≤ sizeLine; decide, fun T4 hT4 => ?_⟩⟩
      have sm4 : Same H20 (upd H20 m4 (.dK (tv u))) := Same.new hm4
      have sT4 : Same (upd H20 m4 (.dK (tv u))) (upd (upd H20 m4 (.dK (tv u))) T4 (.tup [.ref r4, .ref m4])) := Same.new hT4
      have R4 : RW C (upd (upd H20 m4 (.dK (tv u))) T4 (.tup [.ref r4, .ref m4])) ([.ref T1, .ref T2, .ref T3] ++ [.ref T4]) ([(e1, m1), (e2, m2), (e3, m3)] ++ [(e4, m4)]) e m := by
        refine RW.snoc R3 ((s20.trans sm4).trans sT4) hsoD hsmD he4' (s20.free hm4) (ne_of_none hc4.dc hm4) ⟨T4, r4, t4, u, rfl, upd_same, (hc4.same sm4).same sT4, by omega, ⟨sT4 _ _ upd_same, MD.nd, MD.wd⟩, by omega, fun z => ?_⟩
        rw [hv4', hvu]
      have sDE : Same HD (upd (upd H20 m4 (.dK (tv u))) T4 (.tup [.ref r4, .ref m4])) := (s20.trans sm4).trans sT4
      have hcE := hcD.same sDE
      have ME := MD.same sDE
      have hwE := sDE _ _ hwD
      have hL3E := sDE _ _ hL3'
      generalize upd (upd H20 m4 (.dK (tv u))) T4 (.tup [.ref r4, .ref m4]) = HE at R4 sDE hcE ME hwE hL3E
      have hsoE : ∃ o, HE e = some o := ⟨_, hcE.dc⟩
      have hsmE : ∃ o, HE m = some o := ⟨_, ME.dc⟩
      clear hc4 hv4' hl4' s20 hr4' he4' hm4 sT4 sm4 hT4
      intro x5 dx5 nx5 ndx5 nex5
      have sMk := made (C := C) nx5 ndx5
      refine ⟨x5, dx5, [], [], rfl, upd_same, .nil, by show 0 ≤ 1000; decide, (fun _ h => nomatch h), fun d5 H21 hd5' hC5 kp5 => ⟨rfl, ?_⟩⟩
      have s21 : Same HE H21 := fun b o e1 => kp5 b o (sMk _ _ e1) (ne_of_none e1 nx5)
      obtain ⟨⟨dx5', hp5'⟩, _⟩ := id hC5
      refine ⟨x5, dx5', _, rfl, hp5', rfl, x5, d5, _, rfl, hC5, by show 0 ≤ 1000; decide, fun r5 e5 H22 t5 hr5 he5 s22 hc5' hv5 hl5 m5 hm5 => ⟨by show 2 ≤ sizeLine; decide, fun T5 hT5 => ⟨by show 2 ≤ sizeLine; decide, fun L4 hL4 => ?_⟩⟩⟩
      have sm5 : Same H22 (upd H22 m5 (.dK [])) := Same.new hm5
      have sT5 : Same (upd H22 m5 (.dK [])) (upd (upd H22 m5 (.dK [])) T5 (.tup [.ref r5, .ref m5])) := Same.new hT5
      have hmT5 := sT5 _ _ (upd_same (H := H22) (a := m5) (o := .dK []))
      have hTT5 : (upd (upd H22 m5 (.dK [])) T5 (.tup [.ref r5, .ref m5])) T5 = some (.tup [.ref r5, .ref m5]) := upd_same
      have sEF0 : Same HE (upd (upd H22 m5 (.dK [])) T5 (.tup [.ref r5, .ref m5])) := ((s21.trans s22).trans sm5).trans sT5
      have hc5D := (hc5'.same sm5).same sT5
      generalize upd (upd H22 m5 (.dK [])) T5 (.tup [.ref r5, .ref m5]) = H23 at hmT5 hTT5 sEF0 hc5D hL4
      have sL4 : Same H23 (upd H23 L4 (.lst [.ref T4, .ref T5])) := Same.new hL4
      refine ⟨L3, L4, _, _, rfl, rfl, (sEF0.trans sL4) _ _ hL3E, upd_same, by show 5 ≤ sizeLine; decide, fun L5 hL5 => ?_⟩
      have sL5 : Same (upd H23 L4 (.lst [.ref T4, .ref T5])) (upd (upd H23 L4 (.lst [.ref T4, .ref T5])) L5 (.lst ([.ref T1, .ref T2, .ref T3] ++ [.ref T4, .ref T5]))) := Same.new hL5
      have s23F := sL4.trans sL5
      have sEF := sEF0.trans s23F
      have hL5' : (upd (upd H23 L4 (.lst [.ref T4, .ref T5])) L5 (.lst ([.ref T1, .ref T2, .ref T3] ++ [.ref T4, .ref T5]))) L5 = some (.lst [.ref T1, .ref T2, .ref T3, .ref T4, .ref T5]) := upd_same
      have R5 : RW C (upd (upd H23 L4 (.lst [.ref T4, .ref T5])) L5 (.lst ([.ref T1, .ref T2, .ref T3] ++ [.ref T4, .ref T5]))) [.ref T1, .ref T2, .ref T3, .ref T4, .ref T5] [(e1, m1), (e2, m2), (e3, m3), (e4, m4), (e5, m5)] e m := by
        refine RW.snoc R4 sEF hsoE hsmE (s21.free he5) ((s21.trans s22).free hm5) (ne_of_none hc5'.dc hm5) ⟨T5, r5, t5, [], rfl, s23F _ _ hTT5, hc5D.same s23F, Nat.le_trans hl5 (by decide), ⟨s23F _ _ hmT5, List.nodup_nil, fun _ h => nomatch h⟩, Nat.zero_le _, fun z => ?_⟩
        rw [hv5]
        rfl
      have hcF := hcE.same sEF
      have MF := ME.same sEF
      have hwF := sEF _ _ hwE
      generalize upd (upd H23 L4 (.lst [.ref T4, .ref T5])) L5 (.lst ([.ref T1, .ref T2, .ref T3] ++ [.ref T4, .ref T5])) = HF at R5 sEF hcF MF hwF hL5'
      have hsoF : ∃ o, HF e = some o := ⟨_, hcF.dc⟩
      have hsmF : ∃ o, HF m = some o := ⟨_, MF.dc⟩
      clear hc5' hv5 hl5 s21 s22 hr5 he5 hm5 sT5 hL4 hL5 hmT5 hTT5 sEF0 hc5D sL4 sL5 s23F hT5 sm5 hC5 kp5 sMk
      -- only(..).copy(), picked
      obtain ⟨⟨dxF, hpF⟩, _⟩ := id hcF
      refine ⟨_, rfl, _, rfl, r, dxF, _, rfl, hpF, rfl, _, rfl, wl, _, 3, _, rfl, rfl, SqL.of hwF, rfl, r, e, t, [w3], rfl, by show 1 ≤ 1000; decide, hcF, by omega, fun r6 e6 H24 t6 hr6 he6 s24 hc6 hv6 hl6 => ?_⟩
      obtain ⟨⟨dx6, hp6⟩, _⟩ := id hc6
      refine ⟨r6, dx6, _, rfl, hp6, rfl, r6, e6, t6, rfl, hc6, by omega, fun r7 e7 H25 t7 hr7 he7 s25 hc7 hv7 hl7 => ?_⟩
      have s2425 := s24.trans s25
      refine ⟨_, rfl, _, rfl, _, rfl, wl, _, rfl, SqL.of (s2425 _ _ hwF), fun sl6 hsl6 => ?_⟩
      have ec3 : cutV ([w0, w1, w2, w3].map V.str) (some 3) none = [w3].map V.str := rfl
      rw [ec3]
      have s26 : Same H25 (upd H25 sl6 (.lst ([w3].map V.str))) := Same.new hsl6
      refine ⟨m, sl6, u, [w3], rfl, (MF.same s2425).same s26, by omega, upd_same, fun m7 H27 v7 hm7 s27 Mv7 hvv7 hlv7 => ⟨by show 2 ≤ sizeLine; decide, fun T7 hT7 => ⟨by show 1 ≤ sizeLine; decide, fun L6 hL6 => ?_⟩⟩⟩
      have sT7 : Same H27 (upd H27 T7 (.tup [.ref r7, .ref m7])) := Same.new hT7
      have hTT7 : (upd H27 T7 (.tup [.ref r7, .ref m7])) T7 = some (.tup [.ref r7, .ref m7]) := upd_same
      have sFG0 : Same HF (upd H27 T7 (.tup [.ref r7, .ref m7])) := ((s2425.trans s26).trans s27).trans sT7
      have hc7D := ((hc7.same s26).same s27).same sT7
      have Mv7D := Mv7.same sT7
      generalize upd H27 T7 (.tup [.ref r7, .ref m7]) = H28 at hTT7 sFG0 hc7D Mv7D hL6
      have sL6 : Same H28 (upd H28 L6 (.lst [.ref T7])) := Same.new hL6
      refine ⟨L5, L6, _, _, rfl, rfl, (sFG0.trans sL6) _ _ hL5', upd_same, by show 6 ≤ sizeLine; decide, fun L hL => ?_⟩
      have sL7 : Same (upd H28 L6 (.lst [.ref T7])) (upd (upd H28 L6 (.lst [.ref T7])) L (.lst ([.ref T1, .ref T2, .ref T3, .ref T4, .ref T5] ++ [.ref T7]))) := Same.new hL
      have s28G := sL6.trans sL7
      have sFG := sFG0.trans s28G
      have hLG : (upd (upd H28 L6 (.lst [.ref T7])) L (.lst ([.ref T1, .ref T2, .ref T3, .ref T4, .ref T5] ++ [.ref T7]))) L = some (.lst [.ref T1, .ref T2, .ref T3, .ref T4, .ref T5, .ref T7]) := upd_same
      have R6 : RW C (upd (upd H28 L6 (.lst [.ref T7])) L (.lst ([.ref T1, .ref T2, .ref T3, .ref T4, .ref T5] ++ [.ref T7]))) [.ref T1, .ref T2, .ref T3, .ref T4, .ref T5, .ref T7] [(e1, m1), (e2, m2), (e3, m3), (e4, m4), (e5, m5), (e7, m7)] e m := by
        refine RW.snoc R5 sFG hsoF hsmF (s24.free he7) ((s2425.trans s26).free hm7) (ne_of_none (s26 _ _ hc7.dc) hm7) ⟨T7, r7, t7, v7, rfl, s28G _ _ hTT7, hc7D.same s28G, by omega, Mv7D.same s28G, by omega, fun z => ?_⟩
        rw [hv7, hv6, hvv7]
        dsimp only
        rw [hvu]
      have hcG := hcF.same sFG
      have MG := MF.same sFG
      generalize upd (upd H28 L6 (.lst [.ref T7])) L (.lst ([.ref T1, .ref T2, .ref T3, .ref T4, .ref T5] ++ [.ref T7])) = HG at R6 sFG hcG MG hLG
      clear hc6 hv6 hl6 hc7 hv7 hl7 s24 s25 s2425 s26 s27 Mv7 hvv7 hlv7 hT7 hr6 he6 hr7 he7 hm7 sT7 hTT7 sFG0 hc7D Mv7D hL6 hL sL6 sL7 s28G hsl6
      generalize [(e1, m1), (e2, m2), (e3, m3), (e4, m4), (e5, m5), (e7, m7)] = as at R6
      generalize [V.ref T1, .ref T2, .ref T3, .ref T4, .ref T5, .ref T7] = rs at R6 hLG
      obtain ⟨Rok, Rpw, Rown⟩ := R6
      have hlen2 := pair_len Rok
      -- the loop over the rows
      refine ⟨_, rfl, L, rfl, ⟨_, SqL.of hLG⟩, for_list (K := K) (a := L) (xs := rs) (fun i σ' H' => (∃ x10 x11 : Option V, σ' = [some (.ref a), some (.ref p), some (.ref q), some (.ref m), some (.ref r), some (.ref wl), x6, x7, some (.ref th), some (.ref L), x10, x11, none]) ∧ H' L = some (.lst rs) ∧ Cnt C H' r e t ∧ Mdl H' m u ∧ Paired (RowOk C H') (rs.drop i) (as.drop i))
        ⟨⟨_, _, rfl⟩, hLG, hcG, MG, Rok⟩ (fun i σ' H' _ h => SqL.of h.2.1) ?_ ?_⟩
      · rintro i y σ' H' hy ⟨⟨x10, x11, rfl⟩, hL', hc', M', Rk⟩
        have hi : i < rs.length := (List.getElem?_eq_some_iff.mp hy).1
        have hi2 : i < as.length := by omega
        rw [List.drop_eq_getElem_cons hi, List.drop_eq_getElem_cons hi2] at Rk
        have ey : rs[i] = y := by rw [List.getElem?_eq_getElem hi] at hy; exact Option.some.inj hy
        generalize hA : as[i] = aa at Rk
        have hmemA : aa ∈ as := by rw [← hA]; exact List.getElem_mem hi2
        cases Rk with
        | cons rk Rk =>
          obtain ⟨T0, r0, t0, u0, e0, hT0, hc0, hl0, hm0, hlu0, hv0⟩ := rk
          rw [ey] at e0
          subst e0
          refine ⟨T0, _, rfl, SqT.of hT0, rfl, _, _, rfl, _, _, rfl, rfl, ?_⟩
          refine ⟨_, rfl, _, rfl, r0, aa.1, aa.2, t0, u0, rfl, hc0, by omega, hm0, by omega, hv0, fun H'' s'' => ⟨_, rfl, iteF ?_⟩⟩
          obtain ⟨na, nd1, nd2, nd3, nd4⟩ := Rown aa hmemA
          refine ⟨_, rfl, _, rfl, _, rfl, _, rfl, r, e, m, r0, aa.1, aa.2, t, u, t0, u0, rfl, hc'.same s'', by omega, M'.same s'', by omega, hvu, hc0.same s'', hl0, hm0.same s'', hlu0, hv0, nd1, nd2, nd3, nd4, na, fun H3' kk => ⟨_, rfl, iteF ?_⟩⟩
          have kk2 : ∀ b o, H' b = some o → b ≠ aa.1 → b ≠ aa.2 → H3' b = some o := fun b o e1 n1 n2 => kk b o (s'' _ _ e1) n1 n2
          have dif : ∀ {b : Addr} {o : HO}, H' b = some o → (∀ kvs, o ≠ .dK kvs) → H3' b = some o := fun {b o} e1 nn => kk2 b o e1 (by rintro rfl; rw [hc0.dc] at e1; exact nn _ (Option.some.inj e1).symm) (by rintro rfl; rw [hm0.dc] at e1; exact nn _ (Option.some.inj e1).symm)
          have cnt : ∀ {rr ee : Addr} {tt : Tab}, Cnt C H' rr ee tt → ee ≠ aa.1 → ee ≠ aa.2 → Cnt C H3' rr ee tt := fun {rr ee tt} h n1 n2 => by
            obtain ⟨⟨dd, a1⟩, b1, c1, d1⟩ := h
            exact ⟨⟨dd, dif a1 (fun _ q => by cases q)⟩, kk2 _ _ b1 n1 n2, c1, d1⟩
          have mdl : ∀ {mm : Addr} {uu : Tab}, Mdl H' mm uu → mm ≠ aa.1 → mm ≠ aa.2 → Mdl H3' mm uu := fun {mm uu} h n1 n2 => ⟨kk2 _ _ h.dc n1 n2, h.nd, h.wd⟩
          refine ⟨⟨_, _, rfl⟩, dif hL' (fun _ q => by cases q), cnt hc' nd1 nd2, mdl M' nd3 nd4, ?_⟩
          have pwi : ∀ b ∈ as.drop (i + 1), Dif aa b := by
            have := Rpw
            rw [← List.take_append_drop i as, List.pairwise_append, List.drop_eq_getElem_cons hi2] at this
            rw [← hA]
            exact (List.pairwise_cons.mp this.2.1).1
          have step : ∀ {ys : List V} {bs : List (Addr × Addr)}, Paired (RowOk C H') ys bs → (∀ b ∈ bs, Dif aa b) → Paired (RowOk C H3') ys bs := by
            intro ys bs hpb
            induction hpb with
            | nil => intro _; exact .nil
            | cons hr _ ih =>
              intro hd
              refine .cons ?_ (ih fun b hb => hd b (List.mem_cons_of_mem _ hb))
              obtain ⟨Tb, rb, tb, ub, eb, hTb, hcb, hlb, hmb, hlub, hvb⟩ := hr
              obtain ⟨q1, q2, q3, q4⟩ := hd _ List.mem_cons_self
              exact ⟨Tb, rb, tb, ub, eb, dif hTb (fun _ q => by cases q), cnt hcb q1.symm q3.symm, hlb, mdl hmb q2.symm q4.symm, hlub, hvb⟩
          exact step Rk pwi
      · rintro σ' H' ⟨⟨x10, x11, rfl⟩, hL', hc', M', _⟩
        exact ⟨_, rfl, _, rfl, r, e, m, t, u, rfl, hc', by omega, M', by omega, hvu, fun H'' s'' => k H''⟩
end
end Cs

set_option Elab.async false
set_option linter.all false
set_option maxRecDepth 100000
set_option maxHeartbeats 8000000
namespace Cs
open PySem L2
theorem all_mk {l : PySem.W.OpenLaw} {w : World} {K : PySem.W.Frag} {h : Heap} {mg : Str → Option Value} {fa : Addr} (X : K.In h) (G : h.Ns mainGlobals mg) (hfa : mg "law" = some (.ref fa))
    {f_isint : Addr} {oc_isint kV_isint dc_isint pm_isint cd_isint ct_isint : Value} {od_isint an_isint : Option Addr} {sl_isint : Array (Option Value)}
    {f_isword : Addr} {oc_isword kV_isword dc_isword pm_isword cd_isword ct_isword : Value} {od_isword an_isword : Option Addr} {sl_isword : Array (Option Value)}
    {f_issmall : Addr} {oc_issmall kV_issmall dc_issmall pm_issmall cd_issmall ct_issmall : Value} {od_issmall an_issmall : Option Addr} {sl_issmall : Array (Option Value)}
    {f_distinct : Addr} {oc_distinct kV_distinct dc_distinct pm_distinct cd_distinct ct_distinct : Value} {od_distinct an_distinct : Option Addr} {sl_distinct : Array (Option Value)}
    {f_ispair : Addr} {oc_ispair kV_ispair dc_ispair pm_ispair cd_ispair ct_ispair : Value} {od_ispair an_ispair : Option Addr} {sl_ispair : Array (Option Value)}
    {f_source : Addr} {oc_source kV_source dc_source pm_source cd_source ct_source : Value} {od_source an_source : Option Addr} {sl_source : Array (Option Value)}
    {f_mixed : Addr} {oc_mixed kV_mixed dc_mixed pm_mixed cd_mixed ct_mixed : Value} {od_mixed an_mixed : Option Addr} {sl_mixed : Array (Option Value)}
    {f_draw : Addr} {oc_draw kV_draw dc_draw pm_draw cd_draw ct_draw : Value} {od_draw an_draw : Option Addr} {sl_draw : Array (Option Value)}
    {f_word : Addr} {oc_word kV_word dc_word pm_word cd_word ct_word : Value} {od_word an_word : Option Addr} {sl_word : Array (Option Value)}
    {f_number : Addr} {oc_number kV_number dc_number pm_number cd_number ct_number : Value} {od_number an_number : Option Addr} {sl_number : Array (Option Value)}
    {f_pairs : Addr} {oc_pairs kV_pairs dc_pairs pm_pairs cd_pairs ct_pairs : Value} {od_pairs an_pairs : Option Addr} {sl_pairs : Array (Option Value)}
    {f_model : Addr} {oc_model kV_model dc_model pm_model cd_model ct_model : Value} {od_model an_model : Option Addr} {sl_model : Array (Option Value)}
    {f_told : Addr} {oc_told kV_told dc_told pm_told cd_told ct_told : Value} {od_told an_told : Option Addr} {sl_told : Array (Option Value)}
    {f_lint : Addr} {oc_lint kV_lint dc_lint pm_lint cd_lint ct_lint : Value} {od_lint an_lint : Option Addr} {sl_lint : Array (Option Value)}
    {f_equal : Addr} {oc_equal kV_equal dc_equal pm_equal cd_equal ct_equal : Value} {od_equal an_equal : Option Addr} {sl_equal : Array (Option Value)}
    {f_picked : Addr} {oc_picked kV_picked dc_picked pm_picked cd_picked ct_picked : Value} {od_picked an_picked : Option Addr} {sl_picked : Array (Option Value)}
    {f_apart : Addr} {oc_apart kV_apart dc_apart pm_apart cd_apart ct_apart : Value} {od_apart an_apart : Option Addr} {sl_apart : Array (Option Value)}
    {f_law : Addr} {oc_law kV_law dc_law pm_law cd_law ct_law : Value} {od_law an_law : Option Addr} {sl_law : Array (Option Value)}
    {C : Addr}
    {f_init : Addr} {oc_init kV_init dc_init pm_init cd_init ct_init : Value} {od_init an_init : Option Addr} {sl_init : Array (Option Value)}
    {f_mwords : Addr} {oc_mwords kV_mwords dc_mwords pm_mwords cd_mwords ct_mwords : Value} {od_mwords an_mwords : Option Addr} {sl_mwords : Array (Option Value)}
    {f_mpairs : Addr} {oc_mpairs kV_mpairs dc_mpairs pm_mpairs cd_mpairs ct_mpairs : Value} {od_mpairs an_mpairs : Option Addr} {sl_mpairs : Array (Option Value)}
    {f_mcopy : Addr} {oc_mcopy kV_mcopy dc_mcopy pm_mcopy cd_mcopy ct_mcopy : Value} {od_mcopy an_mcopy : Option Addr} {sl_mcopy : Array (Option Value)}
    {f_monly : Addr} {oc_monly kV_monly dc_monly pm_monly cd_monly ct_monly : Value} {od_monly an_monly : Option Addr} {sl_monly : Array (Option Value)}
    {f_mlen : Addr} {oc_mlen kV_mlen dc_mlen pm_mlen cd_mlen ct_mlen : Value} {od_mlen an_mlen : Option Addr} {sl_mlen : Array (Option Value)}
    {f_mset : Addr} {oc_mset kV_mset dc_mset pm_mset cd_mset ct_mset : Value} {od_mset an_mset : Option Addr} {sl_mset : Array (Option Value)}
    {q_mof : Addr} {r_mof : List Value}
    {f_mof : Addr} {oc_mof kV_mof dc_mof pm_mof cd_mof ct_mof : Value} {od_mof an_mof : Option Addr} {sl_mof : Array (Option Value)}
    {q_mtotal : Addr} {r_mtotal : List Value}
    {f_mtotal : Addr} {oc_mtotal kV_mtotal dc_mtotal pm_mtotal cd_mtotal ct_mtotal : Value} {od_mtotal an_mtotal : Option Addr} {sl_mtotal : Array (Option Value)}
    {tk_LET : Tok}
    (a_isint : PySem.W.nsIn K mainGlobals "is_integer" = some (some (.ref f_isint)))
    (l_isint : K.lookup f_isint = some ⟨oc_isint, od_isint, .func (PySem.W.fnOf "is_integer" "is_integer" (defArgs s_is_integer) (defBody s_is_integer) (defScope s_is_integer) .none kV_isint dc_isint pm_isint an_isint cd_isint ct_isint), sl_isint⟩)
    (c_isint : PySem.W.codeIn K cd_isint "is_integer" = true)
    (k_isint : PySem.W.keepIn K (.ref f_isint) = true)
    (a_isword : PySem.W.nsIn K mainGlobals "is_word" = some (some (.ref f_isword)))
    (l_isword : K.lookup f_isword = some ⟨oc_isword, od_isword, .func (PySem.W.fnOf "is_word" "is_word" (defArgs s_is_word) (defBody s_is_word) (defScope s_is_word) .none kV_isword dc_isword pm_isword an_isword cd_isword ct_isword), sl_isword⟩)
    (c_isword : PySem.W.codeIn K cd_isword "is_word" = true)
    (k_isword : PySem.W.keepIn K (.ref f_isword) = true)
    (a_issmall : PySem.W.nsIn K mainGlobals "is_small" = some (some (.ref f_issmall)))
    (l_issmall : K.lookup f_issmall = some ⟨oc_issmall, od_issmall, .func (PySem.W.fnOf "is_small" "is_small" (defArgs s_is_small) (defBody s_is_small) (defScope s_is_small) .none kV_issmall dc_issmall pm_issmall an_issmall cd_issmall ct_issmall), sl_issmall⟩)
    (c_issmall : PySem.W.codeIn K cd_issmall "is_small" = true)
    (k_issmall : PySem.W.keepIn K (.ref f_issmall) = true)
    (a_distinct : PySem.W.nsIn K mainGlobals "distinct" = some (some (.ref f_distinct)))
    (l_distinct : K.lookup f_distinct = some ⟨oc_distinct, od_distinct, .func (PySem.W.fnOf "distinct" "distinct" (defArgs s_distinct) (defBody s_distinct) (defScope s_distinct) .none kV_distinct dc_distinct pm_distinct an_distinct cd_distinct ct_distinct), sl_distinct⟩)
    (c_distinct : PySem.W.codeIn K cd_distinct "distinct" = true)
    (k_distinct : PySem.W.keepIn K (.ref f_distinct) = true)
    (a_ispair : PySem.W.nsIn K mainGlobals "is_pair" = some (some (.ref f_ispair)))
    (l_ispair : K.lookup f_ispair = some ⟨oc_ispair, od_ispair, .func (PySem.W.fnOf "is_pair" "is_pair" (defArgs s_is_pair) (defBody s_is_pair) (defScope s_is_pair) .none kV_ispair dc_ispair pm_ispair an_ispair cd_ispair ct_ispair), sl_ispair⟩)
    (c_ispair : PySem.W.codeIn K cd_ispair "is_pair" = true)
    (k_ispair : PySem.W.keepIn K (.ref f_ispair) = true)
    (a_source : PySem.W.nsIn K mainGlobals "_law_source" = some (some (.ref f_source)))
    (l_source : K.lookup f_source = some ⟨oc_source, od_source, .func (PySem.W.fnOf "_law_source" "_law_source" (defArgs s_l_source) (defBody s_l_source) (defScope s_l_source) .none kV_source dc_source pm_source an_source cd_source ct_source), sl_source⟩)
    (c_source : PySem.W.codeIn K cd_source "_law_source" = true)
    (k_source : PySem.W.keepIn K (.ref f_source) = true)
    (a_mixed : PySem.W.nsIn K mainGlobals "_law_mixed" = some (some (.ref f_mixed)))
    (l_mixed : K.lookup f_mixed = some ⟨oc_mixed, od_mixed, .func (PySem.W.fnOf "_law_mixed" "_law_mixed" (defArgs s_l_mixed) (defBody s_l_mixed) (defScope s_l_mixed) .none kV_mixed dc_mixed pm_mixed an_mixed cd_mixed ct_mixed), sl_mixed⟩)
    (c_mixed : PySem.W.codeIn K cd_mixed "_law_mixed" = true)
    (k_mixed : PySem.W.keepIn K (.ref f_mixed) = true)
    (a_draw : PySem.W.nsIn K mainGlobals "_law_draw" = some (some (.ref f_draw)))
    (l_draw : K.lookup f_draw = some ⟨oc_draw, od_draw, .func (PySem.W.fnOf "_law_draw" "_law_draw" (defArgs s_l_draw) (defBody s_l_draw) (defScope s_l_draw) .none kV_draw dc_draw pm_draw an_draw cd_draw ct_draw), sl_draw⟩)
    (c_draw : PySem.W.codeIn K cd_draw "_law_draw" = true)
    (k_draw : PySem.W.keepIn K (.ref f_draw) = true)
    (a_word : PySem.W.nsIn K mainGlobals "_law_word" = some (some (.ref f_word)))
    (l_word : K.lookup f_word = some ⟨oc_word, od_word, .func (PySem.W.fnOf "_law_word" "_law_word" (defArgs s_l_word) (defBody s_l_word) (defScope s_l_word) .none kV_word dc_word pm_word an_word cd_word ct_word), sl_word⟩)
    (c_word : PySem.W.codeIn K cd_word "_law_word" = true)
    (k_word : PySem.W.keepIn K (.ref f_word) = true)
    (a_number : PySem.W.nsIn K mainGlobals "_law_number" = some (some (.ref f_number)))
    (l_number : K.lookup f_number = some ⟨oc_number, od_number, .func (PySem.W.fnOf "_law_number" "_law_number" (defArgs s_l_number) (defBody s_l_number) (defScope s_l_number) .none kV_number dc_number pm_number an_number cd_number ct_number), sl_number⟩)
    (c_number : PySem.W.codeIn K cd_number "_law_number" = true)
    (k_number : PySem.W.keepIn K (.ref f_number) = true)
    (a_pairs : PySem.W.nsIn K mainGlobals "_law_pairs" = some (some (.ref f_pairs)))
    (l_pairs : K.lookup f_pairs = some ⟨oc_pairs, od_pairs, .func (PySem.W.fnOf "_law_pairs" "_law_pairs" (defArgs s_l_pairs) (defBody s_l_pairs) (defScope s_l_pairs) .none kV_pairs dc_pairs pm_pairs an_pairs cd_pairs ct_pairs), sl_pairs⟩)
    (c_pairs : PySem.W.codeIn K cd_pairs "_law_pairs" = true)
    (k_pairs : PySem.W.keepIn K (.ref f_pairs) = true)
    (a_model : PySem.W.nsIn K mainGlobals "_law_model" = some (some (.ref f_model)))
    (l_model : K.lookup f_model = some ⟨oc_model, od_model, .func (PySem.W.fnOf "_law_model" "_law_model" (defArgs s_l_model) (defBody s_l_model) (defScope s_l_model) .none kV_model dc_model pm_model an_model cd_model ct_model), sl_model⟩)
    (c_model : PySem.W.codeIn K cd_model "_law_model" = true)
    (k_model : PySem.W.keepIn K (.ref f_model) = true)
    (a_told : PySem.W.nsIn K mainGlobals "_law_told" = some (some (.ref f_told)))
    (l_told : K.lookup f_told = some ⟨oc_told, od_told, .func (PySem.W.fnOf "_law_told" "_law_told" (defArgs s_l_told) (defBody s_l_told) (defScope s_l_told) .none kV_told dc_told pm_told an_told cd_told ct_told), sl_told⟩)
    (c_told : PySem.W.codeIn K cd_told "_law_told" = true)
    (k_told : PySem.W.keepIn K (.ref f_told) = true)
    (a_lint : PySem.W.nsIn K mainGlobals "_law_is_integer" = some (some (.ref f_lint)))
    (l_lint : K.lookup f_lint = some ⟨oc_lint, od_lint, .func (PySem.W.fnOf "_law_is_integer" "_law_is_integer" (defArgs s_l_is_integer) (defBody s_l_is_integer) (defScope s_l_is_integer) .none kV_lint dc_lint pm_lint an_lint cd_lint ct_lint), sl_lint⟩)
    (c_lint : PySem.W.codeIn K cd_lint "_law_is_integer" = true)
    (k_lint : PySem.W.keepIn K (.ref f_lint) = true)
    (a_equal : PySem.W.nsIn K mainGlobals "_law_equal" = some (some (.ref f_equal)))
    (l_equal : K.lookup f_equal = some ⟨oc_equal, od_equal, .func (PySem.W.fnOf "_law_equal" "_law_equal" (defArgs s_l_equal) (defBody s_l_equal) (defScope s_l_equal) .none kV_equal dc_equal pm_equal an_equal cd_equal ct_equal), sl_equal⟩)
    (c_equal : PySem.W.codeIn K cd_equal "_law_equal" = true)
    (k_equal : PySem.W.keepIn K (.ref f_equal) = true)
    (a_picked : PySem.W.nsIn K mainGlobals "_law_picked" = some (some (.ref f_picked)))
    (l_picked : K.lookup f_picked = some ⟨oc_picked, od_picked, .func (PySem.W.fnOf "_law_picked" "_law_picked" (defArgs s_l_picked) (defBody s_l_picked) (defScope s_l_picked) .none kV_picked dc_picked pm_picked an_picked cd_picked ct_picked), sl_picked⟩)
    (c_picked : PySem.W.codeIn K cd_picked "_law_picked" = true)
    (k_picked : PySem.W.keepIn K (.ref f_picked) = true)
    (a_apart : PySem.W.nsIn K mainGlobals "_law_apart" = some (some (.ref f_apart)))
    (l_apart : K.lookup f_apart = some ⟨oc_apart, od_apart, .func (PySem.W.fnOf "_law_apart" "_law_apart" (defArgs s_l_apart) (defBody s_l_apart) (defScope s_l_apart) .none kV_apart dc_apart pm_apart an_apart cd_apart ct_apart), sl_apart⟩)
    (c_apart : PySem.W.codeIn K cd_apart "_law_apart" = true)
    (k_apart : PySem.W.keepIn K (.ref f_apart) = true)
    (a_law : PySem.W.nsIn K mainGlobals "law" = some (some (.ref f_law)))
    (l_law : K.lookup f_law = some ⟨oc_law, od_law, .func (PySem.W.fnOf "law" "law" (defArgs s_law) (defBody s_law) (defScope s_law) .none kV_law dc_law pm_law an_law cd_law ct_law), sl_law⟩)
    (c_law : PySem.W.codeIn K cd_law "law" = true)
    (k_law : PySem.W.keepIn K (.ref f_law) = true)
    (a_C : PySem.W.nsIn K mainGlobals "Counts" = some (some (.ref C)))
    (pg_C : PySem.W.plainGet K C Str.empty = true)
    (hd_C : PySem.W.hasDictIn K C = true)
    (po_C : PySem.W.plainOver K C = true)
    (sa_C : PySem.W.findIn K (.ref C) "__setattr__" = some (some (.builtin "object.__setattr__")))
    (mk_C : PySem.W.makesIn K C = true)
    (kc_C : PySem.W.keepIn K (.ref C) = true)
    (ns_C : PySem.W.noSeq K C = true)
    (n_C_held : PySem.W.findIn K (.ref C) "held" = some none)
    (a_init : PySem.W.findIn K (.ref C) "__init__" = some (some (.ref f_init)))
    (i_init : PySem.W.isFn K (.ref f_init) = true)
    (l_init : K.lookup f_init = some ⟨oc_init, od_init, .func (PySem.W.fnOf "__init__" "Counts.__init__" (defArgs s_Counts_init) (defBody s_Counts_init) (defScope s_Counts_init) .none kV_init dc_init pm_init an_init cd_init ct_init), sl_init⟩)
    (c_init : PySem.W.codeIn K cd_init "Counts.__init__" = true)
    (k_init : PySem.W.keepIn K (.ref f_init) = true)
    (a_mwords : PySem.W.findIn K (.ref C) "words" = some (some (.ref f_mwords)))
    (i_mwords : PySem.W.isFn K (.ref f_mwords) = true)
    (l_mwords : K.lookup f_mwords = some ⟨oc_mwords, od_mwords, .func (PySem.W.fnOf "words" "Counts.words" (defArgs s_Counts_words) (defBody s_Counts_words) (defScope s_Counts_words) .none kV_mwords dc_mwords pm_mwords an_mwords cd_mwords ct_mwords), sl_mwords⟩)
    (c_mwords : PySem.W.codeIn K cd_mwords "Counts.words" = true)
    (k_mwords : PySem.W.keepIn K (.ref f_mwords) = true)
    (a_mpairs : PySem.W.findIn K (.ref C) "pairs" = some (some (.ref f_mpairs)))
    (i_mpairs : PySem.W.isFn K (.ref f_mpairs) = true)
    (l_mpairs : K.lookup f_mpairs = some ⟨oc_mpairs, od_mpairs, .func (PySem.W.fnOf "pairs" "Counts.pairs" (defArgs s_Counts_pairs) (defBody s_Counts_pairs) (defScope s_Counts_pairs) .none kV_mpairs dc_mpairs pm_mpairs an_mpairs cd_mpairs ct_mpairs), sl_mpairs⟩)
    (c_mpairs : PySem.W.codeIn K cd_mpairs "Counts.pairs" = true)
    (k_mpairs : PySem.W.keepIn K (.ref f_mpairs) = true)
    (a_mcopy : PySem.W.findIn K (.ref C) "copy" = some (some (.ref f_mcopy)))
    (i_mcopy : PySem.W.isFn K (.ref f_mcopy) = true)
    (l_mcopy : K.lookup f_mcopy = some ⟨oc_mcopy, od_mcopy, .func (PySem.W.fnOf "copy" "Counts.copy" (defArgs s_Counts_copy) (defBody s_Counts_copy) (defScope s_Counts_copy) .none kV_mcopy dc_mcopy pm_mcopy an_mcopy cd_mcopy ct_mcopy), sl_mcopy⟩)
    (c_mcopy : PySem.W.codeIn K cd_mcopy "Counts.copy" = true)
    (k_mcopy : PySem.W.keepIn K (.ref f_mcopy) = true)
    (a_monly : PySem.W.findIn K (.ref C) "only" = some (some (.ref f_monly)))
    (i_monly : PySem.W.isFn K (.ref f_monly) = true)
    (l_monly : K.lookup f_monly = some ⟨oc_monly, od_monly, .func (PySem.W.fnOf "only" "Counts.only" (defArgs s_Counts_only) (defBody s_Counts_only) (defScope s_Counts_only) .none kV_monly dc_monly pm_monly an_monly cd_monly ct_monly), sl_monly⟩)
    (c_monly : PySem.W.codeIn K cd_monly "Counts.only" = true)
    (k_monly : PySem.W.keepIn K (.ref f_monly) = true)
    (a_mlen : PySem.W.findIn K (.ref C) "__len__" = some (some (.ref f_mlen)))
    (i_mlen : PySem.W.isFn K (.ref f_mlen) = true)
    (l_mlen : K.lookup f_mlen = some ⟨oc_mlen, od_mlen, .func (PySem.W.fnOf "__len__" "Counts.__len__" (defArgs s_Counts_len) (defBody s_Counts_len) (defScope s_Counts_len) .none kV_mlen dc_mlen pm_mlen an_mlen cd_mlen ct_mlen), sl_mlen⟩)
    (c_mlen : PySem.W.codeIn K cd_mlen "Counts.__len__" = true)
    (k_mlen : PySem.W.keepIn K (.ref f_mlen) = true)
    (a_mset : PySem.W.findIn K (.ref C) "__setitem__" = some (some (.ref f_mset)))
    (i_mset : PySem.W.isFn K (.ref f_mset) = true)
    (l_mset : K.lookup f_mset = some ⟨oc_mset, od_mset, .func (PySem.W.fnOf "__setitem__" "Counts.__setitem__" (defArgs s_Counts_setitem) (defBody s_Counts_setitem) (defScope s_Counts_setitem) .none kV_mset dc_mset pm_mset an_mset cd_mset ct_mset), sl_mset⟩)
    (c_mset : PySem.W.codeIn K cd_mset "Counts.__setitem__" = true)
    (k_mset : PySem.W.keepIn K (.ref f_mset) = true)
    (a_mof : PySem.W.findCls K (.ref C) (.type "type") "of" = some (.get (.builtin "classmethod.__get__") (.ref q_mof) .none (.ref C)))
    (rc_mof : PySem.W.recIn K q_mof "classmethod" = some (.ref f_mof :: r_mof))
    (l_mof : K.lookup f_mof = some ⟨oc_mof, od_mof, .func (PySem.W.fnOf "of" "Counts.of" (defArgs s_Counts_of) (defBody s_Counts_of) (defScope s_Counts_of) .none kV_mof dc_mof pm_mof an_mof cd_mof ct_mof), sl_mof⟩)
    (c_mof : PySem.W.codeIn K cd_mof "Counts.of" = true)
    (fi_mof : PySem.W.fnIn K f_mof = true)
    (k_mof : PySem.W.keepIn K (.ref f_mof) = true)
    (a_mtotal : PySem.W.findIn K (.ref C) "total" = some (some (.ref q_mtotal)))
    (g_mtotal : PySem.W.specialIn K (.ref q_mtotal) "__get__" = some (some (.builtin "property.__get__")))
    (t_mtotal : PySem.W.takesIn K (.ref q_mtotal) = some true)
    (rc_mtotal : PySem.W.recIn K q_mtotal "property" = some (.ref f_mtotal :: r_mtotal))
    (l_mtotal : K.lookup f_mtotal = some ⟨oc_mtotal, od_mtotal, .func (PySem.W.fnOf "total" "Counts.total" (defArgs s_Counts_total) (defBody s_Counts_total) (defScope s_Counts_total) .none kV_mtotal dc_mtotal pm_mtotal an_mtotal cd_mtotal ct_mtotal), sl_mtotal⟩)
    (c_mtotal : PySem.W.codeIn K cd_mtotal "Counts.total" = true)
    (k_mtotal : PySem.W.keepIn K (.ref f_mtotal) = true)
    (rd_C : PySem.W.readsIn K C (.type "type") = true)
    (ga_C : PySem.W.specialIn K (.ref C) "__getattribute__" = some (some (.builtin "type.__getattribute__")))
    (a_LET : PySem.W.nsIn K mainGlobals "LETTERS" = some (some (.str LET tk_LET)))
    (z_len : PySem.W.nsIn K mainGlobals "len" = some none)
    (z_int : PySem.W.nsIn K mainGlobals "int" = some none)
    (z_abs : PySem.W.nsIn K mainGlobals "abs" = some none)
    (z_list : PySem.W.nsIn K mainGlobals "list" = some none)
    (z_range : PySem.W.nsIn K mainGlobals "range" = some none)
    (z_sorted : PySem.W.nsIn K mainGlobals "sorted" = some none)
    (z_str : PySem.W.nsIn K mainGlobals "str" = some none)
    (z_isinstance : PySem.W.nsIn K mainGlobals "isinstance" = some none)
    (z_sum : PySem.W.nsIn K mainGlobals "sum" = some none)
    (z_tuple : PySem.W.nsIn K mainGlobals "tuple" = some none)
    (z_dict : PySem.W.nsIn K mainGlobals "dict" = some none)
    (z_all : PySem.W.nsIn K mainGlobals "all" = some none)
    (z_bool : PySem.W.nsIn K mainGlobals "bool" = some none)
    (z_enumerate : PySem.W.nsIn K mainGlobals "enumerate" = some none)
    : ∃ fd : FuncData, (∀ (s : Shared) (v : Value), BindsTo s fd ⟨[v], []⟩ [("_law_script", v)]) ∧ ∀ base : Heap, K.In base → base.Ns mainGlobals mg → FnOk l.prog w K mg base CX0 6 fa fd ["_law_script"] (spLaw K) := by
  have e := hfa.symm.trans (PySem.W.mg_of X G a_law)
  cases e
  have g : Bi mg := ⟨PySem.W.mg_none_of X G z_len, PySem.W.mg_none_of X G z_int, PySem.W.mg_none_of X G z_abs, PySem.W.mg_none_of X G z_list, PySem.W.mg_none_of X G z_range, PySem.W.mg_none_of X G z_sorted, PySem.W.mg_none_of X G z_str, PySem.W.mg_none_of X G z_isinstance, PySem.W.mg_none_of X G z_sum, PySem.W.mg_none_of X G z_tuple, PySem.W.mg_none_of X G z_dict, PySem.W.mg_none_of X G z_all, PySem.W.mg_none_of X G z_bool, PySem.W.mg_none_of X G z_enumerate⟩
  have F_isint := fun_mk (st := s_is_integer) l_isint c_isint k_isint
  have b_isint := F_isint.binds (ps := ["thing"]) fun _ _ _ _ _ _ us hl => match us, hl with | [_], _ => rfl
  have F_isword := fun_mk (st := s_is_word) l_isword c_isword k_isword
  have b_isword := F_isword.binds (ps := ["thing"]) fun _ _ _ _ _ _ us hl => match us, hl with | [_], _ => rfl
  have F_issmall := fun_mk (st := s_is_small) l_issmall c_issmall k_issmall
  have b_issmall := F_issmall.binds (ps := ["thing"]) fun _ _ _ _ _ _ us hl => match us, hl with | [_], _ => rfl
  have F_distinct := fun_mk (st := s_distinct) l_distinct c_distinct k_distinct
  have b_distinct := F_distinct.binds (ps := ["words"]) fun _ _ _ _ _ _ us hl => match us, hl with | [_], _ => rfl
  have F_ispair := fun_mk (st := s_is_pair) l_ispair c_ispair k_ispair
  have b_ispair := F_ispair.binds (ps := ["thing"]) fun _ _ _ _ _ _ us hl => match us, hl with | [_], _ => rfl
  have F_source := fun_mk (st := s_l_source) l_source c_source k_source
  have b_source := F_source.binds (ps := ["_law_script"]) fun _ _ _ _ _ _ us hl => match us, hl with | [_], _ => rfl
  have F_mixed := fun_mk (st := s_l_mixed) l_mixed c_mixed k_mixed
  have b_mixed := F_mixed.binds (ps := ["_law_cell", "_law_count"]) fun _ _ _ _ _ _ us hl => match us, hl with | [_, _], _ => rfl
  have F_draw := fun_mk (st := s_l_draw) l_draw c_draw k_draw
  have b_draw := F_draw.binds (ps := ["_law_source_here", "_law_size"]) fun _ _ _ _ _ _ us hl => match us, hl with | [_, _], _ => rfl
  have F_word := fun_mk (st := s_l_word) l_word c_word k_word
  have b_word := F_word.binds (ps := ["_law_source_here"]) fun _ _ _ _ _ _ us hl => match us, hl with | [_], _ => rfl
  have F_number := fun_mk (st := s_l_number) l_number c_number k_number
  have b_number := F_number.binds (ps := ["_law_source_here"]) fun _ _ _ _ _ _ us hl => match us, hl with | [_], _ => rfl
  have F_pairs := fun_mk (st := s_l_pairs) l_pairs c_pairs k_pairs
  have b_pairs := F_pairs.binds (ps := ["_law_source_here", "_law_most"]) fun _ _ _ _ _ _ us hl => match us, hl with | [_, _], _ => rfl
  have F_model := fun_mk (st := s_l_model) l_model c_model k_model
  have b_model := F_model.binds (ps := ["_law_pairs_here"]) fun _ _ _ _ _ _ us hl => match us, hl with | [_], _ => rfl
  have F_told := fun_mk (st := s_l_told) l_told c_told k_told
  have b_told := F_told.binds (ps := ["_law_model_here"]) fun _ _ _ _ _ _ us hl => match us, hl with | [_], _ => rfl
  have F_lint := fun_mk (st := s_l_is_integer) l_lint c_lint k_lint
  have b_lint := F_lint.binds (ps := ["_law_thing"]) fun _ _ _ _ _ _ us hl => match us, hl with | [_], _ => rfl
  have F_equal := fun_mk (st := s_l_equal) l_equal c_equal k_equal
  have b_equal := F_equal.binds (ps := ["_law_counts", "_law_model_here"]) fun _ _ _ _ _ _ us hl => match us, hl with | [_, _], _ => rfl
  have F_picked := fun_mk (st := s_l_picked) l_picked c_picked k_picked
  have b_picked := F_picked.binds (ps := ["_law_model_here", "_law_words"]) fun _ _ _ _ _ _ us hl => match us, hl with | [_, _], _ => rfl
  have F_apart := fun_mk (st := s_l_apart) l_apart c_apart k_apart
  have b_apart := F_apart.binds (ps := ["_law_counts", "_law_model_here", "_law_other", "_law_other_model"]) fun _ _ _ _ _ _ us hl => match us, hl with | [_, _, _, _], _ => rfl
  have F_law := fun_mk (st := s_law) l_law c_law k_law
  have b_law := F_law.binds (ps := ["_law_script"]) fun _ _ _ _ _ _ us hl => match us, hl with | [_], _ => rfl
  have F_init := fun_mk (st := s_Counts_init) l_init c_init k_init
  have F_mwords := fun_mk (st := s_Counts_words) l_mwords c_mwords k_mwords
  have b_mwords := F_mwords.binds (ps := ["self"]) fun _ _ _ _ _ _ us hl => match us, hl with | [_], _ => rfl
  have F_mpairs := fun_mk (st := s_Counts_pairs) l_mpairs c_mpairs k_mpairs
  have b_mpairs := F_mpairs.binds (ps := ["self"]) fun _ _ _ _ _ _ us hl => match us, hl with | [_], _ => rfl
  have F_mcopy := fun_mk (st := s_Counts_copy) l_mcopy c_mcopy k_mcopy
  have b_mcopy := F_mcopy.binds (ps := ["self"]) fun _ _ _ _ _ _ us hl => match us, hl with | [_], _ => rfl
  have F_monly := fun_mk (st := s_Counts_only) l_monly c_monly k_monly
  have F_mlen := fun_mk (st := s_Counts_len) l_mlen c_mlen k_mlen
  have b_mlen := F_mlen.binds (ps := ["self"]) fun _ _ _ _ _ _ us hl => match us, hl with | [_], _ => rfl
  have F_mset := fun_mk (st := s_Counts_setitem) l_mset c_mset k_mset
  have b_mset := F_mset.binds (ps := ["self", "word", "number"]) fun _ _ _ _ _ _ us hl => match us, hl with | [_, _, _], _ => rfl
  have F_mof := fun_mk (st := s_Counts_of) l_mof c_mof k_mof
  have b_mof := F_mof.binds (ps := ["cls", "pairs"]) fun _ _ _ _ _ _ us hl => match us, hl with | [_, _], _ => rfl
  have F_mtotal := fun_mk (st := s_Counts_total) l_mtotal c_mtotal k_mtotal
  have b_mtotal := F_mtotal.binds (ps := ["self"]) fun _ _ _ _ _ _ us hl => match us, hl with | [_], _ => rfl
  refine ⟨PySem.W.fnOf "law" "law" (defArgs s_law) (defBody s_law) (defScope s_law) .none kV_law dc_law pm_law an_law cd_law ct_law, fun s v => .of_eq rfl, fun base _ _ => ?_⟩
  have M := fun {x : Str} {v : Value} (a : PySem.W.nsIn K mainGlobals x = some (some v)) => PySem.W.mg_of X G a
  have FII : Def l.prog w K mg base CX0 1 "is_integer" ["thing"] (spIsInteger K) f_isint _ := ⟨ok_is_integer F_isint g, M a_isint, k_isint, b_isint⟩
  have FIW : Def l.prog w K mg base CX0 1 "is_word" ["thing"] (spIsWord K) f_isword _ := ⟨ok_is_word F_isword g (M a_LET), M a_isword, k_isword, b_isword⟩
  have FIS : Def l.prog w K mg base CX0 2 "is_small" ["thing"] (spIsSmall K) f_issmall _ := ⟨ok_is_small F_issmall g FII, M a_issmall, k_issmall, b_issmall⟩
  have FIP : Def l.prog w K mg base CX0 3 "is_pair" ["thing"] (spIsPair K) f_ispair _ := ⟨ok_is_pair F_ispair g FIW FIS, M a_ispair, k_ispair, b_ispair⟩
  have FDI : Def l.prog w K mg base CX0 1 "distinct" ["words"] (spDistinct K) f_distinct _ := ⟨ok_distinct F_distinct g, M a_distinct, k_distinct, b_distinct⟩
  have FSO : Def l.prog w K mg base CX0 1 "_law_source" ["_law_script"] (spSource K) f_source _ := ⟨ok_source F_source g, M a_source, k_source, b_source⟩
  have FDR : Def l.prog w K mg base CX0 2 "_law_draw" ["_law_source_here", "_law_size"] spDraw f_draw _ := ⟨ok_draw F_draw g F_mixed (M a_mixed) b_mixed, M a_draw, k_draw, b_draw⟩
  have FWD : Def l.prog w K mg base CX0 3 "_law_word" ["_law_source_here"] spWord f_word _ := ⟨ok_word F_word g FDR, M a_word, k_word, b_word⟩
  have FNU : Def l.prog w K mg base CX0 3 "_law_number" ["_law_source_here"] spNumber f_number _ := ⟨ok_number F_number g FDR, M a_number, k_number, b_number⟩
  have FPA : Def l.prog w K mg base CX0 4 "_law_pairs" ["_law_source_here", "_law_most"] spPairs f_pairs _ := ⟨ok_pairs F_pairs g FDR FWD FNU, M a_pairs, k_pairs, b_pairs⟩
  have FMO : Def l.prog w K mg base CX0 1 "_law_model" ["_law_pairs_here"] spModel f_model _ := ⟨ok_model F_model g, M a_model, k_model, b_model⟩
  have FTO : Def l.prog w K mg base CX0 1 "_law_told" ["_law_model_here"] spTold f_told _ := ⟨ok_told F_told g, M a_told, k_told, b_told⟩
  have FLI : Def l.prog w K mg base CX0 1 "_law_is_integer" ["_law_thing"] (spIsInteger K) f_lint _ := ⟨ok_lint F_lint g, M a_lint, k_lint, b_lint⟩
  have cl : Cls K C := ⟨pg_C, hd_C, po_C, sa_C⟩
  have T : CT l.prog w K mg base C f_init := ⟨cl, n_C_held, M a_C, ⟨mk_C, a_init, i_init, kc_C⟩, ok_init g cl n_C_held l_init c_init⟩
  have MWO : MDef l.prog w K mg base CX0 2 C "words" ["self"] (spWords C) f_mwords _ := ⟨⟨a_mwords, i_mwords, k_mwords⟩, ok_words F_mwords g T FDI, b_mwords⟩
  have MPA : MDef l.prog w K mg base CX0 3 C "pairs" ["self"] (spPairsM C) f_mpairs _ := ⟨⟨a_mpairs, i_mpairs, k_mpairs⟩, ok_pairsM F_mpairs g T MWO, b_mpairs⟩
  have MCO : MDef l.prog w K mg base CX0 4 C "copy" ["self"] (spCopy C) f_mcopy _ := ⟨⟨a_mcopy, i_mcopy, k_mcopy⟩, ok_copy F_mcopy g T MPA, b_mcopy⟩
  have MON : RDef l.prog w K mg base CX0 4 C "only" (spOnly C) f_monly := ⟨⟨a_monly, i_monly, k_monly⟩, ok_only g T MPA l_monly c_monly⟩
  have MOF : KDef l.prog w K mg base CX0 4 C (.type "type") "of" (spOf K C) q_mof f_mof := ⟨⟨rd_C, ga_C⟩, ⟨a_mof, ⟨_, rc_mof⟩, fi_mof⟩, fnR_of (ok_of F_mof g T FIP) b_mof⟩
  have MLE : SDef l.prog w K mg base CX0 1 C "__len__" ["self"] (spLen C) f_mlen _ := ⟨⟨a_mlen, i_mlen⟩, ns_C, ok_len F_mlen g T, b_mlen⟩
  have MSE : SDef l.prog w K mg base CX0 3 C "__setitem__" ["self", "word", "number"] (spSet C) f_mset _ := ⟨⟨a_mset, i_mset⟩, ns_C, ok_set F_mset g T FIW FIS, b_mset⟩
  have PTO : PDef l.prog w K mg base CX0 1 C "total" (spTotal C) q_mtotal f_mtotal _ := ⟨⟨a_mtotal, g_mtotal, t_mtotal, ⟨_, rc_mtotal⟩⟩, ok_total F_mtotal g T, b_mtotal⟩
  have FEQ : Def l.prog w K mg base CX0 4 "_law_equal" ["_law_counts", "_law_model_here"] (spEqual C) f_equal _ := ⟨ok_equal F_equal g T MPA FTO FLI, M a_equal, k_equal, b_equal⟩
  have FPI : Def l.prog w K mg base CX0 1 "_law_picked" ["_law_model_here", "_law_words"] spPicked f_picked _ := ⟨ok_picked F_picked g, M a_picked, k_picked, b_picked⟩
  have FAP : Def l.prog w K mg base CX0 5 "_law_apart" ["_law_counts", "_law_model_here", "_law_other", "_law_other_model"] (spApart C) f_apart _ := ⟨ok_apart F_apart g T FEQ FTO MSE PTO, M a_apart, k_apart, b_apart⟩
  exact ok_law F_law g T FSO FPA FMO MOF FWD FDR MWO FTO MLE MON FPI MCO FEQ FAP
theorem walk {l : PySem.W.OpenLaw} {q : Program} {loose : List Str} {XP : (Str → Option Value) → Heap → Prop} {YP : World → Heap → Prop} {d : DefRec} {K : Params → PySem.W.Frag} (hn : l.most = some 63) (hdf : d.params.defaults = [])
    (hY : ∀ (w : World) (h : Heap), YP w h → (K w.params).In h)
    (F : ∀ (w : World) (mg : Str → Option Value) (fa : Addr) (h : Heap), (K w.params).In h → h.Ns mainGlobals mg → mg d.name = some (.ref fa) →
      ∃ fd : FuncData, (∀ (s : Shared) (u : Value), BindsTo s fd ⟨[u], []⟩ [("_law_script", u)]) ∧ ∀ base : Heap, (K w.params).In base → base.Ns mainGlobals mg → FnOk l.prog w (K w.params) mg base CX0 6 fa fd ["_law_script"] (spLaw (K w.params))) :
    PySem.W.WalkO q loose XP YP l.row.toRowW d [] (fun f vs => PySem.call f vs) :=
  L2.walk_of (n := 63) (k := 6) (x := "_law_script") (CX := fun _ => CX0) (sp := fun w => spLaw (K w.params)) hn (by decide) hdf ⟨rfl, by decide, by decide⟩ hY F (fun _ _ a ns hl _ hS => ⟨a, ns, rfl, hS, hl, fun _ => rfl⟩) fun _ _ _ _ _ z => z
end Cs
open PySem PySem.W PyProof.Rows
set_option maxRecDepth 100000 in
set_option maxHeartbeats 0 in
theorem PySem.Challenge.cw_countsheld_k11_chosen_words_holds : PySem.Challenge.rw_countsheld_k11_chosen_words.Holds := by
  w_on; o_law; k_head; (case hw => w_witness2)
  k_fill
  refine Cs.walk (l := PySem.Challenge.rw_countsheld_k11_chosen_words) rfl rfl (fun w h Y => PySem.W.kIn_of Y) ?F
  case F =>
    intro w mg fa h KX G hmg
    refine' Cs.all_mk KX G hmg ?a_isint ?l_isint ?c_isint ?k_isint ?a_isword ?l_isword ?c_isword ?k_isword ?a_issmall ?l_issmall ?c_issmall ?k_issmall ?a_distinct ?l_distinct ?c_distinct ?k_distinct ?a_ispair ?l_ispair ?c_ispair ?k_ispair ?a_source ?l_source ?c_source ?k_source ?a_mixed ?l_mixed ?c_mixed ?k_mixed ?a_draw ?l_draw ?c_draw ?k_draw ?a_word ?l_word ?c_word ?k_word ?a_number ?l_number ?c_number ?k_number ?a_pairs ?l_pairs ?c_pairs ?k_pairs ?a_model ?l_model ?c_model ?k_model ?a_told ?l_told ?c_told ?k_told ?a_lint ?l_lint ?c_lint ?k_lint ?a_equal ?l_equal ?c_equal ?k_equal ?a_picked ?l_picked ?c_picked ?k_picked ?a_apart ?l_apart ?c_apart ?k_apart ?a_law ?l_law ?c_law ?k_law ?a_C ?pg_C ?hd_C ?po_C ?sa_C ?mk_C ?kc_C ?ns_C ?n_C_held ?a_init ?i_init ?l_init ?c_init ?k_init ?a_mwords ?i_mwords ?l_mwords ?c_mwords ?k_mwords ?a_mpairs ?i_mpairs ?l_mpairs ?c_mpairs ?k_mpairs ?a_mcopy ?i_mcopy ?l_mcopy ?c_mcopy ?k_mcopy ?a_monly ?i_monly ?l_monly ?c_monly ?k_monly ?a_mlen ?i_mlen ?l_mlen ?c_mlen ?k_mlen ?a_mset ?i_mset ?l_mset ?c_mset ?k_mset ?a_mof ?rc_mof ?l_mof ?c_mof ?fi_mof ?k_mof ?a_mtotal ?g_mtotal ?t_mtotal ?rc_mtotal ?l_mtotal ?c_mtotal ?k_mtotal ?rd_C ?ga_C ?a_LET ?z_len ?z_int ?z_abs ?z_list ?z_range ?z_sorted ?z_str ?z_isinstance ?z_sum ?z_tuple ?z_dict ?z_all ?z_bool ?z_enumerate
    (case a_isint => k_is)
    (case l_isint => k_is)
    (case c_isint => k_is)
    (case k_isint => k_is)
    (case a_isword => k_is)
    (case l_isword => k_is)
    (case c_isword => k_is)
    (case k_isword => k_is)
    (case a_issmall => k_is)
    (case l_issmall => k_is)
    (case c_issmall => k_is)
    (case k_issmall => k_is)
    (case a_distinct => k_is)
    (case l_distinct => k_is)
    (case c_distinct => k_is)
    (case k_distinct => k_is)
    (case a_ispair => k_is)
    (case l_ispair => k_is)
    (case c_ispair => k_is)
    (case k_ispair => k_is)
    (case a_source => k_is)
    (case l_source => k_is)
    (case c_source => k_is)
    (case k_source => k_is)
    (case a_mixed => k_is)
    (case l_mixed => k_is)
    (case c_mixed => k_is)
    (case k_mixed => k_is)
    (case a_draw => k_is)
    (case l_draw => k_is)
    (case c_draw => k_is)
    (case k_draw => k_is)
    (case a_word => k_is)
    (case l_word => k_is)
    (case c_word => k_is)
    (case k_word => k_is)
    (case a_number => k_is)
    (case l_number => k_is)
    (case c_number => k_is)
    (case k_number => k_is)
    (case a_pairs => k_is)
    (case l_pairs => k_is)
    (case c_pairs => k_is)
    (case k_pairs => k_is)
    (case a_model => k_is)
    (case l_model => k_is)
    (case c_model => k_is)
    (case k_model => k_is)
    (case a_told => k_is)
    (case l_told => k_is)
    (case c_told => k_is)
    (case k_told => k_is)
    (case a_lint => k_is)
    (case l_lint => k_is)
    (case c_lint => k_is)
    (case k_lint => k_is)
    (case a_equal => k_is)
    (case l_equal => k_is)
    (case c_equal => k_is)
    (case k_equal => k_is)
    (case a_picked => k_is)
    (case l_picked => k_is)
    (case c_picked => k_is)
    (case k_picked => k_is)
    (case a_apart => k_is)
    (case l_apart => k_is)
    (case c_apart => k_is)
    (case k_apart => k_is)
    (case a_law => k_is)
    (case l_law => k_is)
    (case c_law => k_is)
    (case k_law => k_is)
    (case a_C => k_is)
    (case pg_C => k_is)
    (case hd_C => k_is)
    (case po_C => k_is)
    (case sa_C => k_is)
    (case mk_C => k_is)
    (case kc_C => k_is)
    (case ns_C => k_is)
    (case n_C_held => k_is)
    (case a_init => k_is)
    (case i_init => k_is)
    (case l_init => k_is)
    (case c_init => k_is)
    (case k_init => k_is)
    (case a_mwords => k_is)
    (case i_mwords => k_is)
    (case l_mwords => k_is)
    (case c_mwords => k_is)
    (case k_mwords => k_is)
    (case a_mpairs => k_is)
    (case i_mpairs => k_is)
    (case l_mpairs => k_is)
    (case c_mpairs => k_is)
    (case k_mpairs => k_is)
    (case a_mcopy => k_is)
    (case i_mcopy => k_is)
    (case l_mcopy => k_is)
    (case c_mcopy => k_is)
    (case k_mcopy => k_is)
    (case a_monly => k_is)
    (case i_monly => k_is)
    (case l_monly => k_is)
    (case c_monly => k_is)
    (case k_monly => k_is)
    (case a_mlen => k_is)
    (case i_mlen => k_is)
    (case l_mlen => k_is)
    (case c_mlen => k_is)
    (case k_mlen => k_is)
    (case a_mset => k_is)
    (case i_mset => k_is)
    (case l_mset => k_is)
    (case c_mset => k_is)
    (case k_mset => k_is)
    (case a_mof => k_is)
    (case rc_mof => k_is)
    (case l_mof => k_is)
    (case c_mof => k_is)
    (case fi_mof => k_is)
    (case k_mof => k_is)
    (case a_mtotal => k_is)
    (case g_mtotal => k_is)
    (case t_mtotal => k_is)
    (case rc_mtotal => k_is)
    (case l_mtotal => k_is)
    (case c_mtotal => k_is)
    (case k_mtotal => k_is)
    (case rd_C => k_is)
    (case ga_C => k_is)
    (case a_LET => k_is)
    (case z_len => k_is)
    (case z_int => k_is)
    (case z_abs => k_is)
    (case z_list => k_is)
    (case z_range => k_is)
    (case z_sorted => k_is)
    (case z_str => k_is)
    (case z_isinstance => k_is)
    (case z_sum => k_is)
    (case z_tuple => k_is)
    (case z_dict => k_is)
    (case z_all => k_is)
    (case z_bool => k_is)
    (case z_enumerate => k_is)
